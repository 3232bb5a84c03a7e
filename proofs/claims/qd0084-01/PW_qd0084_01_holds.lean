import PyProof.Rows.All
import Open.Pieces
import OpenK.KMake
import OpenK.KWalk
import OpenK.KMeth
import OpenK.KLine
import PyProof.NeKinds
import PyProof.Rows.TupTab
import PyProof.Rows.TupIn
import KE.KEqDict
import PyProof.AutoIntOps
import PyProof.SliceMore
import PyProof.Rows.TupMore
import KE.KRevSl
import PyProof.RulesAssignMore
import PyProof.Rows.TupAssign
import PyProof.Rows.DictMethods
import PyProof.AssignAttr
import KE.KDictLaws
import PyProof.Rows.StrJoin2
import PyProof.StrCalls3
import PyProof.Rows.SortStr
import KE.KDictSum
import PyProof.CallStr
import PyProof.RangeFor
import PyProof.WalkInts
import PyProof.TupleOfSeq
import PyProof.TupleCall
import PyProof.StrCalls6
import PyProof.StrCalls5
import PyProof.Rows.StrStrike
import KE.KNest
import PyProof.Rows.ExtendIn
import KE.LcSums
import PyProof.TupleIter
import PyProof.ForAny
import PyProof.RangeIter
import PyProof.CompFree
import PyProof.CompMap
import PyProof.DictCompW
import PyProof.CompUse
import PyProof.WalksMore
import Wide.Line
import PyProof.P3Eq
import PySem.Challenge.RW_qd0084_01
set_option linter.unusedVariables false
set_option linter.defProp false
set_option maxRecDepth 20000
set_option maxHeartbeats 4000000
set_option genSizeOf false
set_option tactic.hygienic false
set_option backward.match.sparseCases false
set_option genInjectivity false
set_option bootstrap.genMatcherCode false
noncomputable section
namespace Mine
theorem qF:type_of% @Nat.le_trans:=@Nat.le_trans
theorem qG:type_of% @Classical.byContradiction:=@Classical.byContradiction
theorem qH:type_of% @List.length_map.{0,0}:=@List.length_map
theorem qI:type_of% @Nat.lt_of_le_of_lt:=@Nat.lt_of_le_of_lt
theorem qJ:type_of% @Nat.le_add_right:=@Nat.le_add_right
theorem qK:type_of% @Nat.le_of_eq:=@Nat.le_of_eq
theorem qL:type_of% @Nat.add_le_add_left:=@Nat.add_le_add_left
theorem qM:type_of% @List.length_append.{0}:=@List.length_append
theorem qN:type_of% @Option.some.inj.{0}:=@Option.some.inj
theorem qO:type_of% @List.mem_singleton.{0}:=@List.mem_singleton
theorem qP:type_of% @Nat.le_add_left:=@Nat.le_add_left
theorem qQ:type_of% @Nat.lt_of_lt_of_le:=@Nat.lt_of_lt_of_le
theorem qR:type_of% @Nat.add_le_add_right:=@Nat.add_le_add_right
theorem qS:type_of% @List.append_nil.{0}:=@List.append_nil
theorem qT:type_of% @Nat.le_refl:=@Nat.le_refl
theorem qU:type_of% @List.map_append.{0,0}:=@List.map_append
theorem qV:type_of% @List.mem_cons.{0}:=@List.mem_cons
theorem qW:type_of% @List.not_mem_nil.{0}:=@List.not_mem_nil
theorem qX:type_of% @List.contains_iff_mem.{0}:=@List.contains_iff_mem
theorem qY:type_of% @List.map_map.{0,0,0}:=@List.map_map
theorem qZ:type_of% @List.append_assoc.{0}:=@List.append_assoc
theorem z4:type_of% @Nat.mul_le_mul_right:=@Nat.mul_le_mul_right
theorem z5:type_of% @List.mem_map_of_mem.{0,0}:=@List.mem_map_of_mem
theorem z6:type_of% @List.all_eq_true.{0}:=@List.all_eq_true
theorem z7:type_of% @Nat.succ_le_succ:=@Nat.succ_le_succ
theorem z8:type_of% @Nat.le_of_ble_eq_true:=@Nat.le_of_ble_eq_true
theorem z9:type_of% @Nat.le_of_lt:=@Nat.le_of_lt
theorem zA:type_of% @Nat.zero_le:=@Nat.zero_le
theorem zB:type_of% @List.forall_mem_cons.{0}:=@List.forall_mem_cons
theorem zC:type_of% @List.mem_map.{0,0}:=@List.mem_map
theorem zD:type_of% @Int.natCast_nonneg:=@Int.natCast_nonneg
theorem zE:type_of% @Bool.and_eq_true_iff:=@Bool.and_eq_true_iff
theorem zG:type_of% @Nat.lt_add_of_pos_right:=@Nat.lt_add_of_pos_right
theorem zH:type_of% @List.mem_append.{0}:=@List.mem_append
theorem zI:type_of% @Int.ofNat_lt:=@Int.ofNat_lt
theorem zJ:type_of% @Nat.le_of_succ_le_succ:=@Nat.le_of_succ_le_succ
theorem zK:type_of% @Nat.le_of_succ_le:=@Nat.le_of_succ_le
theorem zM:type_of% @List.mem_append_right.{0}:=@List.mem_append_right
theorem zN:type_of% @Option.map_eq_some_iff.{0,0}:=@Option.map_eq_some_iff
theorem zO:type_of% @List.mem_filter.{0}:=@List.mem_filter
theorem zP:type_of% @Nat.le_max_left:=@Nat.le_max_left
theorem zQ:type_of% @Nat.le_max_right:=@Nat.le_max_right
theorem zR:type_of% @Nat.mul_le_mul_left:=@Nat.mul_le_mul_left
theorem zS:type_of% @List.getElem?_eq_getElem.{0}:=@List.getElem?_eq_getElem
theorem zT:type_of% @of_decide_eq_true:=@of_decide_eq_true
theorem zU:type_of% @decide_eq_true:=@decide_eq_true
theorem zV:type_of% @beq_eq_false_iff_ne.{0}:=@beq_eq_false_iff_ne
theorem zW:type_of% @List.size_toArray.{0}:=@List.size_toArray
theorem zX:type_of% @PySem.Heap.get?_push_of_some:=@PySem.Heap.get?_push_of_some
theorem zY:type_of% @PySem.Heap.get?_push_size:=@PySem.Heap.get?_push_size
section
open PySem PySem.W PyProof.Rows
noncomputable def q4F(i:Nat):Option Stmt:=PySem.Challenge.pw_qd0084_01.main.body[i]?
noncomputable def PM(i:Nat):Option DefRec:=match q4F i with
 | some (.FunctionDef name a b _ _ _ sc _ _ pos)=>some ⟨name,a,b,sc,pos⟩
 | _=>none
noncomputable def W3(i:Nat):List Stmt:=match q4F i with
 | some (.ClassDef _ _ _ b _ _ _ _ _ _ _)=>b
 | _=>[]
noncomputable def lX(m:PySem.Str):List Stmt->Option MethRec
 | []=>none
 | .FunctionDef name a b _ _ _ sc _ _ _::r=>if name==m then some ⟨name,a,b,sc⟩else lX m r
 | _::r=>lX m r
noncomputable def kP:List (String×String×String×Nat):=[
 ("TypeTable.__init__","TypeTable","__init__",51),("TypeTable.row","TypeTable","row",51),("TypeTable.put","TypeTable","put",51),
 ("Thin.__init__","Thin","__init__",88),("Thin.force","Thin","force",88),
 ("Finder.__init__","Finder","__init__",117),("Finder.walk","Finder","walk",117),("Finder.optional","Finder","optional",117),("Finder.add_low","Finder","add_low",117),("Finder.add","Finder","add",117)]
noncomputable def rU:List (String×Nat×List Int):=[("str_type",53,[0]),("num_type",54,[0]),("array_type",55,[0]),("tuple_type",59,[0]),("new_param",60,[-1,-1])]
noncomputable def Z4:List (String×Int):=[("ANY",0),("ERR",13),("E_NEED",0),("E_OPT",1),("E_REST",2),("E_SPREAD",3),("FALSE_T",8),("FRESH_F",14),("FRESH_T",15),("MAX_UNION",400),("MOST_ROUNDS",200),("MOST_SEEK",24),("MOST_SHAPES",40),("NEVER",2),("NULLT",5),("NUMBER",7),("STRING",6),("TRUE_T",9),("UNDEF",4),("UNKNOWN",1),
 ("Y_ALIAS",19),("Y_ARRAY",11),("Y_COND",16),("Y_ENUM",5),("Y_INTER",7),("Y_KEY",1),("Y_MAPPED",17),("Y_NUM",4),("Y_OBJ",8),("Y_PARAM",10),("Y_REF",9),("Y_SIG",13),("Y_STR",3),("Y_TPL",18),("Y_TUPLE",12),("Y_UNION",6)]
noncomputable def WH:List String:=["TypeTable","Thin","Finder"]
noncomputable def EN:List String:=["len","range","min","sorted","tuple","str","any"]
noncomputable def EM:List String:=["rows","index","decls","bounds","defaults","names","origins","renamed","shaping","putting","tab","deep","most_rounds","most_deep","host","pids","found","seen","holds","count","level","both","lower","low"]
noncomputable def q6A:List (String×String):=[("TypeTable","row"),("TypeTable","put"),("Thin","force"),("Finder","walk"),("Finder","optional"),("Finder","add_low"),("Finder","add")]
noncomputable def nV:Option Value->Option Addr
 | some (.ref a)=>some a
 | _=>none
noncomputable def cA(h:Heap)(c:String):Option Addr:=match h.clsAt mainGlobals (Str.ofString c)with
 | some (_,_,cd)=>some cd.ns
 | none=>none
noncomputable def gV(h:Heap)(n:String):Addr:=match kP.find? fun p=>p.1==n with
 | some p=>((cA h p.2.1).bind fun N=>nV (h.nsMap N (Str.ofString p.2.2.1))).getD 0
 | none=>(nV (h.nsMap mainGlobals (Str.ofString n))).getD 0
noncomputable def BR(h:Heap):List Addr:=WH.flatMap (fun c=>gV h c::(cA h c).toList)++kP.map fun p=>gV h p.1
noncomputable def BS(h:Heap):Frag:=(BR h).filterMap fun a=>(h.get? a).map fun o=>(a,o)
def EY(h:Heap):(BS h).In h:=fun a o=>by
 unfold BS;generalize BR h=l
 induction l with
 | nil=>exact fun e=>absurd (congrArg Option.isSome e) Bool.false_ne_true
 | cons b l ih =>
  rw[List.filterMap_cons];cases hb:h.get? b with
  | none=>exact ih
  | some ob =>
   show(((b,ob)::l.filterMap fun a=>(h.get? a).map fun o=>(a,o)).lookup a=some o)->_;rw[List.lookup_cons];cases q:a==b with
   | true=>exact fun e=>qN e▸(eq_of_beq q).symm▸hb
   | false=>exact ih
noncomputable def FB(K:Frag)(f:String->Addr)(c:String):Bool :=
 findIn K (.ref (f c)) "__getattribute__"==some (some (.builtin "object.__getattribute__"))&&findIn K (.ref (f c)) "__getattr__"==some none &&
 findIn K (.ref (f c)) "__setattr__"==some (some (.builtin "object.__setattr__"))&&plainOver K (f c)&&hasDictIn K (f c)&&makesIn K (f c) &&
 findIn K (.ref (f c)) "__init__"==some (some (.ref (f (c++".__init__"))))&&keepIn K (.ref (f c))&&typeIn K (.ref (f (c++".__init__")))==some (.type "function") &&
 EM.all fun n=>findIn K (.ref (f c)) (Str.ofString n)==some none
noncomputable def oV(K:Frag)(f:String->Addr)(p:String×String):Bool :=
 findIn K (.ref (f p.1)) (Str.ofString p.2)==some (some (.ref (f (p.1++"."++p.2))))&&typeIn K (.ref (f (p.1++"."++p.2)))==some (.type "function")
noncomputable def VA(K:Frag):Bool:=K.all fun p=>match p.2.cls,p.2.data with
 | .none,.fields _=>false
 | _,_=>true
noncomputable def WI:List (Int×Int×Int):=[(11,1,2),(14,1,2),(15,1,3),(16,1,5),(17,2,5)]
noncomputable def E3:Data->Option (List DictEntry)
 | .dict es _=>some es.toList
 | _=>none
noncomputable def m5(h:Heap):List DictEntry->List (Int×Int×Int)->Bool
 | [],[]=>true
 | e::es,p::r=>litAt h (.int p.1) e.key&&(e.hash==hashInt p.1&&(litAt h (.tuple [.int p.2.1,.int p.2.2]) e.val&&m5 h es r))
 | _,_=>false
noncomputable def N0(h:Heap):Bool:=(nV (h.nsMap mainGlobals (Str.ofString "KID_SPANS"))).any fun a=>!(a==sysModules)&&(h.get? a).any fun o=>o.cls==.type "dict"&&(o.dict.isNone&&(o.slots.size==0&&(E3 o.data).any fun es=>m5 h es WI))
noncomputable def BB:WData:=.tuple [.tuple [.int 1,.str ⟨#[97,110,121]⟩],.tuple [.int 1,.str ⟨#[117,110,107,110,111,119,110]⟩],.tuple [.int 1,.str ⟨#[110,101,118,101,114]⟩],.tuple [.int 1,.str ⟨#[118,111,105,100]⟩],.tuple [.int 1,.str ⟨#[117,110,100,101,102,105,110,101,100]⟩],.tuple [.int 1,.str ⟨#[110,117,108,108]⟩],.tuple [.int 1,.str ⟨#[115,116,114,105,110,103]⟩],.tuple [.int 1,.str ⟨#[110,117,109,98,101,114]⟩],.tuple [.int 2,.int 0,.int 0],.tuple [.int 2,.int 1,.int 0],.tuple [.int 1,.str ⟨#[111,98,106,101,99,116]⟩],.tuple [.int 8,.tuple [],.tuple [],.tuple [],.tuple [],.tuple [],.int 0],.tuple [.int 6,.tuple [.int 8,.int 9]],.tuple [.int 1,.str ⟨#[101,114,114,111,114]⟩],.tuple [.int 2,.int 0,.int 1],.tuple [.int 2,.int 1,.int 1]]
noncomputable def oE:WData:=.tuple [.int 2,.int 3,.int 4,.int 5,.int 8]
noncomputable def oP(h:Heap)(x:String)(d:WData):Bool:=(h.nsMap mainGlobals (Str.ofString x)).any (litAt h d)
noncomputable def hY(h:Heap):Bool :=
 h.isNs mainGlobals&&(WH.all (FB (BS h) (gV h))&&(q6A.all (oV (BS h) (gV h))&&(VA (BS h)&&(N0 h&&(oP h "FIRST_ROWS" BB&&(oP h "MARKED_ROWS" oE&&((Z4.all fun p=>oP h p.1 (.int p.2)) &&
 (((h.get? sysModules).any fun o=>o.cls==.type "dict")&&((EN.all fun n=>(h.nsMap mainGlobals (Str.ofString n)).isNone)&&((WH.all fun c=>(nV (h.nsMap mainGlobals (Str.ofString c))).isSome) &&
 rU.all fun p=>(h.fnAt mainGlobals (Str.ofString p.1)).any fun f=>litAt h (.tuple (p.2.2.map .int)) f.2.2.defaults))))))))))
noncomputable def g8(h:Heap):List (Option FnShape):=kP.map fun p=>(cA h p.2.1).bind fun N=>h.shapeAt N (Str.ofString p.2.2.1)
noncomputable def tY(h:Heap):List (Option FnShape):=rU.map fun p=>shapeAtK h (Str.ofString p.1)
noncomputable def nM:List (Option FnShape):=kP.map fun p=>(lX (Str.ofString p.2.2.1) (W3 p.2.2.2)).map fun m=>m.shape (Str.ofString p.2.1)
noncomputable def n9:List (Option FnShape):=rU.map fun p=>(PM p.2.1).map fun d=>d.shape
def JZ(h:Heap):Prop:=(hY h,tY h,g8 h)=(true,n9,nM)
noncomputable def hkHook:Hook where
 α:=Bool×List (Option FnShape)×List (Option FnShape)
 obs:=fun s=>(hY s.heap,tY s.heap,g8 s.heap)
 val:=fun z0=>(true,n9,nM)
 says:=fun z0 h=>∃h0,JZ h0/\∀b o,h0.get? b=some o->h.get? b=some o
 of:=fun z0 s e=>⟨s.heap,e,fun z0 z0 e=>e⟩
 keeps:=fun _ _ _ ⟨h0,e,k⟩ k'=>⟨h0,e,fun b o q=>k' b o (k b o q)⟩
def R0:List DefRec:=(recsOf PySem.Challenge.pw_qd0084_01).filter fun r=>!(rU.any fun f=>Str.ofString f.1==r.name)
abbrev LawW:Prop:=∀(q:Program)(loose:List PySem.Str)(XP:(PySem.Str->Option Value)->Heap->Prop)(d:DefRec)(kwd:List (PySem.Str×Expr)),recsOf q=R0->(R0.find? fun r=>r.name==Str.ofString "law")=some d ->
 WalkO q loose XP hkHook.says PySem.Challenge.rw_qd0084_01.row.toRowW d kwd fun f vs=>PySem.call f vs
end
end Mine
-- placeholders: they hold the names under which twins of the head's own constants (400 MB) would be laid; nothing refers to them
namespace MineH.h
def tw9275408600530125159:=Nat
def tw4523499954577298007:=Nat
def tw10374548213503408409:=Nat
def tw14612224484730678677:=Nat
def tw4785690163151862045:=Nat
def tw13587202953192945675:=Nat
def tw878452982066207622:=Nat
def tw14683273817789139646:=Nat
def tw13813550513112681981:=Nat
def tw16122623483310081372:=Nat
def tw11349610439477736474:=Nat
def tw13107444739262249862:=Nat
def tw6502802124649255362:=Nat
def tw64408486378647304:=Nat
def tw7002578957221785221:=Nat
def tw11408188488640822939:=Nat
def tw2487055079889903494:=Nat
def tw11896071814527199370:=Nat
def tw13119833014153359889:=Nat
def tw2279676045159339625:=Nat
def tw9051052743979746988:=Nat
def tw9896781969403415122:=Nat
def tw12402510647851877503:=Nat
def tw2091107812760760276:=Nat
def tw4474935411201591620:=Nat
def tw3935491947485537731:=Nat
def tw13517243086808574021:=Nat
def tw5855267323706284013:=Nat
def tw3403212866031431113:=Nat
def tw3991510466423723183:=Nat
def tw9260398907471853225:=Nat
def tw17565053923037857417:=Nat
def tw15371399220114280046:=Nat
def tw5841889249869512153:=Nat
def tw1244061836486127977:=Nat
def tw17046197852094079767:=Nat
def tw8858183322741742291:=Nat
def tw7339422303092036836:=Nat
def tw8573563072592130559:=Nat
def tw17408196694366661902:=Nat
def tw6502948833067456444:=Nat
def tw1438238802127343012:=Nat
def tw11273339592398133082:=Nat
def tw5306644761082697959:=Nat
def tw11676980556545104884:=Nat
def tw12670571404135494531:=Nat
def tw309475325755082502:=Nat
def tw2990692118554100478:=Nat
def tw8868851164758704320:=Nat
def tw16825155928357184217:=Nat
def tw1304383880115062356:=Nat
def tw11915317758442229063:=Nat
def tw12360576619502121948:=Nat
def tw1354080649027776410:=Nat
def tw13192072192368299482:=Nat
def tw856713264941734548:=Nat
def tw8293768906648753017:=Nat
def tw13448338920030958737:=Nat
def tw17114946308971359004:=Nat
def tw10307126102961437134:=Nat
def tw15999327182449939658:=Nat
def tw4596201870406662691:=Nat
def tw14721765016661405355:=Nat
def tw4985214563082379321:=Nat
def tw15442195196492483178:=Nat
def tw14693174427237734279:=Nat
def tw2643961159119901033:=Nat
def tw3839672598460332597:=Nat
def tw9390644978525114074:=Nat
def tw523503304355411355:=Nat
def tw11124057530484178016:=Nat
def tw8978795083451987472:=Nat
def tw7072433751330878231:=Nat
def tw2831676778671553458:=Nat
def tw14383931822333007417:=Nat
def tw11425006213080142543:=Nat
def tw13641923911978395818:=Nat
def tw14259184879634970516:=Nat
def tw3387742899153145613:=Nat
def tw1813938703129643806:=Nat
def tw3150553951014512772:=Nat
def tw15369706079860541327:=Nat
def tw17472889493728354369:=Nat
def tw6756796469148769917:=Nat
def tw10191356809427280118:=Nat
def tw13473981443262240972:=Nat
def tw16592223096436345814:=Nat
def tw13312493663323467797:=Nat
def tw14902134908985679904:=Nat
def tw7290000082996828340:=Nat
def tw31654205389644165:=Nat
def tw10387800851801044091:=Nat
def tw3663016160326245699:=Nat
def tw1486278253100123601:=Nat
def tw15959738365429014581:=Nat
def tw4568118493100104271:=Nat
def tw5007557937553351567:=Nat
def tw7153505895177069150:=Nat
def tw15321607601670233822:=Nat
def tw18323009201343610188:=Nat
def tw16697688735674104153:=Nat
def tw799846539819276501:=Nat
def tw7875125904139347556:=Nat
def tw9753130194715254371:=Nat
def tw11091396331048113173:=Nat
def tw12308714896420949585:=Nat
def tw7262615954709368898:=Nat
def tw10710095202977755804:=Nat
def tw3009754296278121873:=Nat
def tw7206014530843302462:=Nat
def tw15069794674960342249:=Nat
def tw16805014819204411873:=Nat
def tw11038169104716990813:=Nat
def tw3640027960322796746:=Nat
def tw6229220681665487477:=Nat
def tw9663985767068128480:=Nat
def tw15642244203934829307:=Nat
def tw12222824589573838507:=Nat
def tw15311476804002668839:=Nat
def tw12954882674974509809:=Nat
def tw6543458086056670953:=Nat
def tw13295466890569601374:=Nat
def tw13889846146628142026:=Nat
def tw11912124595594687380:=Nat
def tw896212202096091276:=Nat
def tw2212806640851901426:=Nat
def tw8971939093758639182:=Nat
def tw2814669737485265773:=Nat
def tw13999210373058468946:=Nat
def tw3398947458642921840:=Nat
def tw634107948931268965:=Nat
def tw3742622238707528893:=Nat
def tw17541763783388478717:=Nat
def tw14420753905249576292:=Nat
def tw5373038354005662311:=Nat
def tw2257529283321840560:=Nat
def tw17895680487598333004:=Nat
def tw8776786519736003215:=Nat
def tw12792589238409817352:=Nat
def tw11007714214401981912:=Nat
def tw17305571050343520264:=Nat
def tw4169452348200422970:=Nat
def tw4998454920032501288:=Nat
def tw14294667240009432916:=Nat
def tw13170605391819268540:=Nat
def tw3532410930257954163:=Nat
def tw12398883739919557097:=Nat
def tw5140506399161416966:=Nat
def tw16750493865302388262:=Nat
def tw1918697444974395065:=Nat
def tw16927943022373069804:=Nat
def tw7141199782640962543:=Nat
def tw1407423196193832489:=Nat
def tw447959076536146221:=Nat
def tw696909679927845117:=Nat
def tw4339215923526917648:=Nat
def tw16821020737701470235:=Nat
def tw11618908866376623915:=Nat
def tw8971282936467054393:=Nat
def tw18246120513431323918:=Nat
def tw11716563916788094553:=Nat
def tw5180728376101877789:=Nat
def tw14553039149663609849:=Nat
def tw3220454357082683539:=Nat
def tw10070786796327328908:=Nat
def tw4870019884097652081:=Nat
def tw12108745212822745573:=Nat
def tw16075412353026750712:=Nat
def tw14859987282816081140:=Nat
def tw15805064878916329087:=Nat
def tw12641435601367494141:=Nat
def tw14205636625107509142:=Nat
def tw11384309994394951621:=Nat
def tw8205334996990475964:=Nat
def tw18399597523012792486:=Nat
def tw6501920796605762241:=Nat
def tw8778099739263778519:=Nat
def tw11891712661238019265:=Nat
def tw14997377280664650821:=Nat
def tw15941751006115150456:=Nat
def tw14713399493657001835:=Nat
def tw13270190291147712208:=Nat
def tw8199043878762238127:=Nat
def tw5388454970391178634:=Nat
def tw13745481444970619607:=Nat
def tw13014610552877043754:=Nat
def tw1614032684047125735:=Nat
def tw3933357899069950297:=Nat
def tw9983710647251732222:=Nat
def tw14078461970869043787:=Nat
def tw2981917790577420505:=Nat
def tw9277098339340592892:=Nat
def tw4544566638810484343:=Nat
def tw4497682707502093483:=Nat
def tw7051527341671967726:=Nat
def tw4607894082090597810:=Nat
def tw18137234142095986359:=Nat
def tw3307754612157885083:=Nat
def tw6892053779506059479:=Nat
def tw12172068268234540315:=Nat
def tw3518324881663673549:=Nat
def tw1971870910912398988:=Nat
def tw9224355430973847712:=Nat
def tw12015695567051764027:=Nat
def tw16106640187261848819:=Nat
def tw10099973577214544035:=Nat
def tw12241163095283898206:=Nat
def tw6057162013300692671:=Nat
def tw6840902296573694239:=Nat
def tw4651898320741330035:=Nat
def tw10968370245846122913:=Nat
def tw11670806166655481011:=Nat
def tw451086216449792340:=Nat
def tw17489692451080023883:=Nat
def tw11268757603391845559:=Nat
def tw14320893927059932298:=Nat
def tw8127713720125689097:=Nat
def tw5716557307065615204:=Nat
def tw3122333305440549097:=Nat
def tw6456881839164208239:=Nat
def tw10352723563716852289:=Nat
def tw314992340378180743:=Nat
def tw15818865500932614861:=Nat
def tw18279770650575653126:=Nat
def tw17821039145649862930:=Nat
def tw4938917777485480341:=Nat
def tw12765760366343656929:=Nat
def tw4842482587541934875:=Nat
def tw12865391416887711783:=Nat
def tw13128029489324625995:=Nat
def tw16607642016545323500:=Nat
def tw8875820016184753370:=Nat
def tw2836172698838145084:=Nat
def tw9804871393981133657:=Nat
def tw15804361611244843758:=Nat
def tw5182875570804533104:=Nat
def tw7621681433017442671:=Nat
def tw16743125577176464592:=Nat
def tw9645916923536396168:=Nat
def tw16107925485326621003:=Nat
def tw3897310569301175653:=Nat
def tw2259226316901843678:=Nat
def tw2862430209783440591:=Nat
def tw6457836892828215449:=Nat
def tw12256128902869755782:=Nat
def tw11553944647732083155:=Nat
def tw17054680516070444304:=Nat
def tw1456040172857594874:=Nat
def tw5221317787001272435:=Nat
def tw10234128947821886925:=Nat
def tw10813885939676629151:=Nat
def tw4985055292156182654:=Nat
def tw9789435357437010490:=Nat
def tw1691179498363875044:=Nat
def tw4941102200245006673:=Nat
def tw8650743203161987415:=Nat
def tw15611910163072095796:=Nat
def tw916083582463638603:=Nat
def tw11431772932301597623:=Nat
def tw6293716139069499909:=Nat
def tw13494659391338298855:=Nat
def tw6698510899891059223:=Nat
def tw3424737884433658523:=Nat
def tw6238617325690346172:=Nat
def tw9054359625734059169:=Nat
def tw16032351815922974751:=Nat
def tw6687914322543764707:=Nat
def tw14374524547007395518:=Nat
def tw9449366150796545524:=Nat
def tw6183808068030358247:=Nat
def tw6307438151871691119:=Nat
def tw3370963821671606258:=Nat
def tw1408216950603050031:=Nat
def tw1745283551272429779:=Nat
def tw6145771633963331385:=Nat
def tw11320409565659381740:=Nat
def tw17211333915677405284:=Nat
def tw15657651002408166038:=Nat
def tw1954860868511672824:=Nat
def tw17802055654553957865:=Nat
def tw12329546143235907480:=Nat
def tw10062220832667268277:=Nat
def tw8734546846159395178:=Nat
def tw5564810564452773914:=Nat
def tw6029884688714816141:=Nat
def tw13516027580060346731:=Nat
def tw10800844912310711377:=Nat
def tw8882568118160498306:=Nat
def tw9478198226532508408:=Nat
def tw16353188387896641318:=Nat
def tw78618621972428858:=Nat
def tw6408899618121281633:=Nat
def tw12589363921084883777:=Nat
def tw4064339439147092278:=Nat
def tw6840909660342885924:=Nat
def tw12787613277181773930:=Nat
def tw15041157150296623314:=Nat
def tw13724253503202247768:=Nat
def tw18353310727577333866:=Nat
def tw414921189412164906:=Nat
def tw8585293883350377871:=Nat
def tw10731369962470268659:=Nat
def tw11412949425469508556:=Nat
def tw5783468909273569281:=Nat
def tw11246165466944290728:=Nat
def tw7478813198462212324:=Nat
def tw7918730284883233722:=Nat
def tw4231144933702908341:=Nat
def tw9848713549242667967:=Nat
def tw1856502357282929687:=Nat
def tw7270590808723509511:=Nat
def tw7930590112693722324:=Nat
def tw8399005908020752138:=Nat
def tw13749980572547047101:=Nat
def tw1397068717820295133:=Nat
def tw14829464124265703845:=Nat
def tw8801290453308391687:=Nat
def tw6608697040236375203:=Nat
def tw13214625293165020619:=Nat
def tw5939801306812819109:=Nat
def tw4767959757353881464:=Nat
def tw1359971930154619860:=Nat
def tw17472997378853477577:=Nat
def tw9632421573618211107:=Nat
def tw3874787868300836260:=Nat
def tw11488627020983691380:=Nat
def tw8786119017371336072:=Nat
def tw13495379762369734628:=Nat
def tw3348975468030403028:=Nat
def tw8068514453650411731:=Nat
def tw7613370736410211231:=Nat
def tw4839470649408784429:=Nat
def tw2320883223188279389:=Nat
def tw5455530664551273841:=Nat
def tw8043508825294530689:=Nat
def tw5439671208943911303:=Nat
def tw14221641507531884156:=Nat
def tw919817116322877451:=Nat
def tw17557807580776103802:=Nat
def tw8095499793208344867:=Nat
def tw10460672184530097901:=Nat
def tw590467335652635013:=Nat
def tw5223677889774991727:=Nat
def tw16551746734524964372:=Nat
def tw1922160339342088395:=Nat
def tw9419232891958596055:=Nat
def tw14421744559574323862:=Nat
def tw6039184713911477975:=Nat
def tw4761524293158267024:=Nat
def tw9598828182828332380:=Nat
def tw16558433286835476841:=Nat
def tw1897826855590152168:=Nat
def tw6763885460588050371:=Nat
def tw8065451034856179004:=Nat
def tw4762861772134623166:=Nat
def tw5462679506902051336:=Nat
def tw688198932373964598:=Nat
def tw4093720200635186106:=Nat
def tw12225401669420562814:=Nat
def tw18268215518716345568:=Nat
def tw13794100455171912368:=Nat
def tw5856897595654060621:=Nat
def tw6389387718213556844:=Nat
def tw10050702420079418870:=Nat
def tw10042970530589033894:=Nat
def tw12520779457093192953:=Nat
def tw4634271320756315440:=Nat
def tw17939822876293312050:=Nat
def tw6607725863371934803:=Nat
def tw14525893276688849810:=Nat
def tw2360114513670702730:=Nat
def tw11792242167659089348:=Nat
def tw893423564490709984:=Nat
def tw16101538578667568015:=Nat
def tw15668195234778138344:=Nat
def tw11603763542342917791:=Nat
def tw8698683987433695309:=Nat
def tw6144077922324963147:=Nat
def tw16384294341167147817:=Nat
def tw9445672058979596978:=Nat
def tw14223903774127824854:=Nat
def tw1246976786000682307:=Nat
def tw6294309144371814443:=Nat
def tw13915458982372291875:=Nat
def tw759155682968502052:=Nat
def tw15959608714502908628:=Nat
def tw5673424886619619230:=Nat
def tw1003291725761164144:=Nat
def tw12005963476971150611:=Nat
def tw7950115095481890400:=Nat
def tw6831146827718402095:=Nat
def tw12107535889157980549:=Nat
def tw1587855921992137649:=Nat
def tw13336272659586183099:=Nat
def tw5881571273708735942:=Nat
def tw6445574257517921467:=Nat
def tw13423823302495908045:=Nat
def tw7462872285022206140:=Nat
def tw6243256978766468624:=Nat
def tw8303779355152911129:=Nat
def tw13893122776518154471:=Nat
def tw16893995189575205341:=Nat
def tw14121750638454837108:=Nat
def tw7444751888764983719:=Nat
def tw18139955193412804763:=Nat
def tw6179686967976622676:=Nat
def tw6878983306750298524:=Nat
def tw1003323182598056952:=Nat
def tw8817974868338753649:=Nat
def tw14097057801077001568:=Nat
def tw11778344545460322246:=Nat
def tw4573987249145566559:=Nat
def tw12383977681632871566:=Nat
def tw18240157157235936424:=Nat
def tw11611569780852684502:=Nat
def tw1222681347631510558:=Nat
def tw9083580937398198525:=Nat
def tw5931066704961621913:=Nat
def tw13815914834349893880:=Nat
def tw4160139119130814396:=Nat
def tw4839324819504066094:=Nat
def tw3340883223159443174:=Nat
def tw10843051871696800572:=Nat
def tw7384689543455415998:=Nat
def tw10497259082865445558:=Nat
def tw10713786154334503297:=Nat
def tw8634815230251481882:=Nat
def tw3621242199883095941:=Nat
def tw9034970509207522558:=Nat
def tw9188356760788738396:=Nat
def tw14933892756107102454:=Nat
def tw6812101202890158921:=Nat
def tw9661474696829625358:=Nat
def tw15665572216230071250:=Nat
def tw7224814059281805098:=Nat
def tw7828417623071858538:=Nat
def tw13868788751603756699:=Nat
def tw15462384087400446541:=Nat
def tw2174482602580513196:=Nat
def tw4990427568257252079:=Nat
def tw11047430501838211292:=Nat
def tw3680518051774236476:=Nat
def tw10106113668866362902:=Nat
def tw14570956215121442125:=Nat
def tw10347891157741480497:=Nat
def tw10456279590316771684:=Nat
def tw7440391849677578146:=Nat
def tw17971874485740499235:=Nat
def tw9258200570995734320:=Nat
def tw9780976746768343271:=Nat
def tw17821313573985989840:=Nat
def tw17506307930837935476:=Nat
def tw5555452338904011784:=Nat
def tw1843478903063942365:=Nat
def tw4880873414061960428:=Nat
def tw8728250518630451512:=Nat
def tw16193458341991839499:=Nat
def tw1613683581167570107:=Nat
def tw7793242848127589839:=Nat
def tw747474324597563755:=Nat
def tw15064557285541213164:=Nat
def tw17552190875863510314:=Nat
def tw1190012177885233057:=Nat
def tw12835425962506880854:=Nat
def tw15345511339571570146:=Nat
def tw5713917019844252019:=Nat
def tw4503356838346096596:=Nat
def tw4273556218834383529:=Nat
def tw6149682238128404265:=Nat
def tw3058501856721174040:=Nat
def tw6278218924685896271:=Nat
def tw7198671863152724184:=Nat
def tw13561337235382822195:=Nat
def tw7960461339669845779:=Nat
def tw7612500741759500390:=Nat
def tw15880634598671457384:=Nat
def tw17713781503942340167:=Nat
def tw13690472395687342898:=Nat
def tw14285783583878352700:=Nat
def tw11620177840637082909:=Nat
def tw4315300551959584936:=Nat
def tw17844675292863398196:=Nat
def tw6965018644840792128:=Nat
def tw10894273185275795693:=Nat
def tw10421576424114124451:=Nat
def tw9762558890125460472:=Nat
def tw12948541646555787616:=Nat
def tw6045526876954463108:=Nat
def tw13873791837020912545:=Nat
def tw10881638270723692298:=Nat
def tw17559074695698980609:=Nat
def tw7733492040803920426:=Nat
def tw13800720054074188432:=Nat
def tw3515272386172238937:=Nat
def tw11991777637023968615:=Nat
def tw12706569964483041519:=Nat
def tw3696158989817885594:=Nat
def tw8335831353566321923:=Nat
def tw18139443991760302:=Nat
def tw17077429732781325470:=Nat
def tw11379592849672171089:=Nat
def tw1869076347422255294:=Nat
def tw9551996446454357150:=Nat
def tw3354722900742481840:=Nat
def tw18206560917925768766:=Nat
def tw3010862313598821738:=Nat
def tw1844839953010344221:=Nat
def tw4055691614258024681:=Nat
def tw1267137371320792458:=Nat
def tw11844444410924787933:=Nat
def tw4668870586722413336:=Nat
def tw17271247888839911288:=Nat
def tw1676247518290421565:=Nat
def tw2967434214507905899:=Nat
def tw6646981704611567937:=Nat
def tw9138926415648510283:=Nat
def tw650254898662086949:=Nat
def tw18392326952652339485:=Nat
def tw14196325170472393928:=Nat
def tw6648157697604061649:=Nat
def tw2456208889074454468:=Nat
def tw1867637661896281721:=Nat
def tw12555238454480296243:=Nat
def tw9910234769092134289:=Nat
def tw10429726833620850540:=Nat
def tw1660059912043933073:=Nat
def tw79081341425549114:=Nat
def tw10765903510178335183:=Nat
def tw1619816737323188066:=Nat
def tw1544578897871329042:=Nat
def tw9500992235302839865:=Nat
def tw16382574966457037575:=Nat
def tw13641127514853374945:=Nat
def tw6216192382460131603:=Nat
def tw4331026465320559930:=Nat
def tw1573164872672465575:=Nat
def tw18323937567874389993:=Nat
def tw17589388686558709345:=Nat
def tw3116676778444299203:=Nat
def tw3361623046528092502:=Nat
def tw82015608266354163:=Nat
def tw1215765710259172478:=Nat
def tw10605610656472750893:=Nat
def tw1747404800431896488:=Nat
def tw10736623490836064863:=Nat
def tw12325570027410461818:=Nat
def tw14550997173972602108:=Nat
def tw17700970459103470468:=Nat
def tw14371183327915375087:=Nat
def tw14449214349986712796:=Nat
def tw16087285884529038916:=Nat
def tw15696211958062947299:=Nat
def tw16743568521415746300:=Nat
def tw15721125709728115316:=Nat
def tw770380159527728682:=Nat
def tw18070966563196774049:=Nat
def tw1733837515584401053:=Nat
def tw17312492617069869153:=Nat
def tw9675384432742042968:=Nat
def tw3488051289334339492:=Nat
def tw16390128544544263949:=Nat
def tw15664004303357688919:=Nat
def tw13153183245716273648:=Nat
def tw18173000048325842645:=Nat
def tw8633178837838948832:=Nat
def tw7941033830831380537:=Nat
def tw9034923639269316180:=Nat
def tw17888768697389898645:=Nat
def tw14145133189862362777:=Nat
def tw9124546502048817122:=Nat
def tw1820008969820352368:=Nat
def tw3219881724882454125:=Nat
def tw17071951815800225980:=Nat
def tw7851370655274615640:=Nat
def tw7473247760971898945:=Nat
def tw5878241336679916321:=Nat
def tw16440685863048841873:=Nat
def tw13971854875005387189:=Nat
def tw2716788393454939938:=Nat
def tw5119147091931376405:=Nat
def tw9068372554889182313:=Nat
def tw5031903196155641529:=Nat
def tw11472166921216112835:=Nat
def tw2462707238559717507:=Nat
def tw3594320252919712417:=Nat
def tw6555513681527283064:=Nat
def tw3770573553096218555:=Nat
def tw1184585267224777667:=Nat
def tw12657394431930050405:=Nat
def tw10488154193515359889:=Nat
def tw10502566816644400660:=Nat
def tw3992675635375690267:=Nat
def tw11964241161490927547:=Nat
def tw18305039143147216509:=Nat
def tw8186136500872039804:=Nat
def tw3220302133921663210:=Nat
def tw16243339926948074241:=Nat
def tw5608822955984803907:=Nat
def tw11313467287117614156:=Nat
def tw11644473073704370534:=Nat
def tw2155480848776679422:=Nat
def tw495511560992676273:=Nat
def tw7503463582744763239:=Nat
def tw6108550271159719771:=Nat
def tw16437355792432742889:=Nat
def tw9361957471887033737:=Nat
def tw11328549318363386105:=Nat
def tw15998836928796371162:=Nat
def tw12386279222421327087:=Nat
def tw15016064039682069065:=Nat
def tw2655412633961662341:=Nat
def tw7630120494754014253:=Nat
def tw7918812319287295194:=Nat
def tw275893215404670791:=Nat
def tw14903841325965064374:=Nat
def tw3497234427796241126:=Nat
def tw17965952446354425781:=Nat
def tw9973860488031782341:=Nat
def tw5107100860661519027:=Nat
def tw1179220248003417851:=Nat
def tw9932094305537555067:=Nat
def tw2623521572301382431:=Nat
def tw15672742357338064081:=Nat
def tw3545126859944351222:=Nat
def tw6124006616290119801:=Nat
def tw13466090825622633397:=Nat
def tw2460292426405300763:=Nat
def tw358007814958354020:=Nat
def tw5225241579591214305:=Nat
def tw13038062797527036559:=Nat
def tw9252357682252488226:=Nat
def tw14667482367936583827:=Nat
def tw4492863413014208804:=Nat
def tw5428990246329389067:=Nat
def tw12119498887859402729:=Nat
def tw7027907049468635906:=Nat
def tw17026218776517869433:=Nat
def tw11532961711027052387:=Nat
def tw12133108103444507078:=Nat
def tw72942845074431219:=Nat
def tw16456448057117826964:=Nat
def tw10020764181909374359:=Nat
def tw9901050703500694805:=Nat
def tw17469528372941058996:=Nat
def tw8478011107798194666:=Nat
def tw15613116947225165082:=Nat
def tw771391191280046261:=Nat
def tw5088559005373986030:=Nat
def tw706930022549707644:=Nat
def tw363922328250024731:=Nat
def tw2020037673163674465:=Nat
def tw12424790281179290589:=Nat
def tw309461007651470985:=Nat
def tw18154739691596137021:=Nat
def tw6297766095639545087:=Nat
def tw5318025981937795570:=Nat
def tw10116053926144358010:=Nat
def tw11724589504286691930:=Nat
def tw1824706468284586238:=Nat
def tw17796304170492920216:=Nat
def tw7028170021009078682:=Nat
def tw658539460977109735:=Nat
def tw6267931917965039248:=Nat
def tw15340328203993970918:=Nat
def tw6805655670012782602:=Nat
def tw11744490319581430705:=Nat
def tw10696600078800786825:=Nat
def tw13687876523785651346:=Nat
def tw16062781964660314238:=Nat
def tw2976776750558273476:=Nat
def tw12238912377278037068:=Nat
def tw1301910351018157195:=Nat
def tw14965900139564375669:=Nat
def tw4757141419457073082:=Nat
def tw16931667515552441520:=Nat
def tw5272807414803135378:=Nat
def tw11853437250766544554:=Nat
def tw8410026354381903426:=Nat
def tw3225282763276219950:=Nat
def tw6358498023254136843:=Nat
def tw15911115737988228549:=Nat
def tw10370130402399170096:=Nat
def tw1701348243140541685:=Nat
def tw8613396160632605349:=Nat
def tw17551056415658626082:=Nat
def tw15148883390408473559:=Nat
def tw9611516832271766909:=Nat
def tw10074584850735227810:=Nat
def tw1827762383642908831:=Nat
def tw13489698791526373821:=Nat
def tw17319151774177103961:=Nat
def tw7808197283011689904:=Nat
def tw10006191197796843571:=Nat
def tw12734751817367885694:=Nat
def tw14681289606167737364:=Nat
def tw12395517740054364131:=Nat
def tw14380445248765840192:=Nat
def tw305755216261720024:=Nat
def tw4360304894821236533:=Nat
def tw18110474201700007318:=Nat
def tw8277708008472466660:=Nat
def tw6921305113737000340:=Nat
def tw17628083672973854487:=Nat
def tw4273056012310114431:=Nat
def tw6004284357299783789:=Nat
def tw453730955428536766:=Nat
def tw9174325114787138107:=Nat
def tw15753107527582403557:=Nat
def tw8106744423591600524:=Nat
def tw8132439042221495717:=Nat
def tw12792705222189250709:=Nat
def tw14608651342226513002:=Nat
def tw12013113018522478996:=Nat
def tw11143596023845104858:=Nat
def tw17901377759995645110:=Nat
def tw18367395208467235461:=Nat
def tw13125881633097180737:=Nat
def tw2255601670204873696:=Nat
def tw10456402490540330120:=Nat
def tw550410379400818172:=Nat
def tw8691345146012146172:=Nat
def tw11879363478528282683:=Nat
def tw15266231495727389457:=Nat
def tw10766502282954001902:=Nat
def tw1346176215667949202:=Nat
def tw8240226363692751265:=Nat
def tw3470075791862931286:=Nat
def tw9395338390223964092:=Nat
def tw1797128488930604629:=Nat
def tw7075644318425226626:=Nat
def tw4457827556023140679:=Nat
def tw16816134116803757779:=Nat
def tw13181690029520354710:=Nat
def tw3042129986686578818:=Nat
def tw17079728048358634805:=Nat
def tw4551293206037297433:=Nat
def tw18304097439279305262:=Nat
def tw6157882963788262208:=Nat
def tw465319477640742147:=Nat
def tw16545713975368752765:=Nat
def tw16726304910930453750:=Nat
def tw7960326360403519510:=Nat
def tw8817557842367889007:=Nat
def tw6310181996175141453:=Nat
def tw15560125129687273630:=Nat
def tw10252242935119915564:=Nat
def tw8827981951290616555:=Nat
def tw4901672293659695590:=Nat
def tw15708798953620244060:=Nat
def tw8064655767364944680:=Nat
def tw15982480164369697189:=Nat
def tw5716816908610867185:=Nat
def tw15825658789215171002:=Nat
def tw9737582934600113173:=Nat
def tw11422881894211408619:=Nat
def tw12578743011085813711:=Nat
def tw18286662583917447727:=Nat
def tw9323782779979745585:=Nat
def tw10323521658887881415:=Nat
def tw4073826813263346569:=Nat
def tw15843618068867518404:=Nat
def tw8209600039368138551:=Nat
def tw7327474965949444928:=Nat
def tw8330675191284153897:=Nat
def tw12104282206928218185:=Nat
def tw12891907653177916844:=Nat
def tw8319284367299632621:=Nat
def tw2677945536592907319:=Nat
def tw6417050156536738428:=Nat
def tw8748386282118107529:=Nat
def tw4089551178497596853:=Nat
def tw11652637269956487106:=Nat
def tw11471472557156526687:=Nat
def tw2466157711234298270:=Nat
def tw13518915967681980950:=Nat
def tw9014028407882378759:=Nat
def tw16668706932087565729:=Nat
def tw16791274987604716640:=Nat
def tw6987026168550654841:=Nat
def tw2883963737538334892:=Nat
def tw6250254354458039542:=Nat
def tw18093375212605392515:=Nat
def tw4801701682199481642:=Nat
def tw11569852240205266981:=Nat
def tw3532234231485958470:=Nat
def tw4795285383110299143:=Nat
def tw17602003666960870310:=Nat
def tw15299164981220636225:=Nat
def tw5571560226622399817:=Nat
def tw7912993696562977913:=Nat
def tw5498332608780784640:=Nat
def tw1931872835248092747:=Nat
def tw144394404700011025:=Nat
def tw5603796192929601570:=Nat
def tw8759478774001604055:=Nat
def tw17843235226410693247:=Nat
def tw17135092919799332677:=Nat
def tw2345325684226081471:=Nat
def tw1913876518911755974:=Nat
def tw4148416352291355597:=Nat
def tw5979766175540778982:=Nat
def tw2671301690202793435:=Nat
def tw15976655210453160723:=Nat
def tw5269327769203363271:=Nat
def tw7277727544148603078:=Nat
def tw6415814356237900004:=Nat
def tw12109924917793155909:=Nat
def tw277242825496005505:=Nat
def tw185392424535125201:=Nat
def tw17487901397242237822:=Nat
def tw11872319064116989384:=Nat
def tw12973294952988605452:=Nat
def tw7350327936764081878:=Nat
def tw12985039042128999624:=Nat
def tw2041271226182245322:=Nat
def tw15291533966286980074:=Nat
def tw12298823804959071145:=Nat
def tw9983846080221335406:=Nat
def tw6741650961249868427:=Nat
def tw16375084973279434049:=Nat
def tw4304405396387337001:=Nat
def tw6745780851118463157:=Nat
def tw16325094846519556347:=Nat
def tw8285312676796276140:=Nat
def tw15275750769101258627:=Nat
def tw6915490515365436881:=Nat
def tw7876189998247225449:=Nat
def tw7684196412215311967:=Nat
def tw7828978354951474987:=Nat
def tw10335098362485054466:=Nat
def tw12204406699930730844:=Nat
def tw2414299474299008998:=Nat
def tw15495626708734965019:=Nat
def tw11014500452101788964:=Nat
def tw8551570920214202019:=Nat
def tw7095253613855646268:=Nat
def tw5432615151834539339:=Nat
def tw14298074314501018458:=Nat
def tw10115657621992510602:=Nat
def tw5843835517665519005:=Nat
def tw16116461673716680044:=Nat
def tw84950356358162080:=Nat
def tw2713800897001411222:=Nat
def tw16452856286773685936:=Nat
def tw10438862217763782998:=Nat
def tw17643769158525002518:=Nat
def tw8993922193334015774:=Nat
def tw4592889892370847160:=Nat
def tw7832869559144429588:=Nat
def tw9017743705899149304:=Nat
def tw12707430059707384218:=Nat
def tw11797387602054657633:=Nat
def tw6485287145641693348:=Nat
def tw6234378251619640395:=Nat
def tw6384549641004749046:=Nat
def tw6008421757628150675:=Nat
def tw10696390207892026228:=Nat
def tw1945756014652927447:=Nat
def tw16700728047579272627:=Nat
def tw11291397265815406670:=Nat
def tw7236119915420927943:=Nat
def tw18090543223783422154:=Nat
def tw9442028966802203179:=Nat
def tw2695389645012506330:=Nat
def tw8186146454968742585:=Nat
def tw16838317753221552053:=Nat
def tw13392546867019895623:=Nat
def tw10021311190450276738:=Nat
def tw7892281822998565913:=Nat
def tw4969493229916429000:=Nat
def tw5569804765760056715:=Nat
def tw3670510225262338690:=Nat
def tw15672852338572823694:=Nat
def tw2249686823607329762:=Nat
def tw1167364190066095547:=Nat
def tw12918212762964513265:=Nat
def tw4606288178159145292:=Nat
def tw9254490735174980024:=Nat
def tw12363059019992951843:=Nat
def tw10794345583397825139:=Nat
def tw15305433689015346147:=Nat
def tw9871153844567245346:=Nat
def tw17591085432739131832:=Nat
def tw6616771660105634846:=Nat
def tw17152027678363179177:=Nat
def tw3081697444445855481:=Nat
def tw14946033179400292147:=Nat
def tw17828633261092019905:=Nat
def tw3086863635872058898:=Nat
def tw1309747343069809995:=Nat
def tw1057688641263444743:=Nat
def tw12035555760385966480:=Nat
def tw14876692398447744429:=Nat
def tw2934751987635440388:=Nat
def tw3733795686581943798:=Nat
def tw17410356527856170652:=Nat
def tw6263856914211576293:=Nat
def tw5599825794272708376:=Nat
def tw11322895074988340240:=Nat
def tw5303932879860717985:=Nat
def tw10041212379844095095:=Nat
def tw5575169981074693293:=Nat
def tw2587677998689259978:=Nat
def tw11996927856637364407:=Nat
def tw11673715446966253375:=Nat
def tw12344110551632278630:=Nat
def tw13924952502434615749:=Nat
def tw17664158332157632567:=Nat
def tw17221909791925595789:=Nat
def tw10289592588470420947:=Nat
def tw5274174101301346178:=Nat
def tw6516669016727890357:=Nat
def tw6558395815029745785:=Nat
def tw11039568174962819500:=Nat
def tw3107004358756642796:=Nat
def tw2800343589246861554:=Nat
def tw13472187223665168360:=Nat
def tw1018435634129482321:=Nat
def tw5554131949679272568:=Nat
def tw15171794594444477036:=Nat
def tw10282720056085137559:=Nat
def tw4736127511839224434:=Nat
def tw6331467766110256005:=Nat
def tw16247117365701623556:=Nat
def tw16909906604339996900:=Nat
def tw9264720291075995291:=Nat
def tw684384591070810338:=Nat
def tw3162228887662086388:=Nat
def tw6313573217697101128:=Nat
def tw17041723877983701694:=Nat
def tw16551728739619263513:=Nat
def tw1535232164935387957:=Nat
def tw8940245764874322791:=Nat
def tw10230184263306997830:=Nat
def tw2522025231351690557:=Nat
def tw7021163393798271899:=Nat
def tw1880663338207512992:=Nat
def tw2371915954612027846:=Nat
def tw13989440264534490459:=Nat
def tw11807653724899838924:=Nat
def tw4549207547131738203:=Nat
def tw1307986826268795262:=Nat
def tw16577141531223931908:=Nat
def tw8146327450798450537:=Nat
def tw10266739991052669012:=Nat
def tw9320783715964438672:=Nat
def tw12789821272059755782:=Nat
def tw12199421204505083356:=Nat
def tw16813245926192603272:=Nat
def tw16743876954528820016:=Nat
def tw1339383222131639339:=Nat
def tw5402608809336274633:=Nat
def tw10170047363357224293:=Nat
def tw13837963661789761448:=Nat
def tw15718181990223050740:=Nat
def tw4843675699675195914:=Nat
def tw16541103701097991756:=Nat
def tw11814199575103213681:=Nat
def tw5717585953723455301:=Nat
def tw13331659184400689517:=Nat
def tw5066499026170916830:=Nat
def tw14792938465417047309:=Nat
def tw12654483652414233961:=Nat
def tw11659852756056026730:=Nat
def tw8844609587713121436:=Nat
def tw350891473809529517:=Nat
def tw10103958926031475713:=Nat
def tw17673710247252551668:=Nat
def tw4025227934245682038:=Nat
def tw17110384460182939731:=Nat
def tw13333460524623495751:=Nat
def tw4453740500610411380:=Nat
def tw10559123880038050622:=Nat
def tw3402031204685896654:=Nat
def tw923873982725282408:=Nat
def tw7007911877904401495:=Nat
def tw2183616623179611828:=Nat
def tw10152525166134164839:=Nat
def tw14329634014634034430:=Nat
def tw14540057060507806743:=Nat
def tw14397301934700857536:=Nat
def tw15223833042541973782:=Nat
def tw3894332107518549900:=Nat
def tw2958854137709305924:=Nat
def tw9987130401692926026:=Nat
def tw8880770537321043822:=Nat
def tw12955341964647469355:=Nat
def tw2855352552985553582:=Nat
def tw36912109030525248:=Nat
def tw10614211078655193668:=Nat
def tw8743466310984609886:=Nat
def tw3188435507428906544:=Nat
def tw12751419394944823831:=Nat
def tw7159712768780504969:=Nat
def tw9886209026589525260:=Nat
def tw2835601514582812920:=Nat
def tw13292887549718024248:=Nat
def tw2530640000827616719:=Nat
def tw8693276200907120725:=Nat
def tw5214979042534888940:=Nat
def tw3352635320604595703:=Nat
def tw283594444360278148:=Nat
def tw14484680759841847183:=Nat
def tw3638450279486077250:=Nat
def tw3127310071252387954:=Nat
def tw9310707984561603929:=Nat
def tw18352067996219998578:=Nat
def tw7475323609167078232:=Nat
def tw8923668038524976654:=Nat
def tw7221556188948575558:=Nat
def tw9723043459070157611:=Nat
def tw2984768274767135879:=Nat
def tw4387192450032438883:=Nat
def tw2857898640394100553:=Nat
def tw5400159791796005925:=Nat
def tw4608692403761445624:=Nat
def tw16577857388066422372:=Nat
def tw11644047988153033812:=Nat
def tw1775102851458862485:=Nat
def tw8174198931179135555:=Nat
def tw12957019997275990657:=Nat
def tw9528339742617305235:=Nat
def tw4918614824293066153:=Nat
def tw9652362839486027669:=Nat
def tw16313348281068121191:=Nat
def tw11483990878146999806:=Nat
def tw18291117393826377350:=Nat
def tw17582549721099905333:=Nat
def tw3572571498779776982:=Nat
def tw7416782910596726611:=Nat
def tw9964573511791675653:=Nat
def tw16890479175496495900:=Nat
def tw3223337515460444624:=Nat
def tw16987647286954293822:=Nat
def tw12916985973084689710:=Nat
def tw9913349635690161978:=Nat
def tw9025906670965363967:=Nat
def tw15687545077247003584:=Nat
def tw10463854350234109196:=Nat
def tw8090270820070877154:=Nat
def tw10998081292216422269:=Nat
def tw17179741661356046616:=Nat
def tw10684283628373137449:=Nat
def tw4547284161946997148:=Nat
def tw1966997369752464839:=Nat
def tw8091680104469462282:=Nat
def tw862548360050803224:=Nat
def tw6496275748270458281:=Nat
def tw17620413728042974519:=Nat
def tw18174799872747014907:=Nat
def tw16703772436133840380:=Nat
def tw4611662125888727728:=Nat
def tw14981695876570741488:=Nat
def tw4192932763467720658:=Nat
def tw16085915794920386546:=Nat
def tw9524664223308004419:=Nat
def tw12719478558957130327:=Nat
def tw11296842189289397538:=Nat
def tw8004809077201525610:=Nat
def tw7814902014612637248:=Nat
def tw3003871641135884971:=Nat
def tw1127518272981098796:=Nat
def tw3800442866988490749:=Nat
def tw12349186471043631611:=Nat
def tw9964227390300241231:=Nat
def tw10403681615801742599:=Nat
def tw723158729725255113:=Nat
end MineH.h
section
open PySem PySem.W PyProof.Rows
-- o_head asks for its theorem by this bare name; here the walk is a function of a hypothesis, which o_head would clear
def MineH.PySem.W.holds_open{r q loose Xt XP}{α:Type}{Yf:Shared->α}{Ya YP d kwd N}(h1 h2 h3 h4 h5 h6 h7 h8 h9 h10 h11 h12 h13 h14)(call:Mine.LawW->_)(W:Mine.LawW:=by assumption):=_root_.PySem.W.holds_open (r:=r) (q:=q) (loose:=loose) (Xt:=Xt) (XP:=XP) (Yf:=Yf) (Ya:=Ya) (YP:=YP) (d:=d) (kwd:=kwd) (N:=N) h1 h2 h3 h4 h5 h6 h7 h8 h9 h10 h11 h12 h13 h14 (call W)
set_option maxRecDepth 100000 in
set_option maxHeartbeats 8000000 in
set_option Elab.async true in
theorem MineH.h:Mine.LawW->PySem.Challenge.rw_qd0084_01.Holds:=by
 (intro W;w_on;o_law;o_head Mine.hkHook;(case hw=>w_witness2);w_strict(exact fun W=>W _ _ _ _ _ rfl rfl))
end
namespace Mine
section
section
set_option tactic.hygienic true
set_option backward.match.sparseCases true
def v4{α:Sort _}{β:Sort _}{Z:α->β->Prop}{R:Prop}(h:∃x,∃y,Z x y)(k:∀x,∀y,Z x y->R):R:=h.elim fun u0 h0=>h0.elim fun u1 h1=>k u0 u1 h1
def wI{α:Sort _}{A:α->Prop}{Z:α->Prop}{R:Prop}(h:∃x,A x/\Z x)(k:∀x,A x->Z x->R):R:=h.elim fun u0 h0=>h0.elim fun u1 h1=>k u0 u1 h1
def q5G{α:Sort _}{A:Prop}{Z:α->Prop}{R:Prop}(h:A/\∃x,Z x)(k:A->∀x,Z x->R):R:=h.elim fun u0 h0=>h0.elim fun u1 h1=>k u0 u1 h1
def XQ{A:Prop}{B:Prop}{Z:Prop}{R:Prop}(h:A/\B/\Z)(k:A->B->Z->R):R:=h.elim fun u0 h0=>h0.elim fun u1 h1=>k u0 u1 h1
def gE{α:Sort _}{β:Sort _}{γ:Sort _}{Z:α->β->γ->Prop}{R:Prop}(h:∃x,∃y,∃z,Z x y z)(k:∀x,∀y,∀z,Z x y z->R):R:=h.elim fun u0 h0=>h0.elim fun u1 h1=>h1.elim fun u2 h2=>k u0 u1 u2 h2
def mG{α:Sort _}{β:Sort _}{A:α->β->Prop}{Z:α->β->Prop}{R:Prop}(h:∃x,∃y,A x y/\Z x y)(k:∀x,∀y,A x y->Z x y->R):R:=h.elim fun u0 h0=>h0.elim fun u1 h1=>h1.elim fun u2 h2=>k u0 u1 u2 h2
def q8N{α:Sort _}{β:Sort _}{A:α->Prop}{Z:α->β->Prop}{R:Prop}(h:∃x,A x/\∃y,Z x y)(k:∀x,A x->∀y,Z x y->R):R:=h.elim fun u0 h0=>h0.elim fun u1 h1=>h1.elim fun u2 h2=>k u0 u1 u2 h2
def gZ{α:Sort _}{A:α->Prop}{B:α->Prop}{Z:α->Prop}{R:Prop}(h:∃x,A x/\B x/\Z x)(k:∀x,A x->B x->Z x->R):R:=h.elim fun u0 h0=>h0.elim fun u1 h1=>h1.elim fun u2 h2=>k u0 u1 u2 h2
def q88{α:Sort _}{β:Sort _}{A:Prop}{Z:α->β->Prop}{R:Prop}(h:A/\∃x,∃y,Z x y)(k:A->∀x,∀y,Z x y->R):R:=h.elim fun u0 h0=>h0.elim fun u1 h1=>h1.elim fun u2 h2=>k u0 u1 u2 h2
def q87{α:Sort _}{A:Prop}{B:α->Prop}{Z:α->Prop}{R:Prop}(h:A/\∃x,B x/\Z x)(k:A->∀x,B x->Z x->R):R:=h.elim fun u0 h0=>h0.elim fun u1 h1=>h1.elim fun u2 h2=>k u0 u1 u2 h2
def q85{α:Sort _}{A:Prop}{B:Prop}{Z:α->Prop}{R:Prop}(h:A/\B/\∃x,Z x)(k:A->B->∀x,Z x->R):R:=h.elim fun u0 h0=>h0.elim fun u1 h1=>h1.elim fun u2 h2=>k u0 u1 u2 h2
def q5D{A:Prop}{B:Prop}{C:Prop}{Z:Prop}{R:Prop}(h:A/\B/\C/\Z)(k:A->B->C->Z->R):R:=h.elim fun u0 h0=>h0.elim fun u1 h1=>h1.elim fun u2 h2=>k u0 u1 u2 h2
def uN{α:Sort _}{β:Sort _}{γ:Sort _}{δ:Sort _}{Z:α->β->γ->δ->Prop}{R:Prop}(h:∃x,∃y,∃z,∃w,Z x y z w)(k:∀x,∀y,∀z,∀w,Z x y z w->R):R:=h.elim fun u0 h0=>h0.elim fun u1 h1=>h1.elim fun u2 h2=>h2.elim fun u3 h3=>k u0 u1 u2 u3 h3
def uM{α:Sort _}{β:Sort _}{γ:Sort _}{A:α->β->γ->Prop}{Z:α->β->γ->Prop}{R:Prop}(h:∃x,∃y,∃z,A x y z/\Z x y z)(k:∀x,∀y,∀z,A x y z->Z x y z->R):R:=h.elim fun u0 h0=>h0.elim fun u1 h1=>h1.elim fun u2 h2=>h2.elim fun u3 h3=>k u0 u1 u2 u3 h3
def uL{α:Sort _}{β:Sort _}{A:α->β->Prop}{B:α->β->Prop}{Z:α->β->Prop}{R:Prop}(h:∃x,∃y,A x y/\B x y/\Z x y)(k:∀x,∀y,A x y->B x y->Z x y->R):R:=h.elim fun u0 h0=>h0.elim fun u1 h1=>h1.elim fun u2 h2=>h2.elim fun u3 h3=>k u0 u1 u2 u3 h3
def XN{α:Sort _}{A:α->Prop}{B:α->Prop}{C:α->Prop}{Z:α->Prop}{R:Prop}(h:∃x,A x/\B x/\C x/\Z x)(k:∀x,A x->B x->C x->Z x->R):R:=h.elim fun u0 h0=>h0.elim fun u1 h1=>h1.elim fun u2 h2=>h2.elim fun u3 h3=>k u0 u1 u2 u3 h3
def q1I{A:Prop}{B:Prop}{C:Prop}{D:Prop}{Z:Prop}{R:Prop}(h:A/\B/\C/\D/\Z)(k:A->B->C->D->Z->R):R:=h.elim fun u0 h0=>h0.elim fun u1 h1=>h1.elim fun u2 h2=>h2.elim fun u3 h3=>k u0 u1 u2 u3 h3
end
set_option genCtorIdx false in
inductive LT where
 | v (n:Nat)
 | k (n:Nat)
 | a (x y:LT)
 | m (n:Nat) (x:LT)
 | w (x:LT) (n:Nat)
set_option genCtorIdx false in
inductive LF where
 | n
 | c (m:Nat) (x y:LT) (r:LF)
section
noncomputable def q6P:List Nat->Nat->Nat
 | [],_=>0
 | x::l,n=>match n with
  | 0=>x
  | n+1=>q6P l n
noncomputable def LT.d(c:List Nat):LT->Nat
 | v n=>q6P c n
 | k n=>n
 | a x y=>x.d c+y.d c
 | m n x=>n*x.d c
 | w x n=>x.d c*n
noncomputable def cQ:List Nat->List Nat->List Nat
 | [],m=>m
 | x::l,m=>match m with
  | []=>x::l
  | y::m=>(x+y)::cQ l m
noncomputable def mulL(n:Nat):List Nat->List Nat
 | []=>[]
 | x::l=>(n*x)::mulL n l
noncomputable def sP:List Nat->List Nat->Nat
 | [],_=>0
 | x::l,c=>match c with
  | []=>0
  | y::c=>x*y+sP l c
noncomputable def DZ:Nat->List Nat
 | 0=>[1]
 | n+1=>0::DZ n
noncomputable def q53:List Nat->List Nat->Bool
 | [],_=>true
 | x::l,m=>match m with
  | []=>Nat.beq x 0&&q53 l []
  | y::m=>Nat.ble x y&&q53 l m
noncomputable def LT.f:LT->List Nat
 | v n=>0::DZ n
 | k n=>[n]
 | a x y=>cQ x.f y.f
 | m n x=>mulL n x.f
 | w x n=>mulL n x.f
def LF.imp(c:List Nat):LF->Prop->Prop
 | .n,P=>P
 | .c _ x y r,P=>x.d c<=y.d c->r.imp c P
noncomputable def LF.lo:LF->List Nat
 | .n=>[]
 | .c m x _ r=>cQ (mulL m x.f) r.lo
noncomputable def LF.hi:LF->List Nat
 | .n=>[]
 | .c m _ y r=>cQ (mulL m y.f) r.hi
theorem tU:∀(l m c:List Nat),sP (cQ l m) c=sP l c+sP m c
 | [],m,c=>(Nat.zero_add _).symm
 | x::l,[],c=>rfl
 | x::l,y::m,[]=>rfl
 | x::l,y::m,z::c=>by show(x+y)*z+sP (cQ l m) c=_; rw[tU l m c,Nat.add_mul]; exact Nat.add_add_add_comm ..
theorem tV(n:Nat):∀(l c:List Nat),sP (mulL n l) c=n*sP l c
 | [],c=>rfl
 | x::l,[]=>rfl
 | x::l,z::c=>by show n*x*z+sP (mulL n l) c=n*(x*z+sP l c); rw[tV n l c,Nat.mul_add,Nat.mul_assoc]
theorem KR:∀(n:Nat)(c:List Nat),sP (DZ n) c=q6P c n
 | 0,[]=>rfl
 | _+1,[]=>rfl
 | 0,z::c=>Nat.one_mul z
 | n+1,z::c=>(congrArg (·+sP (DZ n) c) (Nat.zero_mul z)).trans ((Nat.zero_add _).trans (KR n c))
theorem WE:∀(l m c:List Nat),q53 l m=true->sP l c<=sP m c
 | [],m,c,_=>zA _
 | x::l,m,[],_=>zA _
 | x::l,[],z::c,h=>by
  have h:=zE.mp h;rw[Nat.eq_of_beq_eq_true h.1];exact Nat.add_le_add (qK (Nat.zero_mul z)) (WE l [] c h.2)
 | x::l,y::m,z::c,h=>by
  have h:=zE.mp h;exact Nat.add_le_add (z4 z (z8 h.1)) (WE l m c h.2)
def LT.f_d(c:List Nat):∀x:LT,sP x.f (1::c)=x.d c
 | v n=>(congrArg (·+sP (DZ n) c) (Nat.zero_mul 1)).trans ((Nat.zero_add _).trans (KR n c))
 | k n=>Nat.mul_one n
 | a x y=>(tU ..).trans (by rw[f_d c x,f_d c y]; rfl)
 | m n x=>(tV ..).trans (by rw[f_d c x]; rfl)
 | w x n=>(tV ..).trans (by rw[f_d c x]; exact Nat.mul_comm ..)
def LF.all(c:List Nat)(P:Prop):∀r:LF,(sP r.lo (1::c)<=sP r.hi (1::c)->P)->r.imp c P
 | .n,h=>h (qT _)
 | .c m x y r,h=>fun g=>all c P r fun q=>h (by
  show sP (cQ (mulL m x.f) r.lo) _<=sP (cQ (mulL m y.f) r.hi) _;rw[tU,tU,tV,tV,LT.f_d,LT.f_d];exact Nat.add_le_add (zR m g) q)
def yX(c:List Nat)(r:LF)(n:Nat)(x y:LT)(h:q53 (cQ (mulL (n+1) x.f) r.hi) (cQ (cQ [n] (mulL (n+1) y.f)) r.lo)=true):r.imp c (x.d c<=y.d c):=by
 refine r.all c _ fun q=>?_;have z:=WE _ _ (1::c) h;rw[tU,tU,tU,tV,tV,LT.f_d,LT.f_d,show sP [n] (1::c)=n from Nat.mul_one n]at z;have e:=Nat.le_of_add_le_add_right (qF z (qL q _));refine Nat.le_of_not_lt fun l=>Nat.lt_irrefl n (Nat.le_of_add_le_add_right (b:=(n+1)*y.d c) (qF ?_ e));exact Nat.add_comm (n+1) _▸Nat.mul_succ (n+1) _▸zR (n+1) l
def q04(x y:Nat):x<=x-y+y:=Nat.sub_add_eq_max x y▸zP x y
end
end
section
open PySem
section
set_option genInjectivity true in
inductive V where
 | none
 | bool (b:Bool)
 | int (i:Int)
 | str (s:List Nat)
 | tup (l:List V)
 | lst (l:List V)
 | iset (l:List Int)
 | spans
 | rng (lo:Int) (n:Nat)
 | ref (g:Bool) (n:Nat)
 | fn (n:String)
 | blt (n:String)
 | clos (n:String) (cap:List V)
noncomputable abbrev vI(l:List Int):List V:=l.map .int
noncomputable abbrev vS(l:List (List Nat)):List V:=l.map .str
inductive Ob where
 | list (l:List V)
 | dI (es:List (Int×V))
 | dS (es:List (List Nat×V))
 | dT (es:List (List V×V))
 | inst (c:String) (d:Nat)
 | ns (fs:List (String×V))
 | dead
abbrev xF:=List (Option Ob)
noncomputable def jM:xF->Nat->Option Ob
 | [],_=>none
 | o::_,0=>o
 | _::r,n+1=>jM r n
noncomputable def J8(ob:Option Ob):xF->Nat->xF
 | [],0=>[ob]
 | [],n+1=>none::J8 ob [] n
 | _::r,0=>ob::r
 | o::r,n+1=>o::J8 ob r n
set_option genCtorIdx false in
structure St where
 g:xF
 l:xF
noncomputable def St.at(σ:St):Bool->Nat->Option Ob
 | true,n=>jM σ.g n
 | false,n=>jM σ.l n
noncomputable def St.set(σ:St)(ob:Ob):Bool->Nat->St
 | true,n=>⟨J8 (some ob) σ.g n,σ.l⟩
 | false,n=>⟨σ.g,J8 (some ob) σ.l n⟩
abbrev y5:=String->Option V
noncomputable def y5.set(ρ:y5)(x:String)(v:V):y5:=fun y=>if y=x then some v else ρ y
noncomputable def y5.sets(ρ:y5):List String->List V->Option y5
 | [],[]=>some ρ
 | x::xs,v::vs=>y5.sets (y5.set ρ x v) xs vs
 | _,_=>none
inductive Op where | add | sub | mul | mod | fdiv | addS | mulS | addT | mulL
inductive Cp where | eq | ne | eqs | nes | eqd | ned | eqn | nen | eqm | lt | le | gt | ge | inn | nin | ind | nid | ins | is_ | isn
set_option genCtorIdx false in
inductive Tg where | nm (x:String) | tp (xs:List String)
inductive DK where | I | S | T
inductive B1 where | len | range | tuple | str | sortI | sortS | any | strip | rev
inductive B2 where | range | min | sub | subs | subd
inductive M1 where | append | extend | join
set_option genCtorIdx false in
inductive Ex where
 | c (v:V)
 | loc (x:String)
 | g (x:String) (v:V)
 | neg (e:Ex)
 | not (e:Ex)
 | bop (isAnd:Bool) (l:List Ex)
 | bin (op:Op) (a b:Ex)
 | cmp (op:Cp) (a b:Ex)
 | ite (t a b:Ex)
 | tup (l:List Ex)
 | lst (l:List Ex)
 | newo (l:List Ex)
 | newg (l:List Ex)
 | dicto (k:DK)
 | dictg (k:DK)
 | comp (elt:Ex) (tg:Tg) (it:Ex) (ifs:List Ex)
 | dcomp (x:String) (it:Ex)
 | call (f:Ex) (args:List Ex)
 | new (c:String) (args:List Ex)
 | meth (o:Ex) (n:String) (args:List Ex)
 | b1 (n:B1) (a:Ex)
 | b2 (n:B2) (a b:Ex)
 | pop (o:Ex)
 | m1 (n:M1) (o a:Ex)
 | get (o k d:Ex)
 | sdl (o k:Ex)
 | attr (o:Ex) (n:String)
 | slice (o lo hi:Ex)
 | subf (o i:Ex)
 | bad
set_option genCtorIdx false in
inductive Sx where
 | asg (x:String) (e:Ex)
 | asgT (xs:List String) (e:Ex)
 | asgA (o:Ex) (n:String) (e:Ex)
 | asgS (o i e:Ex)
 | augN (x:String) (op:Op) (e:Ex)
 | augA (o:Ex) (n:String) (op:Op) (e:Ex)
 | augS (o i:Ex) (op:Op) (e:Ex)
 | ex (e:Ex)
 | iff (t:Ex) (b c:List Sx)
 | whl (t:Ex) (b:List Sx)
 | for_ (tg:Tg) (it:Ex) (b:List Sx)
 | ret (e:Ex)
 | frz (x:String)
 | cont
 | defn (x nm:String) (caps:List String)
 | bad
inductive Fl where | next | cont | ret (v:V)
noncomputable abbrev lim:Nat:=16000000
def Z3(i:Int):Prop:=-4611686018427387904<=i/\i<4611686018427387904
noncomputable def jE:List (String×V)->String->Option V
 | [],_=>none
 | (k,v)::r,x=>if k=x then some v else jE r x
noncomputable def J4:List (String×V)->String->V->List (String×V)
 | [],n,v=>[(n,v)]
 | (k,w)::r,n,v=>if k=n then(k,v)::r else(k,w)::J4 r n v
open Classical in
instance:DecidableEq V:=fun a b=>Classical.propDecidable (a=b)
noncomputable def y8{κ:Type}[DecidableEq κ]:List (κ×V)->κ->Option V
 | [],_=>none
 | (j,v)::r,k=>if j=k then some v else y8 r k
noncomputable def xQ{κ:Type}[DecidableEq κ](es:List (κ×V))(k:κ)(v:V):List (κ×V):=if (y8 es k).isSome then es.map fun e=>if e.1=k then(e.1,v)else e else es++[(k,v)]
noncomputable def m4:List (Int×V):=[(11,.tup [.int 1,.int 2]),(14,.tup [.int 1,.int 2]),(15,.tup [.int 1,.int 3]),(16,.tup [.int 1,.int 5]),(17,.tup [.int 2,.int 5])]
noncomputable def vL(l:List Int):List (Int×V):=l.map fun i=>(i,.int 1)
noncomputable def kb(f:List V->Bool):V->Bool
 | .int _=>true
 | .str _=>true
 | .tup l=>f l
 | _=>false
noncomputable def q6E(n:Nat):List V->Bool:=Nat.rec (motive:=fun z0=>List V->Bool) (fun z0=>false) (fun z0 f l=>l.all (kb f)) n
noncomputable def kS(n:Nat):V->Bool:=kb (q6E n)
mutual
noncomputable def xR:V->PyData
 | .none=>.none
 | .bool b=>.bool b
 | .int i=>.int i
 | .str s=>.str ⟨s.toArray⟩
 | .tup l=>.tuple (bB l)
 | .lst l=>.list (bB l)
 | _=>.dict []
noncomputable def bB:List V->List PyData
 | []=>[]
 | x::r=>xR x::bB r
end
noncomputable def obj(σ:St):V->Option Ob
 | .lst l=>some (.list l)
 | .ref g n=>σ.at g n
 | .iset l=>some (.dI (vL l))
 | .spans=>some (.dI m4)
 | _=>none
noncomputable def St.put(σ:St)(ob:Ob):V->St
 | .ref g n=>σ.set ob g n
 | _=>σ
noncomputable def gY:V->Bool
 | .ref _ _=>true
 | _=>false
noncomputable def g9:V->Bool
 | .ref false _=>false
 | _=>true
@[reducible] def ck(b:Bool)(X:Prop):Prop:=match b with
 | true=>X
 | false=>False
def v9(l:List V)(X:Prop):Prop:=ck (Nat.ble l.length lim) X
def ZU(l:List Nat)(X:Prop):Prop:=ck (Nat.ble l.length lim) X
noncomputable def ET{α:Type}:Option α->Bool
 | none=>true
 | some _=>false
def yN:V->(Int->Prop)->Prop
 | .int i,K=>K i
 | _,_=>False
def vC:V->(List Nat->Prop)->Prop
 | .str s,K=>K s
 | _,_=>False
def sF:V->(List V->Prop)->Prop
 | .tup l,K=>K l
 | _,_=>False
def xK:Option Ob->(List V->Prop)->Prop
 | some (.list l),K=>K l
 | _,_=>False
def WO:Option Ob->(List (Int×V)->Prop)->Prop
 | some (.dI es),K=>K es
 | _,_=>False
def ER:Option Ob->(List (List Nat×V)->Prop)->Prop
 | some (.dS es),K=>K es
 | _,_=>False
def BN:Option Ob->(List (List V×V)->Prop)->Prop
 | some (.dT es),K=>K es
 | _,_=>False
def lO(o:Option Ob)(k:V)(K:Option V->Prop):Prop:=match k with
 | .int i=>WO o fun es=>K (y8 es i)
 | .str i=>ER o fun es=>K (y8 es i)
 | .tup i=>ck (kS 3 (.tup i)) (BN o fun es=>K (y8 es i))
 | _=>False
def q45(o:Option Ob)(k v:V)(K:Ob->Prop):Prop:=match k with
 | .int i=>WO o fun es=>ck (Nat.blt es.length lim) (K (.dI (xQ es i v)))
 | .str i=>ER o fun es=>ck (Nat.blt es.length lim) (K (.dS (xQ es i v)))
 | .tup i=>ck (kS 3 (.tup i)) (BN o fun es=>ck (Nat.blt es.length lim) (K (.dT (xQ es i v))))
 | _=>False
def isNs:Option Ob->(List (String×V)->Prop)->Prop
 | some (.ns fs),K=>K fs
 | _,_=>False
def mT(σ:St)(o:V)(K:String->Nat->List (String×V)->Prop):Prop:=match obj σ o with
 | some (.inst c d)=>isNs (jM σ.g d) (K c d)
 | _=>False
def d4(σ:St):V->(List V->Prop)->Prop
 | .tup l,K=>K l
 | v,K=>xK (obj σ v) K
def Sv(x:Option V)(K:V->Prop):Prop:=match x with
 | some v=>K v
 | _=>False
def lH(l:List V)(i:Int)(K:V->Prop):Prop:=match i with
 | .ofNat n=>ck (Nat.blt n 1000000000) (Sv l[n]? K)
 | .negSucc n=>v9 l (ck (Nat.blt n l.length) (Sv l[l.length-1-n]? K))
def pA(σ:St):V->(List V->Prop)->Prop
 | .rng lo n,K=>K ((List.range n).map fun (i:Nat)=>.int (lo+i))
 | v,K=>d4 σ v K
def O1(l:List V)(v:V)(σ:St)(X:Prop):Prop:=match v with
 | .ref g n=>σ.at g n=some (.list l)/\X
 | _=>X
def JP(σ:St):V->(Bool->Prop)->Prop
 | .bool b,K=>K b
 | v,K=>xK (obj σ v) fun l=>v9 l (K (!l.isEmpty))
def ZE:Op->V->V->(V->Prop)->Prop
 | .add,x,y,K=>yN x fun i=>yN y fun j=>K (.int (i+j))
 | .sub,x,y,K=>yN x fun i=>yN y fun j=>K (.int (i-j))
 | .mul,x,y,K=>yN x fun i=>yN y fun j=>Z3 i/\Z3 j/\K (.int (i*j))
 | .mod,x,y,K=>yN x fun i=>yN y fun j=>j≠0/\K (.int (i.fmod j))
 | .fdiv,x,y,K=>yN x fun i=>yN y fun j=>j≠0/\Z3 j/\K (.int (i.fdiv j))
 | .addS,x,y,K=>vC x fun s=>vC y fun t=>ZU (s++t) (K (.str (s++t)))
 | .mulS,x,y,K=>vC x fun s=>yN y fun j=>ZU s (match j with
  | .ofNat 0=>K (.str [])
  | .ofNat 1=>K (.str s)
  | _=>False)
 | .addT,x,y,K=>sF x fun s=>sF y fun t=>v9 (s++t) (K (.tup (s++t)))
 | .mulL,x,y,K=>yN y fun j=>∃v n,x=.lst [v]/\j=(n:Nat)/\n<=lim/\K (.lst (List.replicate n v))
def SY(x y:V)(K:Bool->Prop):Prop:=ck ((xR x).canLay0&&((xR y).canLay0&&Nat.ble (xR y).depth 20)) (K (PyData.eqv (xR x) (xR y)))
noncomputable def VE:V->Bool
 | .lst []=>true
 | _=>false
def q2Q(x y:Option Ob)(K:Bool->Prop):Prop:=∃(es fs:List (Int×List Nat))(r:Bool),x=some (.dI (es.map fun e=>(e.1,.str e.2)))/\y=some (.dI (fs.map fun e=>(e.1,.str e.2)))/\(r=true↔es.length=fs.length/\∀e∈es,(fs.find? fun f=>f.1==e.1)=some e)/\K r
noncomputable def isNone:V->Bool
 | .none=>true
 | _=>false
noncomputable def q0Q:V->Bool
 | .int _=>true
 | _=>false
noncomputable def GB(i:Int):V->Bool
 | .int j=>decide (i=j)
 | _=>false
def SO(σ:St):Cp->V->V->(Bool->Prop)->Prop
 | .eq,x,y,K=>yN x fun i=>yN y fun j=>K (decide (i=j))
 | .ne,x,y,K=>yN x fun i=>yN y fun j=>K (!decide (i=j))
 | .eqs,x,y,K=>vC x fun i=>vC y fun j=>K (decide (i=j))
 | .nes,x,y,K=>vC x fun i=>vC y fun j=>K (!decide (i=j))
 | .eqd,x,y,K=>SY x y K
 | .ned,x,y,K=>SY x y fun b=>K (!b)
 | .eqn,x,y,K=>ck (VE y) (xK (obj σ x) fun l=>v9 l (K l.isEmpty))
 | .nen,x,y,K=>ck (VE y) (xK (obj σ x) fun l=>v9 l (K (!l.isEmpty)))
 | .eqm,x,y,K=>q2Q (obj σ x) (obj σ y) K
 | .lt,x,y,K=>yN x fun i=>yN y fun j=>K (decide (i<j))
 | .le,x,y,K=>yN x fun i=>yN y fun j=>K (decide (i<=j))
 | .gt,x,y,K=>yN x fun i=>yN y fun j=>K (decide (j<i))
 | .ge,x,y,K=>yN x fun i=>yN y fun j=>K (decide (j<=i))
 | .inn,x,y,K=>yN x fun i=>d4 σ y fun l=>ck (l.all q0Q) (K (l.any (GB i)))
 | .nin,x,y,K=>yN x fun i=>d4 σ y fun l=>ck (l.all q0Q) (K (!l.any (GB i)))
 | .ind,x,y,K=>lO (obj σ y) x fun o=>K o.isSome
 | .nid,x,y,K=>lO (obj σ y) x fun o=>K (!o.isSome)
 | .ins,x,y,K=>∃c,x=.str [c]/\y=.str [48,49]/\K (c==48||c==49)
 | .is_,x,y,K=>ck (isNone y) (K (isNone x))
 | .isn,x,y,K=>ck (isNone y) (K (!isNone x))
def s8(n d:Nat):V->(Nat->Prop)->Prop
 | .none,K=>K d
 | .int i,K=>match i with
  | .ofNat j=>ck (Nat.blt j 1000000000) (K (min j n))
  | .negSucc 0=>K (n-1)
  | _=>False
 | _,_=>False
noncomputable def cut{α:Type}(l:List α)(lo hi:Nat):List α:=(l.take hi).drop lo
def q4E(σ:St):V->V->V->(V->Prop)->Prop
 | .tup l,x,y,K=>v9 l (s8 l.length 0 x fun a=>s8 l.length l.length y fun b=>K (.tup (cut l a b)))
 | .str s,x,y,K=>ck (isNone x) (yN y fun i=>ck (decide (i=-1)) (ZU s (K (.str s.dropLast))))
 | o,x,y,K=>xK (obj σ o) fun l=>v9 l (s8 l.length 0 x fun a=>s8 l.length l.length y fun b=>K (.lst (cut l a b)))
noncomputable def jH(i:Int):List Nat:=(toString i).toList.map Char.toNat
noncomputable def lN(sep:List Nat):List (List Nat)->List Nat
 | []=>[]
 | [x]=>x
 | x::r=>x++sep++lN sep r
noncomputable def pJ(a b:List Nat):Bool:=decide (a<b)
noncomputable def sortS(l:List (List Nat)):List (List Nat):=l.mergeSort fun a b=>!pJ b a
noncomputable def sortI(l:List Int):List Int:=l.mergeSort fun a b=>decide (a<=b)
def q00:Option Ob->(List V->Prop)->Prop
 | some (.list l),K=>K l
 | some (.dI es),K=>K (vI (es.map (·.1)))
 | some (.dS es),K=>K (vS (es.map (·.1)))
 | _,_=>False
noncomputable def WP:V->Bool
 | .tup []=>true
 | _=>false
def q7A(σ:St):B1->V->(V->Prop)->Prop
 | .len,x,K=>d4 σ x fun l=>v9 l (K (.int l.length))
 | .range,x,K=>yN x fun i=>match i with
  | .ofNat n=>ck (Nat.blt n 1000000000) (K (.rng 0 n))
  | _=>False
 | .tuple,x,K=>d4 σ x fun l=>v9 l (K (.tup l))
 | .str,x,K=>yN x fun i=>Z3 i/\K (.str (jH i))
 | .sortI,x,K=>q00 (obj σ x) fun l=>∃is,l=vI is/\is.length<64/\K (.lst (vI (sortI is)))
 | .sortS,x,K=>q00 (obj σ x) fun l=>∃is,l=vS is/\is.length<64/\K (.lst (vS (sortS is)))
 | .any,x,K=>xK (obj σ x) fun l=>ck (l.all WP) (K (.bool false))
 | .strip,x,K=>∃u s,x=.tup [u,.str s]/\s.length<=lim/\K (.str (s.filter (· != 33)))
 | .rev,x,K=>xK (obj σ x) fun l=>v9 l (K (.lst l.reverse))
def q1P(σ:St):B2->V->V->(V->Prop)->Prop
 | .range,x,y,K=>yN x fun i=>yN y fun j=>ck (decide (i=1)) (match j with
  | .ofNat (n+1)=>ck (Nat.blt n 1000000000) (K (.rng 1 n))
  | _=>False)
 | .min,x,y,K=>yN x fun i=>yN y fun j=>K (.int (min i j))
 | .sub,x,y,K=>yN y fun i=>d4 σ x fun l=>lH l i K
 | .subs,x,y,K=>yN y fun i=>vC x fun s=>lH (s.map fun c=>.str [c]) i K
 | .subd,x,y,K=>lO (obj σ x) y fun o=>Sv o K
def q41(σ:St):M1->V->Prop->Prop
 | .append,o,X=>xK (obj σ o) fun z0=>X
 | .extend,o,X=>xK (obj σ o) fun z0=>X
 | .join,o,X=>vC o fun z0=>X
def q3J(σ:St):M1->V->V->(V->St->Prop)->Prop
 | .append,o,x,Q=>ck (gY o) (ck (g9 x) (xK (obj σ o) fun l=>v9 (l++[x]) (Q .none (σ.put (.list (l++[x])) o))))
 | .extend,o,x,Q=>ck (gY o) (xK (obj σ o) fun l=>xK (obj σ x) fun m=>v9 (l++m) (Q .none (σ.put (.list (l++m)) o)))
 | .join,o,x,Q=>vC o fun s=>xK (obj σ x) fun l=>∃ts,l=vS ts/\(ts.map List.length).sum+ts.length*s.length<=lim/\Q (.str (lN s ts)) σ
noncomputable def LJ:List String:=["TypeTable","Thin","Finder"]
noncomputable def pK:List String:=["rows","index","decls","bounds","defaults","names","origins","renamed","shaping","putting","tab","deep","most_rounds","most_deep","host","pids","found","seen","holds","count","level","both","lower","low"]
noncomputable def cN:List (String×String×String):=[("TypeTable","row","TypeTable.row"),("TypeTable","put","TypeTable.put"),("Thin","force","Thin.force"),("Finder","walk","Finder.walk"),("Finder","optional","Finder.optional"),("Finder","add_low","Finder.add_low"),("Finder","add","Finder.add")]
def lm:List (String×String×String)->String->String->(String->Prop)->Prop
 | [],_,_,_=>False
 | (c,n,f)::r,x,y,K=>if c=x then(if n=y then K f else lm r x y K)else lm r x y K
abbrev Kv:=V->St->Prop
abbrev Kb:=Bool->St->Prop
abbrev Kl:=List V->St->Prop
abbrev Kf:=Fl->y5->St->Prop
abbrev yA:=String->List V->List V->Kv->St->Prop
@[reducible] def bb(b:Bool)(X Y:Prop):Prop:=match b with
 | true=>X
 | false=>Y
@[reducible] def ll(x:Option V)(K:V->Prop):Prop:=match x with
 | some v=>K v
 | none=>False
@[reducible] def lr(x:Option y5)(W:y5->Prop):Prop:=match x with
 | some ρ=>W ρ
 | none=>False
def kq(Q:Kv)(σ:St):V->Prop:=fun v=>Q v σ
noncomputable def y5.bind(ρ:y5):Tg->V->Option y5
 | .nm x,v=>some (y5.set ρ x v)
 | .tp xs,.tup l=>y5.sets ρ xs l
 | _,_=>none
def F2(l:xF)(Q:Kv):Kv:=fun v σ=>Q v ⟨σ.g,l⟩
def sI(C:yA)(f:V)(vs:List V)(Q:Kv)(σ:St):Prop:=match f with
 | .fn n=>C n [] vs (F2 σ.l Q) ⟨σ.g,[]⟩
 | .clos n cap=>C n cap vs (F2 σ.l Q) ⟨σ.g,[]⟩
 | _=>False
def q5U(Q:Kv)(x:V):Kv:=fun v σ=>ck (isNone v) (Q x σ)
def IY(C:yA)(n:String)(vs:List V)(Q:Kv)(σ:St):Prop:=∃a d,ck (ET (jM σ.g d)) (ck (ET (jM (J8 (some (.ns [])) σ.g d) a)) (sI C (.fn (n++".__init__")) (.ref true a::vs) (q5U Q (.ref true a)) ((σ.set (.ns []) true d).set (.inst n d) true a)))
def q24(C:yA)(n:String)(W:Kl->St->Prop)(Q:Kv):Kv:=fun o σ=>ck (g9 o) (mT σ o fun c z0 fs=>ck (ET (jE fs n)) (lm cN c n fun f=>W (fun vs σ'=>sI C (.fn f) (o::vs) Q σ') σ))
def jZ(W:Kv->St->Prop)(F:V->Kv):Kv:=fun x σ=>W (F x) σ
def q5W(Q:Kv):Kv:=fun v σ=>yN v fun i=>Q (.int (-i)) σ
def q7C(Q:Kv):Kb:=fun b σ=>Q (.bool b) σ
def q28(Q:Kv):Kb:=fun b σ=>Q (.bool (!b)) σ
def q27(Q:Kb):Kb:=fun b σ=>Q (!b) σ
def q5M(op:Op)(Q:Kv)(x:V):Kv:=fun y σ=>ZE op x y (kq Q σ)
def q1Z(op:Cp)(Q:Kv)(x:V):Kv:=fun y σ=>SO σ op x y fun b=>Q (.bool b) σ
def q5O(op:Cp)(Q:Kb)(x:V):Kv:=fun y σ=>SO σ op x y fun b=>Q b σ
def q4Z(n:B1)(Q:Kv):Kv:=fun x σ=>q7A σ n x (kq Q σ)
def q50(n:B2)(Q:Kv)(x:V):Kv:=fun y σ=>q1P σ n x y (kq Q σ)
def q8D(n:M1)(W:Kv->St->Prop)(Q:Kv):Kv:=fun x σ=>q41 σ n x (W (fun y σ'=>q3J σ' n x y Q) σ)
def q5V(A B:Kv->St->Prop)(Q:Kv):Kb:=fun b σ=>bb b (A Q σ) (B Q σ)
def q61(Q:Kv):Kl:=fun vs σ=>Q (.tup vs) σ
def q23(Q:Kv):Kl:=fun vs σ=>Q (.lst vs) σ
def t8(g:Bool)(ob:Ob)(Q:Kv):St->Prop:=fun σ=>match g with
 | false=>Q (.ref false σ.l.length) (σ.set ob false σ.l.length)
 | true=>∃k,ck (ET (jM σ.g k)) (Q (.ref true k) (σ.set ob true k))
noncomputable def q63:DK->Ob
 | .I=>.dI []
 | .S=>.dS []
 | .T=>.dT []
def q26(Q:Kv):Kl:=fun vs σ=>t8 false (.list vs) Q σ
def q25(Q:Kv):Kl:=fun vs σ=>t8 true (.list vs) Q σ
def q21(v:V)(Q:Kl):Kl:=fun vs σ=>Q (v::vs) σ
def SI(W:Kl->St->Prop)(Q:Kl):Kv:=fun v σ=>ck (g9 v) (W (q21 v Q) σ)
def LZ(C:yA)(W:Kl->St->Prop)(Q:Kv):Kv:=fun f σ=>W (fun vs σ=>sI C f vs Q σ) σ
def q5X(Q:Kv):Kv:=fun o σ=>ck (gY o) (xK (obj σ o) fun l=>∃m v,l=m++[v]/\v9 l (Q v (σ.put (.list m) o)))
def q5S(Q:Kv)(o k:V):Kv:=fun d σ=>sF k fun i=>lO (obj σ o) (.tup i) fun x=>Q (x.getD d) σ
def q37:Option Ob->Prop->Prop
 | some (.dT es),X=>X
 | _,_=>False
def q2B(K:Kv):Kv:=fun x σ=>q37 (obj σ x) (K x σ)
def q2A(K:Kv):Kv:=fun x σ=>WO (obj σ x) fun z0=>K x σ
@[reducible] def oo(x:Option V)(K:V->Prop)(X:Prop):Prop:=match x with
 | some v=>K v
 | none=>X
def q5Z(Q:Kv)(o:V):Kv:=fun k σ=>ck (gY o) (yN k fun i=>WO (obj σ o) fun es=>ck (Nat.blt es.length lim) (oo (y8 es i) (kq Q σ) (t8 true (.list []) (fun v σ'=>Q v (σ'.put (.dI (xQ es i v)) o)) σ)))
def q1V(n:String)(Q:Kv):Kv:=fun o σ=>mT σ o fun z0 z0 fs=>Sv (jE fs n) (kq Q σ)
def q60(Q:Kv)(x y:V):Kv:=fun z σ=>q4E σ x y z (kq Q σ)
def q51(Q:Kv):Kv:=fun v σ=>ck (gY v) (xK (obj σ v) fun l=>Q (.lst l) (σ.put .dead v))
def q2W(ob:Option Ob)(K:V->Prop):Prop:=match ob with
 | some (.list l)=>K (.lst l)
 | some (.dI es)=>∃l,es=vL l/\K (.iset l)
 | _=>False
def q5R(Q:Kv)(v:V)(σ:St):Prop:=match v with
 | .ref false k=>q2W (jM σ.l k) fun w=>Q w (σ.set .dead false k)
 | _=>False
def q8B(isAnd:Bool)(W:Kv->St->Prop)(Q:Kv)(v:V)(σ:St):Bool->Prop:=fun b=>match isAnd with
 | true=>bb b (W Q σ) (Q v σ)
 | false=>bb b (Q v σ) (W Q σ)
def q5N(isAnd:Bool)(W:Kv->St->Prop)(Q:Kv):Kv:=fun v σ=>JP σ v (q8B isAnd W Q v σ)
def KF(Q:Kb):Kv:=fun v σ=>JP σ v fun b=>Q b σ
def q5L(isAnd:Bool)(W:Kb->St->Prop)(Q:Kb):Kb:=fun b σ=>match isAnd with
 | true=>bb b (W Q σ) (Q false σ)
 | false=>bb b (Q true σ) (W Q σ)
abbrev Ko:=Option V->St->Prop
def q2C(Q:Ko):Kv:=fun v σ=>ck (g9 v) (Q (some v) σ)
def q22(W:Kv->St->Prop)(Q:Ko):Kb:=fun b σ=>bb b (W (q2C Q) σ) (Q none σ)
def A0(ok:St->Prop->Prop)(W:List V->St->Prop)(acc:List V):Ko:=fun o σ=>ok σ (W (acc++o.toList) σ)
def kZ(B:V->Ko->St->Prop)(ok:St->Prop->Prop)(Q:Kl):List V->List V->St->Prop
 | [],acc,σ=>Q acc σ
 | x::r,acc,σ=>B x (A0 ok (kZ B ok Q r) acc) σ
def pP(T:y5->Kb->St->Prop)(W:y5->Kv->St->Prop)(tg:Tg)(ρ:y5):V->Ko->St->Prop:=fun x K σ=>lr (y5.bind ρ tg x) fun ρ'=>T ρ' (q22 (W ρ') K) σ
def q20(T:y5->Kb->St->Prop)(W:y5->Kv->St->Prop)(tg:Tg)(ρ:y5)(Q:Kv):Kv:=fun iv σ=>pA σ iv fun l=>v9 l (kZ (pP T W tg ρ) (O1 l iv) (q23 Q) l [] σ)
def u5(Q:List (Int×V)->St->Prop):List V->List (Int×V)->St->Prop
 | [],acc,σ=>Q acc σ
 | x::r,acc,σ=>yN x fun i=>t8 true (.list []) (fun v σ'=>u5 Q r (xQ acc i v) σ') σ
def SJ(Q:Kv):Kv:=fun iv σ=>sF iv fun l=>v9 l (u5 (fun es σ=>t8 true (.dI es) Q σ) l [] σ)
mutual
def we(C:yA):Ex->y5->Kv->St->Prop
 | .c v,_,Q,σ=>Q v σ
 | .loc x,ρ,Q,σ=>ll (ρ x) (kq Q σ)
 | .g _ v,_,Q,σ=>Q v σ
 | .neg e,ρ,Q,σ=>we C e ρ (q5W Q) σ
 | .not e,ρ,Q,σ=>wt C e ρ (q28 Q) σ
 | .bop a l,ρ,Q,σ=>q7Z C a l ρ Q σ
 | .bin op a b,ρ,Q,σ=>we C a ρ (jZ (we C b ρ) (q5M op Q)) σ
 | .cmp op a b,ρ,Q,σ=>we C a ρ (jZ (we C b ρ) (q1Z op Q)) σ
 | .ite t a b,ρ,Q,σ=>wt C t ρ (q5V (we C a ρ) (we C b ρ) Q) σ
 | .tup l,ρ,Q,σ=>aX C l ρ (q61 Q) σ
 | .lst l,ρ,Q,σ=>aX C l ρ (q23 Q) σ
 | .newo l,ρ,Q,σ=>aX C l ρ (q26 Q) σ
 | .newg l,ρ,Q,σ=>aX C l ρ (q25 Q) σ
 | .dicto k,_,Q,σ=>t8 false (q63 k) Q σ
 | .dictg k,_,Q,σ=>t8 true (q63 k) Q σ
 | .comp elt tg it ifs,ρ,Q,σ=>we C it ρ (q20 (bC C true ifs) (we C elt) tg ρ Q) σ
 | .dcomp _ it,ρ,Q,σ=>we C it ρ (SJ Q) σ
 | .call f args,ρ,Q,σ=>we C f ρ (LZ C (aX C args ρ) Q) σ
 | .new c args,ρ,Q,σ=>aX C args ρ (fun vs σ=>IY C c vs Q σ) σ
 | .meth o n args,ρ,Q,σ=>we C o ρ (q24 C n (aX C args ρ) Q) σ
 | .b1 n a,ρ,Q,σ=>we C a ρ (q4Z n Q) σ
 | .b2 n a b,ρ,Q,σ=>we C a ρ (jZ (we C b ρ) (q50 n Q)) σ
 | .pop o,ρ,Q,σ=>we C o ρ (q5X Q) σ
 | .m1 n o a,ρ,Q,σ=>we C o ρ (q8D n (we C a ρ) Q) σ
 | .get o k d,ρ,Q,σ=>we C o ρ (q2B (jZ (we C k ρ) fun x=>jZ (we C d ρ) (q5S Q x))) σ
 | .sdl o k,ρ,Q,σ=>we C o ρ (q2A (jZ (we C k ρ) (q5Z Q))) σ
 | .attr o n,ρ,Q,σ=>we C o ρ (q1V n Q) σ
 | .slice o lo hi,ρ,Q,σ=>we C o ρ (jZ (we C lo ρ) fun x=>jZ (we C hi ρ) (q60 Q x)) σ
 | .subf o i,ρ,Q,σ=>we C o ρ (jZ (we C i ρ) (q50 .subd (q51 Q))) σ
 | .bad,_,_,_=>False
def aX(C:yA):List Ex->y5->Kl->St->Prop
 | [],_,Q,σ=>Q [] σ
 | e::r,ρ,Q,σ=>we C e ρ (SI (aX C r ρ) Q) σ
def q7Z(C:yA)(isAnd:Bool):List Ex->y5->Kv->St->Prop
 | [],_,_,_=>False
 | [e],ρ,Q,σ=>we C e ρ Q σ
 | e::r,ρ,Q,σ=>we C e ρ (q5N isAnd (q7Z C isAnd r ρ) Q) σ
def wt(C:yA):Ex->y5->Kb->St->Prop
 | .not e,ρ,Q,σ=>wt C e ρ (q27 Q) σ
 | .bop a l,ρ,Q,σ=>bC C a l ρ Q σ
 | .cmp op a b,ρ,Q,σ=>we C a ρ (jZ (we C b ρ) (q5O op Q)) σ
 | .loc x,ρ,Q,σ=>ll (ρ x) fun v=>KF Q v σ
 | .b1 n a,ρ,Q,σ=>we C a ρ (q4Z n (KF Q)) σ
 | .call f args,ρ,Q,σ=>we C f ρ (LZ C (aX C args ρ) (KF Q)) σ
 | _,_,_,_=>False
def bC(C:yA)(isAnd:Bool):List Ex->y5->Kb->St->Prop
 | [],_,Q,σ=>Q isAnd σ
 | e::r,ρ,Q,σ=>wt C e ρ (q5L isAnd (bC C isAnd r ρ) Q) σ
end
def d6(W:y5->St->Prop)(Q:Kf):Kf:=fun fl ρ σ=>match fl with
 | .next=>W ρ σ
 | .cont=>W ρ σ
 | .ret v=>Q (.ret v) ρ σ
def r9(tg:Tg)(B:y5->Kf->St->Prop)(Q:Kf):List V->y5->St->Prop
 | [],ρ,σ=>Q .next ρ σ
 | x::r,ρ,σ=>lr (y5.bind ρ tg x) fun ρ'=>B ρ' (d6 (r9 tg B Q r) Q) σ
def q5Q(tg:Tg)(B:y5->Kf->St->Prop)(ρ:y5)(Q:Kf):Kv:=fun iv σ=>ck (!gY iv) (pA σ iv fun l=>r9 tg B Q l ρ σ)
noncomputable def kM(ρ:y5):List String->Option (List V)
 | []=>some []
 | x::r=>match ρ x,kM ρ r with
  | some v,some l=>some (v::l)
  | _,_=>none
def lc(x:Option (List V))(W:List V->Prop):Prop:=match x with
 | some l=>W l
 | none=>False
def q1T(x:String)(ρ:y5)(Q:Kf):Kv:=fun v σ=>Q .next (y5.set ρ x v) σ
def q1U(xs:List String)(ρ:y5)(Q:Kf):Kv:=fun v σ=>lr (y5.bind ρ (.tp xs) v) fun ρ'=>Q .next ρ' σ
def LW(n:String)(ρ:y5)(Q:Kf)(v:V):Kv:=fun o σ=>ck (g9 v) (mT σ o fun z0 d fs=>ck (Nat.blt fs.length 500) (Q .next ρ (σ.set (.ns (J4 fs n v)) true d)))
def AQ(σ:St)(o k v:V)(K:St->Prop):Prop:=ck (g9 v) (ck (gY o) (q45 (obj σ o) k v fun ob=>K (σ.put ob o)))
def LY(ρ:y5)(Q:Kf)(v o:V):Kv:=fun k σ=>AQ σ o k v fun σ'=>Q .next ρ σ'
def q1X(x:String)(op:Op)(ρ:y5)(Q:Kf)(old:V):Kv:=fun v σ=>ZE op old v fun w=>Q .next (y5.set ρ x w) σ
def q1W(o:V)(n:String)(op:Op)(ρ:y5)(Q:Kf)(old:V):Kv:=fun v σ=>ZE op old v fun w=>LW n ρ Q w o σ
def q1Y(o i:V)(op:Op)(ρ:y5)(Q:Kf)(old:V):Kv:=fun v σ=>ZE op old v fun w=>yN i fun j=>match j with
 | .ofNat k=>ck (g9 w) (ck (gY o) (xK (obj σ o) fun l=>ck (Nat.blt k l.length) (v9 l (Q .next ρ (σ.put (.list (l.set k w)) o)))))
 | _=>False
noncomputable def HH:V->Bool
 | .none=>true
 | .int _=>true
 | _=>false
def q8C(ρ:y5)(Q:Kf):Kv:=fun v σ=>ck (HH v) (Q .next ρ σ)
def q5T(A B:Kf->St->Prop)(Q:Kf):Kb:=fun b σ=>bb b (A Q σ) (B Q σ)
def q5Y(ρ:y5)(Q:Kf):Kv:=fun v σ=>Q (.ret v) ρ σ
def SM(W:y5->Kf->St->Prop)(Q:Kf):Kf:=fun fl ρ σ=>match fl with
 | .next=>W ρ Q σ
 | .cont=>Q .cont ρ σ
 | .ret v=>Q (.ret v) ρ σ
def G8(T:y5->Kb->St->Prop)(B:y5->Kf->St->Prop)(Q:Kf):Nat->y5->St->Prop
 | 0,_,_=>False
 | n+1,ρ,σ=>T ρ (fun b σ=>bb b (B ρ (d6 (G8 T B Q n) Q) σ) (Q .next ρ σ)) σ
mutual
def ws(C:yA):Sx->y5->Kf->St->Prop
 | .asg x e,ρ,Q,σ=>we C e ρ (q1T x ρ Q) σ
 | .asgT xs e,ρ,Q,σ=>we C e ρ (q1U xs ρ Q) σ
 | .asgA o n e,ρ,Q,σ=>we C e ρ (jZ (we C o ρ) (LW n ρ Q)) σ
 | .asgS o i e,ρ,Q,σ=>we C e ρ (jZ (we C o ρ) fun v=>jZ (we C i ρ) (LY ρ Q v)) σ
 | .augN x op e,ρ,Q,σ=>ll (ρ x) fun old=>we C e ρ (q1X x op ρ Q old) σ
 | .augA o n op e,ρ,Q,σ=>we C o ρ (fun ov σ=>mT σ ov fun z0 z0 fs=>Sv (jE fs n) fun old=>we C e ρ (q1W ov n op ρ Q old) σ) σ
 | .augS o i op e,ρ,Q,σ=>we C o ρ (jZ (we C i ρ) fun ov iv σ=>q1P σ .sub ov iv fun old=>we C e ρ (q1Y ov iv op ρ Q old) σ) σ
 | .ex e,ρ,Q,σ=>we C e ρ (q8C ρ Q) σ
 | .iff t b c,ρ,Q,σ=>wt C t ρ (q5T (xA C b ρ) (xA C c ρ) Q) σ
 | .whl t b,ρ,Q,σ=>G8 (wt C t) (xA C b) Q 10000 ρ σ
 | .for_ tg it b,ρ,Q,σ=>we C it ρ (q5Q tg (xA C b) ρ Q) σ
 | .ret e,ρ,Q,σ=>we C e ρ (q5Y ρ Q) σ
 | .frz x,ρ,Q,σ=>ll (ρ x) fun v=>q5R (q1T x ρ Q) v σ
 | .cont,ρ,Q,σ=>Q .cont ρ σ
 | .defn x nm caps,ρ,Q,σ=>lc (kM ρ caps) fun cap=>ck (cap.all g9) (Q .next (y5.set ρ x (.clos nm cap)) σ)
 | .bad,_,_,_=>False
def xA(C:yA):List Sx->y5->Kf->St->Prop
 | [],ρ,Q,σ=>Q .next ρ σ
 | s::r,ρ,Q,σ=>ws C s ρ (SM (xA C r) Q) σ
end
set_option genCtorIdx false in
structure x6 where
 params:List String
 dflt:List V
 caps:List String
 body:List Sx
def uO(Q:Kv):Kf:=fun fl z0 σ'=>match fl with
 | .ret v=>ck (g9 v) (Q v ⟨σ'.g,[]⟩)
 | .next=>Q .none ⟨σ'.g,[]⟩
 | .cont=>False
def ld(x:Option x6)(W:x6->Prop):Prop:=match x with
 | some d=>W d
 | none=>False
noncomputable def xV:y5:=fun z0=>none
noncomputable def sR(d:x6)(vs:List V):List V:=match Nat.beq vs.length d.params.length with
 | true=>[]
 | false=>d.dflt
def uR(C:yA)(x:Option x6)(cap vs:List V)(Q:Kv)(σ:St):Prop:=ld x fun d=>lr (y5.sets xV (d.caps++d.params) (cap++(vs++sR d vs))) fun ρ=>xA C d.body ρ (uO Q) σ
def D3(D:String->Option x6):Nat->yA
 | 0=>fun z0 z0 z0 z0 z0=>False
 | n+1=>fun f=>uR (D3 D n) (D f)
noncomputable def q5B:List String:=["last_mark","needed_to_last","one_rest","row_binds","row_kids","meet_parts_of","_law_forms","_law_aims","TypeTable.row","Thin.force","is_fresh","same_decl"]
noncomputable def BP(f:String):Bool:=q5B.any fun x=>decide (x=f)
@[reducible] def xP(D:String->Option x6)(C:yA):yA:=fun f cap vs Q σ=>bb (BP f) (D3 D 6 f cap vs Q σ) (C f cap vs Q σ)
@[irreducible] def y4(D:String->Option x6)(n:Nat):yA:=Nat.rec (motive:=fun z0=>yA) (fun z0 z0 z0 z0 z0=>False) (fun z0 C f=>uR (xP D C) (D f)) n
end
def KG{D:String->Option x6}{n:Nat}:y4 D (n+1)=fun f=>uR (xP D (y4 D n)) (D f):=by with_unfolding_all rfl
end
section
section
noncomputable def sM:x6:=⟨["tab","t"],[],[],[
  .ret (.b2 .sub (.b2 .sub (.attr (.loc "tab") "rows") (.loc "t")) (.c (.int 0)))]⟩
noncomputable def l6:x6:=⟨["tab","text","fresh"],[(.int 0)],[],[
  .ret (.meth (.loc "tab") "put" [.tup [.g "Y_STR" (.int 3),.loc "text",.loc "fresh"]])]⟩
noncomputable def dX:x6:=⟨["tab","n","fresh"],[(.int 0)],[],[
  .ret (.meth (.loc "tab") "put" [.tup [.g "Y_NUM" (.int 4),.loc "n",.loc "fresh"]])]⟩
noncomputable def pT:x6:=⟨["tab","elem","ro"],[(.int 0)],[],[
  .ret (.meth (.loc "tab") "put" [.tup [.g "Y_ARRAY" (.int 11),.loc "elem",.loc "ro"]])]⟩
noncomputable def ZK:x6:=⟨["elems","marks"],[],[],[
  .asg "found" (.neg (.c (.int 1))),
  .for_ (.nm "place") (.b1 .range (.b1 .len (.loc "elems"))) [.iff (.cmp .inn (.b2 .sub (.b2 .sub (.loc "elems") (.loc "place")) (.c (.int 1))) (.loc "marks")) [.asg "found" (.loc "place")] []],
  .ret (.loc "found")]⟩
noncomputable def mO:x6:=⟨["tab","elems"],[],[],[
  .asg "last" (.call (.g "last_mark" (.fn "last_mark")) [.loc "elems",.tup [.g "E_NEED" (.int 0)]]),
  .asg "out" (.newo []),
  .for_ (.nm "place") (.b1 .range (.b1 .len (.loc "elems"))) [.asgT ["given","mark"] (.b2 .sub (.loc "elems") (.loc "place")),.iff (.bop true [.cmp .eq (.loc "mark") (.g "E_OPT" (.int 1)),.cmp .lt (.loc "place") (.loc "last")]) [.bad] [.ex (.m1 .append (.loc "out") (.tup [.loc "given",.loc "mark"]))]],
  .frz "out",
  .ret (.loc "out")]⟩
noncomputable def W9:x6:=⟨["tab","elems","last"],[],[],[
  .asg "first" (.neg (.c (.int 1))),
  .for_ (.nm "place") (.b1 .range (.b1 .len (.loc "elems"))) [.iff (.bop true [.cmp .lt (.loc "first") (.c (.int 0)),.cmp .eq (.b2 .sub (.b2 .sub (.loc "elems") (.loc "place")) (.c (.int 1))) (.g "E_REST" (.int 2))]) [.asg "first" (.loc "place")] []],
  .iff (.bop false [.cmp .lt (.loc "first") (.c (.int 0)),.cmp .le (.loc "last") (.loc "first")]) [.ret (.loc "elems")] [],
  .bad,
  .bad,
  .bad]⟩
noncomputable def vK:x6:=⟨["tab","elems","ro"],[(.int 0)],[],[
  .asg "rows" (.comp (.tup [.loc "given",.loc "mark"]) (.tp ["given","mark"]) (.loc "elems") []),
  .iff (.cmp .lt (.call (.g "last_mark" (.fn "last_mark")) [.loc "rows",.tup [.g "E_SPREAD" (.int 3)]]) (.c (.int 0))) [.asg "last" (.call (.g "last_mark" (.fn "last_mark")) [.loc "rows",.tup [.g "E_REST" (.int 2),.g "E_OPT" (.int 1)]]),.asg "rows" (.call (.g "one_rest" (.fn "one_rest")) [.loc "tab",.call (.g "needed_to_last" (.fn "needed_to_last")) [.loc "tab",.loc "rows"],.loc "last"]),.iff (.bop true [.cmp .eq (.b1 .len (.loc "rows")) (.c (.int 1)),.cmp .eq (.b2 .sub (.b2 .sub (.loc "rows") (.c (.int 0))) (.c (.int 1))) (.g "E_REST" (.int 2))]) [.ret (.call (.g "array_type" (.fn "array_type")) [.loc "tab",.b2 .sub (.b2 .sub (.loc "rows") (.c (.int 0))) (.c (.int 0)),.loc "ro"])] []] [],
  .ret (.meth (.loc "tab") "put" [.tup [.g "Y_TUPLE" (.int 12),.b1 .tuple (.loc "rows"),.loc "ro"]])]⟩
noncomputable def rI:x6:=⟨["tab","name","bound","default"],[(.int (-1)),(.int (-1))],[],[
  .asg "pid" (.b1 .len (.attr (.loc "tab") "bounds")),
  .ex (.m1 .append (.attr (.loc "tab") "bounds") (.loc "bound")),
  .ex (.m1 .append (.attr (.loc "tab") "defaults") (.loc "default")),
  .ex (.m1 .append (.attr (.loc "tab") "names") (.loc "name")),
  .ret (.meth (.loc "tab") "put" [.tup [.g "Y_PARAM" (.int 10),.loc "pid"]])]⟩
noncomputable def dY:x6:=⟨["tab","t"],[],[],[
  .iff (.cmp .eq (.loc "t") (.g "NEVER" (.int 2))) [.ret (.tup [])] [],
  .asg "row" (.b2 .sub (.attr (.loc "tab") "rows") (.loc "t")),
  .iff (.cmp .eq (.b2 .sub (.loc "row") (.c (.int 0))) (.g "Y_UNION" (.int 6))) [.ret (.b2 .sub (.loc "row") (.c (.int 1)))] [],
  .ret (.tup [.loc "t"])]⟩
noncomputable def fG:x6:=⟨["row"],[],[],[
  .asg "kind" (.b2 .sub (.loc "row") (.c (.int 0))),
  .iff (.bop false [.cmp .eq (.loc "kind") (.g "Y_STR" (.int 3)),.cmp .eq (.loc "kind") (.g "Y_TPL" (.int 18))]) [.ret (.g "STRING" (.int 6))] [],
  .iff (.cmp .eq (.loc "kind") (.g "Y_NUM" (.int 4))) [.ret (.g "NUMBER" (.int 7))] [],
  .iff (.cmp .eq (.loc "kind") (.g "Y_ENUM" (.int 5))) [.bad] [],
  .ret (.neg (.c (.int 1)))]⟩
noncomputable def fC:x6:=⟨["tab","t"],[],[],[
  .asg "row" (.b2 .sub (.attr (.loc "tab") "rows") (.loc "t")),
  .iff (.bop true [.cmp .inn (.b2 .sub (.loc "row") (.c (.int 0))) (.g "MARKED_ROWS" (.tup [(.int 2),(.int 3),(.int 4),(.int 5),(.int 8)])),.cmp .eq (.b2 .sub (.loc "row") (.neg (.c (.int 1)))) (.c (.int 1))]) [.ret (.get (.attr (.loc "tab") "index") (.bin .addT (.slice (.loc "row") (.c .none) (.neg (.c (.int 1)))) (.tup [.c (.int 0)])) (.neg (.c (.int 1))))] [],
  .ret (.neg (.c (.int 1)))]⟩
noncomputable def pX:x6:=⟨["got"],[],[],[
  .iff (.bop true [.bop false [.cmp .ind (.g "FALSE_T" (.int 8)) (.loc "got"),.cmp .ind (.g "FRESH_F" (.int 14)) (.loc "got")],.bop false [.cmp .ind (.g "TRUE_T" (.int 9)) (.loc "got"),.cmp .ind (.g "FRESH_T" (.int 15)) (.loc "got")]]) [.bad,.bad] []]⟩
noncomputable def fF:x6:=⟨["tab","got","t"],[],[],[
  .iff (.cmp .ind (.call (.g "regular_twin" (.fn "regular_twin")) [.loc "tab",.loc "t"]) (.loc "got")) [.ret (.c (.bool false))] [],
  .ret (.cmp .nid (.call (.g "whole_of_row" (.fn "whole_of_row")) [.b2 .sub (.attr (.loc "tab") "rows") (.loc "t")]) (.loc "got"))]⟩
noncomputable def ZP:x6:=⟨["got"],[],[],[
  .for_ (.nm "t") (.tup [.g "ANY" (.int 0),.g "ERR" (.int 13),.g "UNKNOWN" (.int 1)]) [.iff (.cmp .ind (.loc "t") (.loc "got")) [.ret (.loc "t")] []],
  .ret (.neg (.c (.int 1)))]⟩
noncomputable def o3:x6:=⟨["tab","parts"],[],[],[
  .asg "got" (.dicto .I),
  .for_ (.nm "t") (.loc "parts") [.for_ (.nm "part") (.call (.g "parts_of" (.fn "parts_of")) [.loc "tab",.loc "t"]) [.asgS (.loc "got") (.loc "part") (.c (.int 1))]],
  .frz "got",
  .asg "top" (.call (.g "top_of" (.fn "top_of")) [.loc "got"]),
  .iff (.cmp .ge (.loc "top") (.c (.int 0))) [.ret (.loc "top")] [],
  .ex (.call (.g "join_bools" (.fn "join_bools")) [.loc "got"]),
  .asg "kept" (.comp (.loc "t") (.nm "t") (.b1 .sortI (.loc "got")) [.call (.g "stays_beside" (.fn "stays_beside")) [.loc "tab",.loc "got",.loc "t"]]),
  .iff (.not (.loc "kept")) [.ret (.g "NEVER" (.int 2))] [],
  .iff (.cmp .eq (.b1 .len (.loc "kept")) (.c (.int 1))) [.ret (.b2 .sub (.loc "kept") (.c (.int 0)))] [],
  .iff (.cmp .gt (.b1 .len (.loc "kept")) (.g "MAX_UNION" (.int 400))) [.bad] [],
  .ret (.meth (.loc "tab") "put" [.tup [.g "Y_UNION" (.int 6),.b1 .tuple (.loc "kept")]])]⟩
noncomputable def rC:x6:=⟨["tab","t"],[],[],[
  .ret (.call (.g "union" (.fn "union")) [.loc "tab",.tup [.loc "t",.g "UNDEF" (.int 4)]])]⟩
noncomputable def W7:x6:=⟨["tab","t"],[],[],[
  .asg "row" (.b2 .sub (.attr (.loc "tab") "rows") (.loc "t")),
  .ret (.bop true [.cmp .inn (.b2 .sub (.loc "row") (.c (.int 0))) (.g "MARKED_ROWS" (.tup [(.int 2),(.int 3),(.int 4),(.int 5),(.int 8)])),.cmp .eq (.b2 .sub (.loc "row") (.neg (.c (.int 1)))) (.c (.int 1))])]⟩
noncomputable def uP:x6:=⟨["tab","t"],[],[],[
  .iff (.call (.g "is_fresh" (.fn "is_fresh")) [.loc "tab",.loc "t"]) [.ret (.meth (.loc "tab") "put" [.bin .addT (.slice (.b2 .sub (.attr (.loc "tab") "rows") (.loc "t")) (.c .none) (.neg (.c (.int 1)))) (.tup [.c (.int 0)])])] [],
  .ret (.loc "t")]⟩
noncomputable def bJ:x6:=⟨["tab","t"],[],[],[
  .iff (.cmp .eq (.call (.g "kind_of" (.fn "kind_of")) [.loc "tab",.loc "t"]) (.g "Y_UNION" (.int 6))) [.ret (.call (.g "union" (.fn "union")) [.loc "tab",.comp (.call (.g "regular_one" (.fn "regular_one")) [.loc "tab",.loc "part"]) (.nm "part") (.call (.g "parts_of" (.fn "parts_of")) [.loc "tab",.loc "t"]) []])] [],
  .ret (.call (.g "regular_one" (.fn "regular_one")) [.loc "tab",.loc "t"])]⟩
noncomputable def WA:x6:=⟨["row"],[],[],[
  .asg "kind" (.b2 .sub (.loc "row") (.c (.int 0))),
  .iff (.cmp .ind (.loc "kind") (.g "KID_SPANS" .spans)) [.asgT ["low","high"] (.b2 .subd (.g "KID_SPANS" .spans) (.loc "kind")),.ret (.comp (.loc "one") (.nm "one") (.slice (.loc "row") (.loc "low") (.loc "high")) [])] [],
  .iff (.bop false [.cmp .eq (.loc "kind") (.g "Y_UNION" (.int 6)),.cmp .eq (.loc "kind") (.g "Y_INTER" (.int 7))]) [.bad] [],
  .iff (.cmp .eq (.loc "kind") (.g "Y_OBJ" (.int 8))) [.bad] [],
  .iff (.bop false [.cmp .eq (.loc "kind") (.g "Y_REF" (.int 9)),.cmp .eq (.loc "kind") (.g "Y_ALIAS" (.int 19)),.cmp .eq (.loc "kind") (.g "Y_TPL" (.int 18))]) [.bad] [],
  .iff (.cmp .eq (.loc "kind") (.g "Y_TUPLE" (.int 12))) [.ret (.comp (.b2 .sub (.loc "elem") (.c (.int 0))) (.nm "elem") (.b2 .sub (.loc "row") (.c (.int 1))) [])] [],
  .iff (.cmp .eq (.loc "kind") (.g "Y_SIG" (.int 13))) [.bad] [],
  .ret (.lst [])]⟩
noncomputable def ZN:x6:=⟨["row"],[],[],[
  .iff (.cmp .eq (.b2 .sub (.loc "row") (.c (.int 0))) (.g "Y_SIG" (.int 13))) [.bad] [],
  .iff (.cmp .eq (.b2 .sub (.loc "row") (.c (.int 0))) (.g "Y_COND" (.int 16))) [.bad] [],
  .iff (.cmp .eq (.b2 .sub (.loc "row") (.c (.int 0))) (.g "Y_MAPPED" (.int 17))) [.bad] [],
  .ret (.tup [])]⟩
noncomputable def pV:x6:=⟨["tab","row"],[],[],[
  .asg "out" (.call (.g "row_kids" (.fn "row_kids")) [.loc "row"]),
  .for_ (.nm "pid") (.call (.g "row_binds" (.fn "row_binds")) [.loc "row"]) [.bad,.bad],
  .ret (.loc "out")]⟩
noncomputable def mP:x6:=⟨["tab","t"],[],[],[
  .asg "seen" (.dicto .I),
  .asg "waiting" (.newo [.loc "t"]),
  .whl (.loc "waiting") [.asg "at" (.pop (.loc "waiting")),.iff (.bop true [.cmp .ge (.loc "at") (.c (.int 0)),.cmp .nid (.loc "at") (.loc "seen")]) [.asgS (.loc "seen") (.loc "at") (.c (.int 1)),.ex (.m1 .extend (.loc "waiting") (.call (.g "inner_kids" (.fn "inner_kids")) [.loc "tab",.b2 .sub (.attr (.loc "tab") "rows") (.loc "at")]))] []],
  .ret (.b1 .sortI (.loc "seen"))]⟩
noncomputable def d9:x6:=⟨["tab","t"],[],[],[
  .iff (.cmp .lt (.loc "t") (.c (.int 0))) [.ret (.tup [])] [],
  .asg "order" (.call (.g "reached" (.fn "reached")) [.loc "tab",.loc "t"]),
  .iff (.not (.b1 .any (.comp (.call (.g "row_binds" (.fn "row_binds")) [.b2 .sub (.attr (.loc "tab") "rows") (.loc "at")]) (.nm "at") (.loc "order") []))) [.ret (.b1 .tuple (.b1 .sortI (.comp (.b2 .sub (.b2 .sub (.attr (.loc "tab") "rows") (.loc "at")) (.c (.int 1))) (.nm "at") (.loc "order") [.cmp .eq (.b2 .sub (.b2 .sub (.attr (.loc "tab") "rows") (.loc "at")) (.c (.int 0))) (.g "Y_PARAM" (.int 10))])))] [],
  .bad,
  .bad,
  .bad,
  .bad]⟩
noncomputable def rD:x6:=⟨["tab","elem"],[],[],[
  .iff (.cmp .eq (.b2 .sub (.loc "elem") (.c (.int 1))) (.g "E_SPREAD" (.int 3))) [.ret (.g "UNKNOWN" (.int 1))] [],
  .ret (.ite (.cmp .eq (.b2 .sub (.loc "elem") (.c (.int 1))) (.g "E_OPT" (.int 1))) (.call (.g "add_undef" (.fn "add_undef")) [.loc "tab",.b2 .sub (.loc "elem") (.c (.int 0))]) (.b2 .sub (.loc "elem") (.c (.int 0))))]⟩
noncomputable def dZ:x6:=⟨["tab","row"],[],[],[
  .iff (.cmp .eq (.b2 .sub (.loc "row") (.c (.int 0))) (.g "Y_ARRAY" (.int 11))) [.ret (.b2 .sub (.loc "row") (.c (.int 1)))] [],
  .ret (.call (.g "union" (.fn "union")) [.loc "tab",.comp (.call (.g "elem_read" (.fn "elem_read")) [.loc "tab",.loc "elem"]) (.nm "elem") (.b2 .sub (.loc "row") (.c (.int 1))) []])]⟩
noncomputable def vH:x6:=⟨["finder","source","row","contra"],[],[],[
  .asg "other" (.b2 .sub (.attr (.attr (.loc "finder") "tab") "rows") (.loc "source")),
  .iff (.cmp .eq (.b2 .sub (.loc "other") (.c (.int 0))) (.g "Y_ARRAY" (.int 11))) [.ex (.meth (.loc "finder") "walk" [.b2 .sub (.loc "other") (.c (.int 1)),.b2 .sub (.loc "row") (.c (.int 1)),.loc "contra"])] [.iff (.cmp .eq (.b2 .sub (.loc "other") (.c (.int 0))) (.g "Y_TUPLE" (.int 12))) [.ex (.meth (.loc "finder") "walk" [.call (.g "row_elem" (.fn "row_elem")) [.attr (.loc "finder") "tab",.loc "other"],.b2 .sub (.loc "row") (.c (.int 1)),.loc "contra"])] []]]⟩
noncomputable def x7:x6:=⟨["elems","mark"],[],[],[
  .for_ (.nm "elem") (.loc "elems") [.iff (.cmp .eq (.b2 .sub (.loc "elem") (.c (.int 1))) (.loc "mark")) [.ret (.c (.bool true))] []],
  .ret (.c (.bool false))]⟩
noncomputable def xN:x6:=⟨["elems"],[],[],[
  .ret (.b1 .len (.comp (.loc "elem") (.nm "elem") (.loc "elems") [.cmp .inn (.b2 .sub (.loc "elem") (.c (.int 1))) (.tup [.g "E_NEED" (.int 0),.g "E_SPREAD" (.int 3)])]))]⟩
noncomputable def gJ:x6:=⟨["sources","targets"],[],[],[
  .asg "spread" (.call (.g "kindplaces_has_mark" (.fn "kindplaces_has_mark")) [.loc "targets",.g "E_SPREAD" (.int 3)]),
  .iff (.bop true [.not (.loc "spread"),.cmp .gt (.call (.g "kindplaces_needed_length" (.fn "kindplaces_needed_length")) [.loc "targets"]) (.call (.g "kindplaces_needed_length" (.fn "kindplaces_needed_length")) [.loc "sources"])]) [.ret (.c (.bool true))] [],
  .iff (.bop false [.loc "spread",.call (.g "kindplaces_has_mark" (.fn "kindplaces_has_mark")) [.loc "targets",.g "E_REST" (.int 2)]]) [.ret (.c (.bool false))] [],
  .asg "loose" (.bop false [.call (.g "kindplaces_has_mark" (.fn "kindplaces_has_mark")) [.loc "sources",.g "E_REST" (.int 2)],.call (.g "kindplaces_has_mark" (.fn "kindplaces_has_mark")) [.loc "sources",.g "E_SPREAD" (.int 3)]]),
  .ret (.bop false [.loc "loose",.cmp .lt (.b1 .len (.loc "targets")) (.b1 .len (.loc "sources"))])]⟩
noncomputable def xZ:x6:=⟨["elems"],[],[],[
  .asg "count" (.c (.int 0)),
  .whl (.bop true [.cmp .lt (.loc "count") (.b1 .len (.loc "elems")),.cmp .inn (.b2 .sub (.b2 .sub (.loc "elems") (.loc "count")) (.c (.int 1))) (.tup [.g "E_NEED" (.int 0),.g "E_OPT" (.int 1)])]) [.augN "count" .add (.c (.int 1))],
  .ret (.loc "count")]⟩
noncomputable def wB:x6:=⟨["elems"],[],[],[
  .asg "count" (.c (.int 0)),
  .whl (.bop true [.cmp .lt (.loc "count") (.b1 .len (.loc "elems")),.cmp .inn (.b2 .sub (.b2 .sub (.loc "elems") (.bin .sub (.bin .sub (.b1 .len (.loc "elems")) (.c (.int 1))) (.loc "count"))) (.c (.int 1))) (.tup [.g "E_NEED" (.int 0),.g "E_OPT" (.int 1)])]) [.augN "count" .add (.c (.int 1))],
  .ret (.loc "count")]⟩
noncomputable def rJ:x6:=⟨["finder","elem","other","contra"],[],[],[
  .asg "source" (.call (.g "elem_read" (.fn "elem_read")) [.attr (.loc "finder") "tab",.loc "elem"]),
  .iff (.cmp .eq (.b2 .sub (.loc "other") (.c (.int 1))) (.g "E_OPT" (.int 1))) [.ex (.meth (.loc "finder") "optional" [.loc "source",.b2 .sub (.loc "other") (.c (.int 0)),.loc "contra"])] [.ex (.meth (.loc "finder") "walk" [.loc "source",.b2 .sub (.loc "other") (.c (.int 0)),.loc "contra"])]]⟩
noncomputable def rL:x6:=⟨["tab","t","mark"],[],[],[
  .ret (.ite (.cmp .eq (.loc "mark") (.g "E_SPREAD" (.int 3))) (.call (.g "array_type" (.fn "array_type")) [.loc "tab",.loc "t",.c (.int 0)]) (.loc "t"))]⟩
noncomputable def vJ:x6:=⟨["finder","source","targets","contra"],[],[],[
  .asg "other" (.b2 .sub (.attr (.attr (.loc "finder") "tab") "rows") (.loc "source")),
  .iff (.cmp .eq (.b2 .sub (.loc "other") (.c (.int 0))) (.g "Y_ARRAY" (.int 11))) [.for_ (.nm "elem") (.loc "targets") [.ex (.call (.g "seek_elem" (.fn "seek_elem")) [.loc "finder",.tup [.call (.g "spread_of" (.fn "spread_of")) [.attr (.loc "finder") "tab",.b2 .sub (.loc "other") (.c (.int 1)),.b2 .sub (.loc "elem") (.c (.int 1))],.g "E_REST" (.int 2)],.loc "elem",.loc "contra"])]] [.iff (.cmp .eq (.b2 .sub (.loc "other") (.c (.int 0))) (.g "Y_TUPLE" (.int 12))) [.ex (.call (.g "seek_places" (.fn "seek_places")) [.loc "finder",.b2 .sub (.loc "other") (.c (.int 1)),.loc "targets",.loc "contra"])] []]]⟩
noncomputable def jD:x6:=⟨["finder","sources","targets","contra"],[],[],[
  .asg "front" (.b2 .min (.call (.g "kindplaces_fixed_front" (.fn "kindplaces_fixed_front")) [.loc "sources"]) (.call (.g "kindplaces_fixed_front" (.fn "kindplaces_fixed_front")) [.loc "targets"])),
  .asg "back" (.c (.int 0)),
  .iff (.cmp .lt (.call (.g "kindplaces_fixed_front" (.fn "kindplaces_fixed_front")) [.loc "targets"]) (.b1 .len (.loc "targets"))) [.asg "back" (.b2 .min (.call (.g "kindplaces_fixed_back" (.fn "kindplaces_fixed_back")) [.loc "sources"]) (.call (.g "kindplaces_fixed_back" (.fn "kindplaces_fixed_back")) [.loc "targets"]))] [],
  .for_ (.nm "place") (.b1 .range (.loc "front")) [.ex (.call (.g "seek_elem" (.fn "seek_elem")) [.loc "finder",.b2 .sub (.loc "sources") (.loc "place"),.b2 .sub (.loc "targets") (.loc "place"),.loc "contra"])],
  .ex (.call (.g "seek_middle" (.fn "seek_middle")) [.loc "finder",.slice (.loc "sources") (.loc "front") (.bin .sub (.b1 .len (.loc "sources")) (.loc "back")),.slice (.loc "targets") (.loc "front") (.bin .sub (.b1 .len (.loc "targets")) (.loc "back")),.loc "contra"]),
  .for_ (.nm "place") (.b2 .range (.c (.int 1)) (.bin .add (.loc "back") (.c (.int 1)))) [.ex (.call (.g "seek_elem" (.fn "seek_elem")) [.loc "finder",.b2 .sub (.loc "sources") (.neg (.loc "place")),.b2 .sub (.loc "targets") (.neg (.loc "place")),.loc "contra"])]]⟩
noncomputable def jC:x6:=⟨["finder","sources","targets","contra"],[],[],[
  .asg "tab" (.attr (.loc "finder") "tab"),
  .iff (.bop true [.cmp .eq (.b1 .len (.loc "sources")) (.c (.int 1)),.cmp .eq (.b2 .sub (.b2 .sub (.loc "sources") (.c (.int 0))) (.c (.int 1))) (.g "E_REST" (.int 2))]) [.for_ (.nm "elem") (.loc "targets") [.ex (.call (.g "seek_elem" (.fn "seek_elem")) [.loc "finder",.tup [.call (.g "spread_of" (.fn "spread_of")) [.loc "tab",.b2 .sub (.b2 .sub (.loc "sources") (.c (.int 0))) (.c (.int 0)),.b2 .sub (.loc "elem") (.c (.int 1))],.g "E_REST" (.int 2)],.loc "elem",.loc "contra"])]] [.iff (.bop true [.cmp .eq (.b1 .len (.loc "targets")) (.c (.int 1)),.cmp .eq (.b2 .sub (.b2 .sub (.loc "targets") (.c (.int 0))) (.c (.int 1))) (.g "E_SPREAD" (.int 3))]) [.ex (.meth (.loc "finder") "walk" [.call (.g "tuple_type" (.fn "tuple_type")) [.loc "tab",.loc "sources",.c (.int 0)],.b2 .sub (.b2 .sub (.loc "targets") (.c (.int 0))) (.c (.int 0)),.loc "contra"])] [.iff (.bop true [.cmp .eq (.b1 .len (.loc "targets")) (.c (.int 1)),.cmp .eq (.b2 .sub (.b2 .sub (.loc "targets") (.c (.int 0))) (.c (.int 1))) (.g "E_REST" (.int 2)),.cmp .gt (.b1 .len (.loc "sources")) (.c (.int 0))]) [.ex (.meth (.loc "finder") "walk" [.call (.g "row_elem" (.fn "row_elem")) [.loc "tab",.tup [.g "Y_TUPLE" (.int 12),.loc "sources",.c (.int 0)]],.b2 .sub (.b2 .sub (.loc "targets") (.c (.int 0))) (.c (.int 0)),.loc "contra"])] []]]]⟩
noncomputable def rH:x6:=⟨["finder","t"],[],[],[
  .asg "row" (.b2 .sub (.attr (.attr (.loc "finder") "tab") "rows") (.loc "t")),
  .iff (.bop true [.cmp .eq (.b2 .sub (.loc "row") (.c (.int 0))) (.g "Y_PARAM" (.int 10)),.cmp .inn (.b2 .sub (.loc "row") (.c (.int 1))) (.attr (.loc "finder") "pids")]) [.ret (.b2 .sub (.loc "row") (.c (.int 1)))] [],
  .ret (.neg (.c (.int 1)))]⟩
noncomputable def dA:x6:=⟨["finder","t"],[],[],[
  .iff (.cmp .nid (.loc "t") (.attr (.loc "finder") "holds")) [.asg "hit" (.c (.bool false)),.for_ (.nm "pid") (.call (.g "free_params" (.fn "free_params")) [.attr (.loc "finder") "tab",.loc "t"]) [.asg "hit" (.bop false [.loc "hit",.cmp .inn (.loc "pid") (.attr (.loc "finder") "pids")])],.asgS (.attr (.loc "finder") "holds") (.loc "t") (.loc "hit")] [],
  .ret (.b2 .subd (.attr (.loc "finder") "holds") (.loc "t"))]⟩
noncomputable def o2:x6:=⟨["finder","source","target","contra"],[],[],[
  .iff (.not (.call (.g "names_infer" (.fn "names_infer")) [.loc "finder",.loc "target"])) [.ret (.c .none)] [],
  .asg "pid" (.call (.g "naked_pid" (.fn "naked_pid")) [.loc "finder",.loc "target"]),
  .iff (.cmp .ge (.loc "pid") (.c (.int 0))) [.ex (.meth (.loc "finder") "add" [.loc "pid",.loc "source",.loc "contra"]),.ret (.c .none)] [],
  .asg "pair" (.tup [.loc "source",.meth (.attr (.loc "finder") "host") "force" [.loc "target"],.loc "contra",.b2 .min (.attr (.loc "finder") "both") (.c (.int 1)),.b2 .min (.attr (.loc "finder") "lower") (.c (.int 1))]),
  .iff (.bop true [.cmp .ne (.b2 .sub (.loc "pair") (.c (.int 1))) (.loc "target"),.cmp .ge (.call (.g "naked_pid" (.fn "naked_pid")) [.loc "finder",.b2 .sub (.loc "pair") (.c (.int 1))]) (.c (.int 0))]) [.bad] [.iff (.cmp .ind (.loc "pair") (.attr (.loc "finder") "seen")) [.augA (.loc "finder") "count" .add (.b2 .subd (.attr (.loc "finder") "seen") (.loc "pair"))] [.iff (.cmp .lt (.attr (.loc "finder") "level") (.g "MOST_SEEK" (.int 24))) [.ex (.call (.g "seek_pair" (.fn "seek_pair")) [.loc "finder",.loc "pair"])] []]]]⟩
noncomputable def rK:x6:=⟨["finder","pair"],[],[],[
  .asgS (.attr (.loc "finder") "seen") (.loc "pair") (.c (.int 0)),
  .asg "before" (.attr (.loc "finder") "count"),
  .augA (.loc "finder") "level" .add (.c (.int 1)),
  .ex (.call (.g "seek_forced" (.fn "seek_forced")) [.loc "finder",.meth (.attr (.loc "finder") "host") "force" [.b2 .sub (.loc "pair") (.c (.int 0))],.b2 .sub (.loc "pair") (.c (.int 1)),.b2 .sub (.loc "pair") (.c (.int 2))]),
  .augA (.loc "finder") "level" .sub (.c (.int 1)),
  .asgS (.attr (.loc "finder") "seen") (.loc "pair") (.ite (.cmp .gt (.attr (.loc "finder") "count") (.loc "before")) (.c (.int 1)) (.c (.int 0)))]⟩
noncomputable def uQ:x6:=⟨["finder","source","target","contra"],[],[],[
  .asg "row" (.b2 .sub (.attr (.attr (.loc "finder") "tab") "rows") (.loc "target")),
  .iff (.cmp .eq (.b2 .sub (.loc "row") (.c (.int 0))) (.g "Y_UNION" (.int 6))) [.bad] [.iff (.cmp .eq (.b2 .sub (.loc "row") (.c (.int 0))) (.g "Y_INTER" (.int 7))) [.bad] [.iff (.cmp .eq (.b2 .sub (.loc "row") (.c (.int 0))) (.g "Y_COND" (.int 16))) [.bad,.ex (.call (.g "seek" (.fn "seek")) [.loc "finder",.loc "source",.b2 .sub (.loc "row") (.c (.int 4)),.loc "contra"])] [.iff (.cmp .eq (.call (.g "kind_of" (.fn "kind_of")) [.attr (.loc "finder") "tab",.loc "source"]) (.g "Y_UNION" (.int 6))) [.for_ (.nm "part") (.call (.g "parts_of" (.fn "parts_of")) [.attr (.loc "finder") "tab",.loc "source"]) [.ex (.call (.g "seek_one" (.fn "seek_one")) [.loc "finder",.loc "part",.loc "target",.loc "row",.loc "contra"])]] [.ex (.call (.g "seek_one" (.fn "seek_one")) [.loc "finder",.loc "source",.loc "target",.loc "row",.loc "contra"])]]]]]⟩
noncomputable def rY:x6:=⟨["tab","t"],[],[],[
  .asg "row" (.b2 .sub (.attr (.loc "tab") "rows") (.loc "t")),
  .ret (.ite (.cmp .eq (.b2 .sub (.loc "row") (.c (.int 0))) (.g "Y_INTER" (.int 7))) (.b2 .sub (.loc "row") (.c (.int 1))) (.tup [.loc "t"]))]⟩
noncomputable def vU:x6:=⟨["tab","t"],[],[],[
  .for_ (.nm "part") (.call (.g "meet_parts_of" (.fn "meet_parts_of")) [.loc "tab",.loc "t"]) [.iff (.cmp .inn (.b2 .sub (.b2 .sub (.attr (.loc "tab") "rows") (.loc "part")) (.c (.int 0))) (.tup [.g "Y_ARRAY" (.int 11),.g "Y_TUPLE" (.int 12)])) [.ret (.loc "part")] []],
  .ret (.loc "t")]⟩
noncomputable def uF:x6:=⟨["finder","source","row","contra"],[],[],[
  .asg "other" (.b2 .sub (.attr (.attr (.loc "finder") "tab") "rows") (.loc "source")),
  .iff (.bop false [.cmp .ne (.b2 .sub (.loc "other") (.c (.int 0))) (.g "Y_TUPLE" (.int 12)),.not (.call (.g "lengths_apart" (.fn "lengths_apart")) [.b2 .sub (.loc "other") (.c (.int 1)),.b2 .sub (.loc "row") (.c (.int 1))])]) [.ex (.call (.g "seek_tuple" (.fn "seek_tuple")) [.loc "finder",.loc "source",.b2 .sub (.loc "row") (.c (.int 1)),.loc "contra"])] []]⟩
noncomputable def kE:x6:=⟨["finder","source","target","row","contra"],[],[],[
  .iff (.cmp .eq (.b2 .sub (.loc "row") (.c (.int 0))) (.g "Y_ARRAY" (.int 11))) [.ex (.call (.g "seek_array" (.fn "seek_array")) [.loc "finder",.call (.g "kindfind_list_of" (.fn "kindfind_list_of")) [.attr (.loc "finder") "tab",.loc "source"],.loc "row",.loc "contra"])] [.iff (.cmp .eq (.b2 .sub (.loc "row") (.c (.int 0))) (.g "Y_TUPLE" (.int 12))) [.ex (.call (.g "seek_list" (.fn "seek_list")) [.loc "finder",.call (.g "kindfind_list_of" (.fn "kindfind_list_of")) [.attr (.loc "finder") "tab",.loc "source"],.loc "row",.loc "contra"])] [.bad]]]⟩
noncomputable def pW:x6:=⟨["tab","part","others"],[],[],[
  .iff (.cmp .inn (.loc "part") (.loc "others")) [.ret (.c (.bool true))] [],
  .asg "row" (.b2 .sub (.attr (.loc "tab") "rows") (.loc "part")),
  .ret (.bop true [.cmp .inn (.b2 .sub (.loc "row") (.c (.int 0))) (.tup [.g "Y_STR" (.int 3),.g "Y_NUM" (.int 4),.g "Y_ENUM" (.int 5)]),.cmp .inn (.call (.g "whole_of_row" (.fn "whole_of_row")) [.loc "row"]) (.loc "others")])]⟩
noncomputable def ZO:x6:=⟨["tab","part","others"],[],[],[
  .asg "row" (.b2 .sub (.attr (.loc "tab") "rows") (.loc "part")),
  .iff (.cmp .ne (.b2 .sub (.loc "row") (.c (.int 0))) (.g "Y_REF" (.int 9))) [.ret (.lst [])] [],
  .bad]⟩
noncomputable def d8:x6:=⟨["finder","sources","targets","contra"],[],[],[
  .asg "left" (.newo []),
  .asg "closed" (.lst []),
  .for_ (.nm "part") (.loc "sources") [.asg "kin" (.call (.g "same_decl" (.fn "same_decl")) [.attr (.loc "finder") "tab",.loc "part",.loc "targets"]),.for_ (.nm "other") (.loc "kin") [.bad,.bad],.iff (.cmp .eq (.b1 .len (.loc "kin")) (.c (.int 0))) [.ex (.m1 .append (.loc "left") (.loc "part"))] []],
  .frz "left",
  .ret (.tup [.loc "left",.comp (.loc "part") (.nm "part") (.loc "targets") [.cmp .nin (.loc "part") (.loc "closed")]])]⟩
noncomputable def pY:x6:=⟨["finder","source","targets","contra"],[],[],[
  .asg "held" (.call (.g "parts_of" (.fn "parts_of")) [.attr (.loc "finder") "tab",.loc "source"]),
  .augA (.loc "finder") "lower" .add (.c (.int 1)),
  .for_ (.nm "target") (.loc "targets") [.iff (.bop true [.cmp .nin (.loc "target") (.loc "held"),.cmp .lt (.call (.g "naked_pid" (.fn "naked_pid")) [.loc "finder",.loc "target"]) (.c (.int 0))]) [.ex (.call (.g "seek" (.fn "seek")) [.loc "finder",.loc "source",.loc "target",.loc "contra"])] []],
  .augA (.loc "finder") "lower" .sub (.c (.int 1))]⟩
noncomputable def jU:x6:=⟨["finder","source","targets","contra"],[],[],[
  .asg "tab" (.attr (.loc "finder") "tab"),
  .asg "left" (.comp (.loc "part") (.nm "part") (.call (.g "parts_of" (.fn "parts_of")) [.loc "tab",.loc "source"]) [.not (.call (.g "is_matched" (.fn "is_matched")) [.loc "tab",.loc "part",.loc "targets"])]),
  .asgT ["left","targets"] (.call (.g "close_pairs" (.fn "close_pairs")) [.loc "finder",.loc "left",.loc "targets",.loc "contra"]),
  .iff (.bop true [.cmp .eq (.b1 .len (.loc "left")) (.c (.int 0)),.cmp .ne (.loc "source") (.g "NEVER" (.int 2))]) [.ex (.call (.g "seek_lower" (.fn "seek_lower")) [.loc "finder",.loc "source",.loc "targets",.loc "contra"])] [],
  .asg "naked" (.comp (.loc "part") (.nm "part") (.loc "targets") [.cmp .ge (.call (.g "naked_pid" (.fn "naked_pid")) [.loc "finder",.loc "part"]) (.c (.int 0))]),
  .asg "unmatched" (.newo []),
  .for_ (.nm "part") (.loc "left") [.asg "before" (.attr (.loc "finder") "count"),.for_ (.nm "target") (.loc "targets") [.iff (.cmp .lt (.call (.g "naked_pid" (.fn "naked_pid")) [.loc "finder",.loc "target"]) (.c (.int 0))) [.ex (.call (.g "seek" (.fn "seek")) [.loc "finder",.loc "part",.loc "target",.loc "contra"])] []],.iff (.cmp .eq (.attr (.loc "finder") "count") (.loc "before")) [.ex (.m1 .append (.loc "unmatched") (.loc "part"))] []],
  .frz "unmatched",
  .iff (.bop true [.cmp .eq (.b1 .len (.loc "naked")) (.c (.int 1)),.cmp .gt (.b1 .len (.loc "unmatched")) (.c (.int 0))]) [.ex (.call (.g "seek" (.fn "seek")) [.loc "finder",.call (.g "union" (.fn "union")) [.loc "tab",.loc "unmatched"],.b2 .sub (.loc "naked") (.c (.int 0)),.loc "contra"])] [.ex (.call (.g "seek_naked" (.fn "seek_naked")) [.loc "finder",.loc "source",.loc "left",.loc "naked",.loc "contra"])]]⟩
noncomputable def tR:x6:=⟨["finder","source","left","naked","contra"],[],[],[
  .asg "rest" (.ite (.cmp .eq (.b1 .len (.loc "left")) (.c (.int 0))) (.loc "source") (.call (.g "union" (.fn "union")) [.attr (.loc "finder") "tab",.loc "left"])),
  .for_ (.nm "target") (.loc "naked") [.ex (.meth (.loc "finder") "add_low" [.call (.g "naked_pid" (.fn "naked_pid")) [.loc "finder",.loc "target"],.loc "rest",.loc "contra"])]]⟩
noncomputable def gK:x6:=⟨["finder","source","target","contra"],[],[],[
  .iff (.call (.g "names_infer" (.fn "names_infer")) [.loc "finder",.loc "target"]) [.asg "source" (.meth (.attr (.loc "finder") "host") "force" [.loc "source"]),.asg "targets" (.bin .addT (.b1 .tuple (.call (.g "parts_of" (.fn "parts_of")) [.attr (.loc "finder") "tab",.loc "target"])) (.tup [.g "UNDEF" (.int 4)])),.ex (.call (.g "seek_union" (.fn "seek_union")) [.loc "finder",.loc "source",.loc "targets",.loc "contra"])] []]⟩
noncomputable def pU:x6:=⟨["finder","source","target"],[],[],[
  .ex (.call (.g "seek" (.fn "seek")) [.loc "finder",.loc "source",.loc "target",.c (.int 0)]),
  .for_ (.nm "pid") (.attr (.loc "finder") "pids") [.iff (.bop true [.cmp .nid (.loc "pid") (.attr (.loc "finder") "found"),.cmp .ind (.loc "pid") (.attr (.loc "finder") "low")]) [.asgS (.attr (.loc "finder") "found") (.loc "pid") (.b2 .subd (.attr (.loc "finder") "low") (.loc "pid"))] []]]⟩
noncomputable def W8:x6:=⟨[],[],[],[
  .ret (.lst [.tup [.c (.int 0)],.tup [.c (.int 0),.c (.int 3)],.tup [.c (.int 3),.c (.int 0)],.tup [.c (.int 0),.c (.int 3),.c (.int 0)],.tup [.c (.int 0),.c (.int 0)],.tup [.c (.int 3)],.tup [.c (.int 0),.c (.int 1)],.tup [.c (.int 0),.c (.int 2)],.tup [.c (.int 1),.c (.int 3)],.tup [.c (.int 2),.c (.int 0)],.tup [.c (.int 0),.c (.int 0),.c (.int 3)],.tup [.c (.int 3),.c (.int 0),.c (.int 0)],.tup [.c (.int 2)],.tup []])]⟩
noncomputable def ZM:x6:=⟨[],[],[],[
  .ret (.lst [.tup [.c (.int 0),.c (.int 0)],.tup [.c (.int 0),.c (.int 0),.c (.int 0)],.tup [.c (.int 0)],.tup [.c (.int 0),.c (.int 2)],.tup [.c (.int 2),.c (.int 0)],.tup [.c (.int 0),.c (.int 2),.c (.int 0)],.tup [.c (.int 0),.c (.int 1)],.tup [.c (.int 1),.c (.int 2)],.tup [.c (.int 0),.c (.int 0),.c (.int 2)],.tup [.c (.int 2),.c (.int 0),.c (.int 0)],.tup [.c (.int 2)],.tup []])]⟩
noncomputable def dW:x6:=⟨["part"],[],[],[
  .iff (.cmp .eqs (.b2 .sub (.loc "part") (.c (.int 0))) (.c (.str [117]))) [.ret (.b2 .sub (.loc "part") (.c (.int 1)))] [],
  .iff (.cmp .eqs (.b2 .sub (.loc "part") (.c (.int 0))) (.c (.str [97]))) [.ret (.bin .addS (.bin .addS (.bin .addS (.bin .addS (.c (.str [65])) (.b1 .str (.b2 .sub (.loc "part") (.c (.int 1))))) (.c (.str [40]))) (.call (.g "_law_text" (.fn "_law_text")) [.b2 .sub (.loc "part") (.c (.int 2))])) (.c (.str [41])))] [],
  .ret (.bin .addS (.bin .addS (.bin .addS (.bin .addS (.c (.str [84])) (.b1 .str (.b2 .sub (.loc "part") (.c (.int 1))))) (.c (.str [40]))) (.m1 .join (.c (.str [44])) (.comp (.bin .addS (.b1 .str (.loc "tag")) (.call (.g "_law_text" (.fn "_law_text")) [.loc "kind"])) (.tp ["kind","tag"]) (.b2 .sub (.loc "part") (.c (.int 2))) []))) (.c (.str [41])))]⟩
noncomputable def l4:x6:=⟨["kind"],[],[],[
  .ret (.m1 .join (.c (.str [124])) (.b1 .sortS (.comp (.call (.g "_law_word" (.fn "_law_word")) [.loc "part"]) (.nm "part") (.loc "kind") [])))]⟩
noncomputable def kD:x6:=⟨["kinds"],[],[],[
  .asg "held" (.dicto .S),
  .for_ (.nm "kind") (.loc "kinds") [.for_ (.nm "part") (.loc "kind") [.asgS (.loc "held") (.call (.g "_law_word" (.fn "_law_word")) [.loc "part"]) (.loc "part")]],
  .asg "out" (.newo []),
  .for_ (.nm "word") (.b1 .sortS (.loc "held")) [.asg "twin" (.bop true [.cmp .eqs (.b2 .subs (.loc "word") (.neg (.c (.int 1)))) (.c (.str [33])),.cmp .ind (.slice (.loc "word") (.c .none) (.neg (.c (.int 1)))) (.loc "held")]),.iff (.bop true [.not (.loc "twin"),.not (.bop true [.cmp .ins (.b2 .subs (.loc "word") (.c (.int 0))) (.c (.str [48,49])),.cmp .ind (.c (.str [110,117,109,98,101,114])) (.loc "held")])]) [.ex (.m1 .append (.loc "out") (.b2 .subd (.loc "held") (.loc "word")))] []],
  .frz "out",
  .ret (.loc "out")]⟩
noncomputable def l5:x6:=⟨["tab","roll"],[],[],[
  .asg "n" (.call (.loc "roll") [.c (.int 7)]),
  .asg "fresh" (.call (.loc "roll") [.c (.int 2)]),
  .iff (.cmp .eq (.loc "n") (.c (.int 6))) [.ret (.tup [.g "NEVER" (.int 2),.lst []])] [],
  .iff (.cmp .lt (.loc "n") (.c (.int 2))) [.ret (.tup [.call (.g "num_type" (.fn "num_type")) [.loc "tab",.loc "n",.loc "fresh"],.lst [.tup [.c (.str [117]),.bin .addS (.b1 .str (.loc "n")) (.bin .mulS (.c (.str [33])) (.loc "fresh"))]]])] [],
  .iff (.cmp .eq (.loc "n") (.c (.int 2))) [.ret (.tup [.call (.g "str_type" (.fn "str_type")) [.loc "tab",.c (.str [97]),.loc "fresh"],.lst [.tup [.c (.str [117]),.bin .addS (.c (.str [39,97,39])) (.bin .mulS (.c (.str [33])) (.loc "fresh"))]]])] [],
  .ret (.tup [.b2 .sub (.lst [.g "UNDEF" (.int 4),.g "NULLT" (.int 5),.g "NUMBER" (.int 7)]) (.bin .sub (.loc "n") (.c (.int 3))),.lst [.tup [.c (.str [117]),.b2 .sub (.lst [.c (.str [117,110,100,101,102,105,110,101,100]),.c (.str [110,117,108,108]),.c (.str [110,117,109,98,101,114])]) (.bin .sub (.loc "n") (.c (.int 3)))]]])]⟩
noncomputable def dQ:x6:=⟨["tab","roll","floor"],[],[],[
  .asg "ro" (.call (.loc "roll") [.c (.int 2)]),
  .asg "form" (.b2 .sub (.call (.g "_law_forms" (.fn "_law_forms")) []) (.call (.loc "roll") [.c (.int 12)])),
  .asg "rows" (.newo []),
  .asg "held" (.newo []),
  .for_ (.nm "tag") (.loc "form") [.asgT ["t","kind"] (.call (.g "_law_kind" (.fn "_law_kind")) [.loc "tab",.loc "roll",.bin .sub (.loc "floor") (.c (.int 1))]),.ex (.m1 .append (.loc "rows") (.tup [.loc "t",.loc "tag"])),.ex (.m1 .append (.loc "held") (.tup [.loc "kind",.loc "tag"]))],
  .frz "rows",
  .frz "held",
  .iff (.cmp .eqd (.loc "form") (.tup [.c (.int 2)])) [.ret (.tup [.call (.g "array_type" (.fn "array_type")) [.loc "tab",.b2 .sub (.b2 .sub (.loc "rows") (.c (.int 0))) (.c (.int 0)),.loc "ro"],.lst [.tup [.c (.str [97]),.loc "ro",.b2 .sub (.b2 .sub (.loc "held") (.c (.int 0))) (.c (.int 0))]]])] [],
  .ret (.tup [.call (.g "tuple_type" (.fn "tuple_type")) [.loc "tab",.loc "rows",.loc "ro"],.lst [.tup [.c (.str [116]),.loc "ro",.loc "held"]]])]⟩
noncomputable def dP:x6:=⟨["tab","roll","floor"],[],[],[
  .asg "way" (.ite (.cmp .gt (.loc "floor") (.c (.int 0))) (.call (.loc "roll") [.c (.int 8)]) (.c (.int 0))),
  .iff (.cmp .lt (.loc "way") (.c (.int 4))) [.ret (.call (.g "_law_unit" (.fn "_law_unit")) [.loc "tab",.loc "roll"])] [],
  .iff (.cmp .eq (.loc "way") (.c (.int 4))) [.asg "two" (.comp (.call (.g "_law_kind" (.fn "_law_kind")) [.loc "tab",.loc "roll",.bin .sub (.loc "floor") (.c (.int 1))]) (.nm "k") (.b1 .range (.c (.int 2))) []),.ret (.tup [.call (.g "union" (.fn "union")) [.loc "tab",.comp (.b2 .sub (.loc "one") (.c (.int 0))) (.nm "one") (.loc "two") []],.call (.g "_law_join" (.fn "_law_join")) [.comp (.b2 .sub (.loc "one") (.c (.int 1))) (.nm "one") (.loc "two") []]])] [],
  .ret (.call (.g "_law_list" (.fn "_law_list")) [.loc "tab",.loc "roll",.loc "floor"])]⟩
noncomputable def bI:x6:=⟨["tab","roll","floor","own"],[],[],[
  .asg "way" (.ite (.cmp .gt (.loc "floor") (.c (.int 0))) (.call (.loc "roll") [.c (.int 6)]) (.c (.int 0))),
  .iff (.cmp .ge (.loc "way") (.c (.int 3))) [.ret (.call (.g "_law_target" (.fn "_law_target")) [.loc "tab",.loc "roll",.loc "floor",.loc "own"])] [],
  .asg "k" (.call (.loc "roll") [.c (.int 4)]),
  .iff (.cmp .eq (.loc "k") (.c (.int 3))) [.ret (.tup [.call (.g "num_type" (.fn "num_type")) [.loc "tab",.c (.int 0)],.tup [.c (.str [110])]])] [],
  .ret (.tup [.b2 .sub (.loc "own") (.loc "k"),.tup [.c (.str [105]),.loc "k"]])]⟩
noncomputable def tQ:x6:=⟨["tab","roll","floor","own"],[],[],[
  .asg "form" (.b2 .sub (.call (.g "_law_aims" (.fn "_law_aims")) []) (.call (.loc "roll") [.c (.int 14)])),
  .asg "rows" (.newo []),
  .asg "held" (.newo []),
  .for_ (.nm "tag") (.loc "form") [.asgT ["t","aim"] (.call (.g "_law_aim" (.fn "_law_aim")) [.loc "tab",.loc "roll",.bin .sub (.loc "floor") (.c (.int 1)),.loc "own"]),.ex (.m1 .append (.loc "rows") (.tup [.loc "t",.loc "tag"])),.ex (.m1 .append (.loc "held") (.tup [.loc "aim",.loc "tag"]))],
  .asg "ro" (.call (.loc "roll") [.c (.int 2)]),
  .frz "rows",
  .frz "held",
  .iff (.cmp .eqd (.loc "form") (.tup [.c (.int 2)])) [.ret (.tup [.call (.g "array_type" (.fn "array_type")) [.loc "tab",.b2 .sub (.b2 .sub (.loc "rows") (.c (.int 0))) (.c (.int 0)),.loc "ro"],.tup [.c (.str [97]),.b2 .sub (.b2 .sub (.loc "held") (.c (.int 0))) (.c (.int 0))]])] [],
  .ret (.tup [.call (.g "tuple_type" (.fn "tuple_type")) [.loc "tab",.loc "rows",.loc "ro"],.tup [.c (.str [116]),.loc "held"]])]⟩
noncomputable def sN:x6:=⟨["place"],[],[],[
  .ret (.ite (.cmp .eq (.b2 .sub (.loc "place") (.c (.int 1))) (.c (.int 1))) (.call (.g "_law_join" (.fn "_law_join")) [.lst [.b2 .sub (.loc "place") (.c (.int 0)),.lst [.tup [.c (.str [117]),.c (.str [117,110,100,101,102,105,110,101,100])]]]]) (.b2 .sub (.loc "place") (.c (.int 0))))]⟩
noncomputable def rF:x6:=⟨["places"],[],[],[
  .asg "count" (.c (.int 0)),
  .for_ (.nm "one") (.loc "places") [.iff (.cmp .gt (.b2 .sub (.loc "one") (.c (.int 1))) (.c (.int 1))) [.ret (.loc "count")] [],.augN "count" .add (.c (.int 1))],
  .ret (.loc "count")]⟩
noncomputable def jK:x6:=⟨["places","aims","at"],[],[],[
  .asg "n" (.b1 .len (.loc "places")),
  .asg "m" (.b1 .len (.loc "aims")),
  .asg "front" (.b2 .min (.call (.g "_law_fixed" (.fn "_law_fixed")) [.loc "places"]) (.call (.g "_law_fixed" (.fn "_law_fixed")) [.loc "aims"])),
  .asg "back" (.ite (.cmp .lt (.call (.g "_law_fixed" (.fn "_law_fixed")) [.loc "aims"]) (.loc "m")) (.b2 .min (.call (.g "_law_fixed" (.fn "_law_fixed")) [.b1 .rev (.loc "places")]) (.call (.g "_law_fixed" (.fn "_law_fixed")) [.b1 .rev (.loc "aims")])) (.c (.int 0))),
  .asg "left" (.slice (.loc "places") (.loc "front") (.bin .sub (.loc "n") (.loc "back"))),
  .asg "tag" (.b2 .sub (.b2 .sub (.loc "aims") (.loc "at")) (.c (.int 1))),
  .iff (.cmp .lt (.loc "at") (.loc "front")) [.ret (.call (.g "_law_get" (.fn "_law_get")) [.b2 .sub (.loc "places") (.loc "at")])] [],
  .iff (.cmp .le (.bin .sub (.loc "m") (.loc "at")) (.loc "back")) [.ret (.call (.g "_law_get" (.fn "_law_get")) [.b2 .sub (.loc "places") (.bin .add (.bin .sub (.loc "n") (.loc "m")) (.loc "at"))])] [],
  .iff (.bop true [.cmp .eq (.b1 .len (.loc "left")) (.c (.int 1)),.cmp .eq (.b2 .sub (.b2 .sub (.loc "left") (.c (.int 0))) (.c (.int 1))) (.c (.int 2))]) [.ret (.ite (.cmp .eq (.loc "tag") (.c (.int 3))) (.lst [.tup [.c (.str [97]),.c (.int 0),.b2 .sub (.b2 .sub (.loc "left") (.c (.int 0))) (.c (.int 0))]]) (.b2 .sub (.b2 .sub (.loc "left") (.c (.int 0))) (.c (.int 0))))] [],
  .iff (.bop true [.cmp .eq (.bin .sub (.bin .sub (.loc "m") (.loc "back")) (.loc "front")) (.c (.int 1)),.cmp .eq (.loc "tag") (.c (.int 3))]) [.ret (.lst [.tup [.c (.str [116]),.c (.int 0),.loc "left"]])] [],
  .iff (.bop true [.cmp .eq (.bin .sub (.bin .sub (.loc "m") (.loc "back")) (.loc "front")) (.c (.int 1)),.cmp .eq (.loc "tag") (.c (.int 2)),.cmp .nen (.loc "left") (.lst [])]) [.ret (.call (.g "_law_join" (.fn "_law_join")) [.comp (.call (.g "_law_get" (.fn "_law_get")) [.loc "one"]) (.nm "one") (.loc "left") []])] [],
  .ret (.c .none)]⟩
noncomputable def rE:x6:=⟨["places","aims"],[],[],[
  .asg "least" (.comp (.b1 .len (.comp (.loc "one") (.nm "one") (.loc "some") [.cmp .eq (.b2 .sub (.loc "one") (.c (.int 1))) (.c (.int 0))])) (.nm "some") (.tup [.loc "places",.loc "aims"]) []),
  .asg "tags" (.comp (.b2 .sub (.loc "one") (.c (.int 1))) (.nm "one") (.loc "aims") []),
  .iff (.cmp .inn (.c (.int 3)) (.loc "tags")) [.ret (.c (.bool false))] [],
  .iff (.cmp .gt (.b2 .sub (.loc "least") (.c (.int 1))) (.b2 .sub (.loc "least") (.c (.int 0)))) [.ret (.c (.bool true))] [],
  .ret (.bop true [.cmp .nin (.c (.int 2)) (.loc "tags"),.bop false [.cmp .inn (.c (.int 2)) (.comp (.b2 .sub (.loc "one") (.c (.int 1))) (.nm "one") (.loc "places") []),.cmp .lt (.b1 .len (.loc "aims")) (.b1 .len (.loc "places"))]])]⟩
noncomputable def dO:x6:=⟨["kind","aim","bag"],[],[],[
  .iff (.bop true [.cmp .eqs (.b2 .sub (.loc "aim") (.c (.int 0))) (.c (.str [105])),.cmp .ind (.b2 .sub (.loc "aim") (.c (.int 1))) (.loc "bag")]) [.asg "flat" (.comp (.ite (.cmp .eqs (.b2 .sub (.loc "part") (.c (.int 0))) (.c (.str [117]))) (.tup [.c (.str [117]),.b1 .strip (.loc "part")]) (.loc "part")) (.nm "part") (.loc "kind") []),.ex (.m1 .append (.b2 .subd (.loc "bag") (.b2 .sub (.loc "aim") (.c (.int 1)))) (.call (.g "_law_join" (.fn "_law_join")) [.lst [.loc "flat"]]))] []]⟩
noncomputable def dU:x6:=⟨["kind","aim","found","low"],[],[],[
  .ex (.call (.g "_law_keep" (.fn "_law_keep")) [.loc "kind",.loc "aim",.loc "found"]),
  .for_ (.nm "part") (.loc "kind") [.iff (.cmp .eqs (.b2 .sub (.loc "part") (.c (.int 0))) (.c (.str [117]))) [.cont] [],.asg "places" (.ite (.cmp .eqs (.b2 .sub (.loc "part") (.c (.int 0))) (.c (.str [97]))) (.lst [.tup [.b2 .sub (.loc "part") (.c (.int 2)),.c (.int 2)]]) (.b2 .sub (.loc "part") (.c (.int 2)))),.iff (.cmp .eqs (.b2 .sub (.loc "aim") (.c (.int 0))) (.c (.str [97]))) [.ex (.call (.g "_law_walk" (.fn "_law_walk")) [.call (.g "_law_join" (.fn "_law_join")) [.comp (.call (.g "_law_get" (.fn "_law_get")) [.loc "one"]) (.nm "one") (.loc "places") []],.b2 .sub (.loc "aim") (.c (.int 1)),.loc "found",.loc "low"])] [],.iff (.bop true [.cmp .eqs (.b2 .sub (.loc "aim") (.c (.int 0))) (.c (.str [116])),.bop false [.cmp .eqs (.b2 .sub (.loc "part") (.c (.int 0))) (.c (.str [97])),.not (.call (.g "_law_apart" (.fn "_law_apart")) [.loc "places",.b2 .sub (.loc "aim") (.c (.int 1))])]]) [.for_ (.nm "at") (.b1 .range (.b1 .len (.b2 .sub (.loc "aim") (.c (.int 1))))) [.asg "gift" (.call (.g "_law_gift" (.fn "_law_gift")) [.loc "places",.b2 .sub (.loc "aim") (.c (.int 1)),.loc "at"]),.iff (.cmp .is_ (.loc "gift") (.c .none)) [.cont] [],.asgT ["goal","tag"] (.b2 .sub (.b2 .sub (.loc "aim") (.c (.int 1))) (.loc "at")),.asg "rest" (.comp (.loc "one") (.nm "one") (.loc "gift") [.cmp .ned (.loc "one") (.tup [.c (.str [117]),.c (.str [117,110,100,101,102,105,110,101,100])])]),.iff (.cmp .ne (.loc "tag") (.c (.int 1))) [.ex (.call (.g "_law_walk" (.fn "_law_walk")) [.loc "gift",.loc "goal",.loc "found",.loc "low"])] [.iff (.cmp .eqn (.loc "rest") (.lst [])) [.ex (.call (.g "_law_keep" (.fn "_law_keep")) [.loc "gift",.loc "goal",.loc "low"])] [.ex (.call (.g "_law_walk" (.fn "_law_walk")) [.loc "rest",.loc "goal",.loc "found",.loc "low"])]]]] []]]⟩
noncomputable def dR:x6:=⟨["tab","t"],[],[],[
  .asg "out" (.newo []),
  .for_ (.nm "part") (.call (.g "parts_of" (.fn "parts_of")) [.loc "tab",.loc "t"]) [.asg "row" (.meth (.loc "tab") "row" [.loc "part"]),.iff (.cmp .eq (.b2 .sub (.loc "row") (.c (.int 0))) (.g "Y_KEY" (.int 1))) [.ex (.m1 .append (.loc "out") (.b2 .sub (.loc "row") (.c (.int 1))))] [.iff (.cmp .eq (.b2 .sub (.loc "row") (.c (.int 0))) (.g "Y_NUM" (.int 4))) [.ex (.m1 .append (.loc "out") (.bin .addS (.b1 .str (.b2 .sub (.loc "row") (.c (.int 1)))) (.bin .mulS (.c (.str [33])) (.b2 .sub (.loc "row") (.c (.int 2))))))] [.iff (.cmp .eq (.b2 .sub (.loc "row") (.c (.int 0))) (.g "Y_STR" (.int 3))) [.ex (.m1 .append (.loc "out") (.bin .addS (.bin .addS (.bin .addS (.c (.str [39])) (.b2 .sub (.loc "row") (.c (.int 1)))) (.c (.str [39]))) (.bin .mulS (.c (.str [33])) (.b2 .sub (.loc "row") (.c (.int 2))))))] [.iff (.cmp .eq (.b2 .sub (.loc "row") (.c (.int 0))) (.g "Y_ARRAY" (.int 11))) [.ex (.m1 .append (.loc "out") (.bin .addS (.bin .addS (.bin .addS (.bin .addS (.c (.str [65])) (.b1 .str (.b2 .sub (.loc "row") (.c (.int 2))))) (.c (.str [40]))) (.call (.g "_law_read" (.fn "_law_read")) [.loc "tab",.b2 .sub (.loc "row") (.c (.int 1))])) (.c (.str [41]))))] [.iff (.cmp .eq (.b2 .sub (.loc "row") (.c (.int 0))) (.g "Y_TUPLE" (.int 12))) [.asg "words" (.comp (.bin .addS (.b1 .str (.b2 .sub (.loc "one") (.c (.int 1)))) (.call (.g "_law_read" (.fn "_law_read")) [.loc "tab",.b2 .sub (.loc "one") (.c (.int 0))])) (.nm "one") (.b2 .sub (.loc "row") (.c (.int 1))) []),.ex (.m1 .append (.loc "out") (.bin .addS (.bin .addS (.bin .addS (.bin .addS (.c (.str [84])) (.b1 .str (.b2 .sub (.loc "row") (.c (.int 2))))) (.c (.str [40]))) (.m1 .join (.c (.str [44])) (.loc "words"))) (.c (.str [41]))))] [.ex (.m1 .append (.loc "out") (.c (.str [63])))]]]]]],
  .ret (.m1 .join (.c (.str [124])) (.b1 .sortS (.loc "out")))]⟩
noncomputable def x4:x6:=⟨["script"],[],[],[
  .asg "nums" (.comp (.bin .mod (.loc "x") (.c (.int 999983))) (.nm "x") (.slice (.loc "script") (.c .none) (.c (.int 40))) []),
  .iff (.cmp .eq (.b1 .len (.loc "nums")) (.c (.int 0))) [.asg "nums" (.lst [.c (.int 0),.c (.int 3),.c (.int 0),.c (.int 0),.c (.int 1),.c (.int 1),.c (.int 2),.c (.int 2),.c (.int 0),.c (.int 1),.c (.int 0),.c (.int 8)])] [],
  .asg "at" (.newg [.c (.int 0)]),
  .defn "roll" "roll" ["nums","at"],
  .asg "tab" (.new "TypeTable" []),
  .asg "own" (.lst [.call (.g "new_param" (.fn "new_param")) [.loc "tab",.c (.str [65])],.call (.g "new_param" (.fn "new_param")) [.loc "tab",.c (.str [66])],.call (.g "new_param" (.fn "new_param")) [.loc "tab",.c (.str [67])]]),
  .asg "pids" (.ite (.cmp .eq (.call (.loc "roll") [.c (.int 3)]) (.c (.int 2))) (.tup [.c (.int 0),.c (.int 2)]) (.tup [.c (.int 0),.c (.int 1),.c (.int 2)])),
  .asgT ["target","aim"] (.call (.g "_law_target" (.fn "_law_target")) [.loc "tab",.loc "roll",.ite (.cmp .gt (.b1 .len (.loc "nums")) (.c (.int 19))) (.c (.int 3)) (.c (.int 2)),.loc "own"]),
  .asgT ["source","kind"] (.ite (.cmp .eq (.call (.loc "roll") [.c (.int 4)]) (.c (.int 0))) (.call (.g "_law_kind" (.fn "_law_kind")) [.loc "tab",.loc "roll",.c (.int 3)]) (.call (.g "_law_list" (.fn "_law_list")) [.loc "tab",.loc "roll",.c (.int 3)])),
  .iff (.cmp .nes (.call (.g "_law_read" (.fn "_law_read")) [.loc "tab",.loc "source"]) (.call (.g "_law_text" (.fn "_law_text")) [.loc "kind"])) [.ret (.c (.bool false))] [],
  .asg "found" (.dcomp "k" (.loc "pids")),
  .asg "low" (.dcomp "k" (.loc "pids")),
  .ex (.call (.g "_law_walk" (.fn "_law_walk")) [.loc "kind",.loc "aim",.loc "found",.loc "low"]),
  .asg "due" (.dicto .I),
  .for_ (.nm "k") (.loc "pids") [.iff (.bop false [.cmp .nen (.b2 .subd (.loc "found") (.loc "k")) (.lst []),.cmp .nen (.b2 .subd (.loc "low") (.loc "k")) (.lst [])]) [.asgS (.loc "due") (.loc "k") (.call (.g "_law_text" (.fn "_law_text")) [.call (.g "_law_join" (.fn "_law_join")) [.ite (.cmp .nen (.b2 .subd (.loc "found") (.loc "k")) (.lst [])) (.subf (.loc "found") (.loc "k")) (.subf (.loc "low") (.loc "k"))]])] []],
  .asg "finder" (.new "Finder" [.new "Thin" [.loc "tab"],.loc "pids",.dictg .I]),
  .ex (.call (.g "infer_with" (.fn "infer_with")) [.loc "finder",.loc "source",.loc "target"]),
  .asg "told" (.dicto .I),
  .for_ (.nm "pid") (.b1 .sortI (.attr (.loc "finder") "found")) [.asg "rows" (.b2 .subd (.attr (.loc "finder") "found") (.loc "pid")),.iff (.cmp .ned (.comp (.b2 .sub (.loc "row") (.c (.int 1))) (.nm "row") (.loc "rows") []) (.bin .mulL (.lst [.c (.int 0)]) (.b1 .len (.loc "rows")))) [.ret (.c (.bool false))] [],.asgS (.loc "told") (.loc "pid") (.call (.g "_law_read" (.fn "_law_read")) [.loc "tab",.call (.g "union" (.fn "union")) [.loc "tab",.comp (.b2 .sub (.loc "row") (.c (.int 0))) (.nm "row") (.loc "rows") []]])],
  .ret (.cmp .eqm (.loc "told") (.loc "due"))]⟩
noncomputable def uW:x6:=⟨["self"],[],[],[
  .asgA (.loc "self") "rows" (.newg []),
  .asgA (.loc "self") "index" (.dictg .T),
  .asgA (.loc "self") "decls" (.newg [.c .none]),
  .asgA (.loc "self") "bounds" (.newg []),
  .asgA (.loc "self") "defaults" (.newg []),
  .asgA (.loc "self") "names" (.newg []),
  .asgA (.loc "self") "origins" (.dictg .I),
  .asgA (.loc "self") "renamed" (.dictg .I),
  .asgA (.loc "self") "shaping" (.c (.int 0)),
  .asgA (.loc "self") "putting" (.c (.int 0)),
  .for_ (.nm "row") (.g "FIRST_ROWS" (.tup [(.tup [(.int 1),(.str [97,110,121])]),(.tup [(.int 1),(.str [117,110,107,110,111,119,110])]),(.tup [(.int 1),(.str [110,101,118,101,114])]),(.tup [(.int 1),(.str [118,111,105,100])]),(.tup [(.int 1),(.str [117,110,100,101,102,105,110,101,100])]),(.tup [(.int 1),(.str [110,117,108,108])]),(.tup [(.int 1),(.str [115,116,114,105,110,103])]),(.tup [(.int 1),(.str [110,117,109,98,101,114])]),(.tup [(.int 2),(.int 0),(.int 0)]),(.tup [(.int 2),(.int 1),(.int 0)]),(.tup [(.int 1),(.str [111,98,106,101,99,116])]),(.tup [(.int 8),(.tup []),(.tup []),(.tup []),(.tup []),(.tup []),(.int 0)]),(.tup [(.int 6),(.tup [(.int 8),(.int 9)])]),(.tup [(.int 1),(.str [101,114,114,111,114])]),(.tup [(.int 2),(.int 0),(.int 1)]),(.tup [(.int 2),(.int 1),(.int 1)])])) [.ex (.meth (.loc "self") "put" [.loc "row"])]]⟩
noncomputable def rX:x6:=⟨["self","t"],[],[],[
  .ret (.b2 .sub (.attr (.loc "self") "rows") (.loc "t"))]⟩
noncomputable def gI:x6:=⟨["self","row"],[],[],[
  .iff (.cmp .ind (.loc "row") (.attr (.loc "self") "index")) [.ret (.b2 .subd (.attr (.loc "self") "index") (.loc "row"))] [],
  .asg "t" (.b1 .len (.attr (.loc "self") "rows")),
  .ex (.m1 .append (.attr (.loc "self") "rows") (.loc "row")),
  .asgS (.attr (.loc "self") "index") (.loc "row") (.loc "t"),
  .ret (.loc "t")]⟩
noncomputable def rB:x6:=⟨["self","tab"],[],[],[
  .asgA (.loc "self") "tab" (.loc "tab"),
  .asgA (.loc "self") "deep" (.c (.int 0)),
  .asgA (.loc "self") "most_rounds" (.g "MOST_ROUNDS" (.int 200)),
  .asgA (.loc "self") "most_deep" (.g "MOST_SHAPES" (.int 40))]⟩
noncomputable def o0:x6:=⟨["self","t"],[],[],[
  .ret (.loc "t")]⟩
noncomputable def d7:x6:=⟨["self","host","pids","found"],[],[],[
  .asgA (.loc "self") "host" (.loc "host"),
  .asgA (.loc "self") "tab" (.attr (.loc "host") "tab"),
  .asgA (.loc "self") "pids" (.loc "pids"),
  .asgA (.loc "self") "found" (.loc "found"),
  .asgA (.loc "self") "seen" (.dictg .T),
  .asgA (.loc "self") "holds" (.dictg .I),
  .asgA (.loc "self") "count" (.c (.int 0)),
  .asgA (.loc "self") "level" (.c (.int 0)),
  .asgA (.loc "self") "both" (.c (.int 0)),
  .asgA (.loc "self") "lower" (.c (.int 0)),
  .asgA (.loc "self") "low" (.dictg .I)]⟩
noncomputable def wR:x6:=⟨["self","source","target","contra"],[],[],[
  .ex (.call (.g "seek" (.fn "seek")) [.loc "self",.loc "source",.loc "target",.loc "contra"])]⟩
noncomputable def uE:x6:=⟨["self","source","target","contra"],[],[],[
  .ex (.call (.g "seek_optional" (.fn "seek_optional")) [.loc "self",.loc "source",.loc "target",.loc "contra"])]⟩
noncomputable def kB:x6:=⟨["self","pid","t","contra"],[],[],[
  .asg "rows" (.sdl (.attr (.loc "self") "low") (.loc "pid")),
  .ex (.m1 .append (.loc "rows") (.tup [.call (.g "regular" (.fn "regular")) [.attr (.loc "self") "tab",.loc "t"],.ite (.cmp .gt (.attr (.loc "self") "both") (.c (.int 0))) (.c (.int 0)) (.loc "contra")]))]⟩
noncomputable def pR:x6:=⟨["self","pid","t","contra"],[],[],[
  .iff (.cmp .gt (.attr (.loc "self") "lower") (.c (.int 0))) [.bad,.bad] [],
  .asg "rows" (.sdl (.attr (.loc "self") "found") (.loc "pid")),
  .ex (.m1 .append (.loc "rows") (.tup [.call (.g "regular" (.fn "regular")) [.attr (.loc "self") "tab",.loc "t"],.ite (.cmp .gt (.attr (.loc "self") "both") (.c (.int 0))) (.c (.int 0)) (.loc "contra")])),
  .augA (.loc "self") "count" .add (.c (.int 1))]⟩
noncomputable def wC:x6:=⟨["k"],[],["nums","at"],[
  .asg "n" (.bin .add (.b2 .sub (.loc "nums") (.bin .mod (.b2 .sub (.loc "at") (.c (.int 0))) (.b1 .len (.loc "nums")))) (.bin .mul (.c (.int 31)) (.bin .fdiv (.b2 .sub (.loc "at") (.c (.int 0))) (.b1 .len (.loc "nums"))))),
  .augS (.loc "at") (.c (.int 0)) .add (.c (.int 1)),
  .ret (.bin .mod (.loc "n") (.loc "k"))]⟩
noncomputable def XS:List (String×x6):=[
 ("kind_of",sM),
 ("str_type",l6),
 ("num_type",dX),
 ("array_type",pT),
 ("last_mark",ZK),
 ("needed_to_last",mO),
 ("one_rest",W9),
 ("tuple_type",vK),
 ("new_param",rI),
 ("parts_of",dY),
 ("whole_of_row",fG),
 ("regular_twin",fC),
 ("join_bools",pX),
 ("stays_beside",fF),
 ("top_of",ZP),
 ("union",o3),
 ("add_undef",rC),
 ("is_fresh",W7),
 ("regular_one",uP),
 ("regular",bJ),
 ("row_kids",WA),
 ("row_binds",ZN),
 ("inner_kids",pV),
 ("reached",mP),
 ("free_params",d9),
 ("elem_read",rD),
 ("row_elem",dZ),
 ("seek_array",vH),
 ("kindplaces_has_mark",x7),
 ("kindplaces_needed_length",xN),
 ("lengths_apart",gJ),
 ("kindplaces_fixed_front",xZ),
 ("kindplaces_fixed_back",wB),
 ("seek_elem",rJ),
 ("spread_of",rL),
 ("seek_tuple",vJ),
 ("seek_places",jD),
 ("seek_middle",jC),
 ("naked_pid",rH),
 ("names_infer",dA),
 ("seek",o2),
 ("seek_pair",rK),
 ("seek_forced",uQ),
 ("meet_parts_of",rY),
 ("kindfind_list_of",vU),
 ("seek_list",uF),
 ("seek_one",kE),
 ("is_matched",pW),
 ("same_decl",ZO),
 ("close_pairs",d8),
 ("seek_lower",pY),
 ("seek_union",jU),
 ("seek_naked",tR),
 ("seek_optional",gK),
 ("infer_with",pU),
 ("_law_aims",W8),
 ("_law_forms",ZM),
 ("_law_word",dW),
 ("_law_text",l4),
 ("_law_join",kD),
 ("_law_unit",l5),
 ("_law_list",dQ),
 ("_law_kind",dP),
 ("_law_aim",bI),
 ("_law_target",tQ),
 ("_law_get",sN),
 ("_law_fixed",rF),
 ("_law_gift",jK),
 ("_law_apart",rE),
 ("_law_keep",dO),
 ("_law_walk",dU),
 ("_law_read",dR),
 ("TypeTable.__init__",uW),
 ("TypeTable.row",rX),
 ("TypeTable.put",gI),
 ("Thin.__init__",rB),
 ("Thin.force",o0),
 ("Finder.__init__",d7),
 ("Finder.walk",wR),
 ("Finder.optional",uE),
 ("Finder.add_low",kB),
 ("Finder.add",pR),
 ("roll",wC)]
noncomputable def D(f:String):Option x6:=(XS.find? fun p=>p.1==f).map (·.2)
end
def LQ:Kf:=fun fl z0 z0=>fl=.ret (.bool true)
def c4(n:Nat):Prop:=∀l:List Int,l.length<=63->∀ρ,y5.sets xV (x4.caps++x4.params) [.lst (vI l)]=some ρ->xA (y4 D n) x4.body ρ LQ ⟨[],[]⟩
end
section
open PySem PySem.W PyProof.Rows
def ff{P:Prop}(h:false=true):P:=absurd h Bool.false_ne_true
noncomputable abbrev tx(x:String):PySem.Str:=PySem.Str.ofString x
def aS{x y:String}(h:tx x=tx y):x=y:=by
 unfold tx at h;rw[PySem.Str.ofString_eq_toList,PySem.Str.ofString_eq_toList]at h;exact String.toList_inj.mp ((List.map_inj_right fun a b e=>Char.toNat_inj.mp e).mp (Array.mk.inj (congrArg PySem.Str.cps h)))
noncomputable def fA(n:String):Value:=if n="range"\/n="tuple"\/n="str" then .type n else .builtin n
noncomputable def q59:List String:=["len","range","min","sorted","tuple","str","any"]
def y6{α β:Type}(R:α->β->Prop):List α->List β->Prop
 | [],[]=>True
 | x::r,y::q=>R x y/\y6 R r q
 | _,_=>False
def y6.ind{α β:Type}{R:α->β->Prop}{P:List α->List β->Prop}{l:List α}{m:List β}(h:y6 R l m)(n:P [] [])(c:∀x y l m,R x y->P l m->y6 R l m->P (x::l) (y::m)):P l m:=by
 induction l generalizing m with
 | nil=>cases m with
  | nil=>exact n
  | cons _ _=>exact h.elim
 | cons x l ih=>cases m with
  | nil=>exact h.elim
  | cons y m=>exact c x y l m h.1 (ih h.2) h.2
section
variable{α β:Type}{R R':α->β->Prop}{l l':List α}{m m':List β}
def y6.mono(k:∀x y,R x y->R' x y)(h:y6 R l m):y6 R' l m:=h.ind (P:=y6 R') trivial fun x y z0 z0 a b z0=>⟨k x y a,b⟩
def y6.mem(h:y6 R l m)(k:∀x∈l,∀y,R x y->R' x y):y6 R' l m:=h.ind (P:=fun l m=>(∀x∈l,∀y,R x y->R' x y)->y6 R' l m) (fun z0=>trivial) (fun x y z0 z0 a b z0 k=>And.intro (k x (.head _) y a) (b fun x hx=>k x (.tail _ hx))) k
def y6.maps{α' β':Type}{R':α'->β'->Prop}{f:α->α'}{g:β->β'}(k:∀x y,R x y->R' (f x) (g y))(h:y6 R l m):y6 R' (l.map f) (m.map g):=h.ind (P:=fun l m=>y6 R' (l.map f) (m.map g)) trivial fun x y z0 z0 a b z0=>And.intro (k x y a) b
def y6.length(h:y6 R l m):l.length=m.length:=h.ind (P:=fun l m=>l.length=m.length) rfl fun z0 z0 z0 z0 z0 b z0=>congrArg Nat.succ b
def y6.append(h:y6 R l m)(h':y6 R l' m'):y6 R (l++l') (m++m'):=h.ind (P:=fun l m=>y6 R (l++l') (m++m')) h' fun z0 z0 z0 z0 a b z0=>And.intro a b
def y6.get{x:α}(h:y6 R l m):∀{i:Nat},l[i]?=some x->∃y,m[i]?=some y/\R x y:=h.ind (P:=fun l m=>∀{i:Nat},l[i]?=some x->∃y,m[i]?=some y/\R x y) (fun e=>nomatch e) fun z0 y z0 z0 a b z0 i=>match i with
 | 0=>fun e=>⟨y,rfl,qN e▸a⟩
 | _+1=>b
def y6.take(n:Nat)(h:y6 R l m):y6 R (l.take n) (m.take n):=h.ind (P:=fun l m=>∀n:Nat,y6 R (l.take n) (m.take n)) (fun n=>by rw[List.take_nil,List.take_nil]; trivial) (fun z0 z0 z0 z0 a b z0 n=>match n with
 | 0=>trivial
 | n+1=>And.intro a (b n)) n
def y6.drop(n:Nat)(h:y6 R l m):y6 R (l.drop n) (m.drop n):=h.ind (P:=fun l m=>∀n:Nat,y6 R (l.drop n) (m.drop n)) (fun n=>by rw[List.drop_nil,List.drop_nil]; trivial) (fun z0 z0 z0 z0 a b h n=>match n with
 | 0=>And.intro a h
 | n+1=>b n) n
def y6.snoc{x:α}{y:β}(a:y6 R l m)(h:R x y):y6 R (l++[x]) (m++[y]):=a.append ⟨h,trivial⟩
def y6.reverse(h:y6 R l m):y6 R l.reverse m.reverse:=h.ind (P:=fun l m=>y6 R l.reverse m.reverse) trivial fun x y l m a b z0=>by rw[List.reverse_cons,List.reverse_cons]; exact b.snoc a
def y6.set{x:α}{y:β}(h:R x y)(n:Nat)(a:y6 R l m):y6 R (l.set n x) (m.set n y):=a.ind (P:=fun l m=>∀n:Nat,y6 R (l.set n x) (m.set n y)) (fun z0=>trivial) (fun z0 z0 z0 z0 a b q n=>match n with
 | 0=>And.intro h q
 | n+1=>And.intro a (b n)) n
def y6.right{y:β}(h:y6 R l m)(k:y∈m):∃x,R x y:=h.ind (P:=fun l m=>y∈m->∃x,R x y) (fun z=>(absurd z qW)) (fun z0 z0 z0 z0 a b z0 z=>(qV.mp z).elim (fun e=>⟨_,e▸a⟩) b) k
end
set_option genCtorIdx false in
structure Cx where
 prog:Program
 w:World
 FA:String->Addr
 H:Heap
 os:OsState
 K:Frag
 CL:String->List String->FuncData->Prop
abbrev no:Addr->Prop:=fun z0=>False
abbrev Mp:=Bool->Nat->Option Addr
def iJ(N N':Addr->Prop)(h h':Heap):Prop:=∀a o,¬N a->h.get? a=some o->¬N' a/\h'.get? a=some o
section
variable(X:Cx)(m:Mp)(N:Addr->Prop)(h:Heap)
set_option genCtorIdx false in
structure GC (n:String) (us:List Value) (a:Addr) (o:Obj) (fd:FuncData) (c:Addr) (ns:List String):Prop where
 get:h.get? a=some o
 dat:o.data=.func fd
 cl:X.CL n ns fd
 code:fd.code=.ref c
 nc:¬N c
 crec:h.CodeRec (.ref c) fd.qualname
 nms:y6 (fun x (c:Str×Addr)=>c.1=tx x) ns fd.closure
 cells:y6 (fun (c:Str×Addr)u=>¬N c.2/\h.IsCell c.2 (some u)) fd.closure us
def UJ(n:String)(us:List Value)(a:Addr):Prop:=∃o fd c ns,GC X N h n us a o fd c ns
def S0(l:List Int)(a:Addr):Prop:=(a==sysModules)=false/\∃kvs,h.DictOf (intKind X.prog X.w) a kvs/\y6 (fun (i:Int)(k:Int×Value)=>k.1=i/\∃t,k.2=.int 1 t) l kvs
def Fz(v:Value)(P:Addr->Prop):Prop:=∃a,v=.ref a/\¬N a/\P a
mutual
def yG:V->Value->Prop
 | .none,v=>v=.none
 | .bool b,v=>v=.bool b
 | .int i,v=>∃t,v=.int i t
 | .str s,v=>∃t,v=.str ⟨s.toArray⟩ t
 | .tup l,v=>∃xs,j8 l xs/\Fz N v fun a=>h.IsTuple a (List.toArray xs)
 | .lst l,v=>∃xs,j8 l xs/\Fz N v fun a=>∃n,h.get? a=some (seqObj "list" (List.toArray xs) n)
 | .iset l,v=>Fz N v (S0 X h l)
 | .spans,v=>v=.ref (X.FA "KID_SPANS")
 | .rng lo n,v=>Fz N v fun a=>(Z3 lo/\Z3 (lo+n))/\∃t u z,IsRange h a lo (lo+n) 1 t u z
 | .ref g n,v=>g=true/\∃a,m g n=some a/\v=.ref a
 | .fn n,v=>v=.ref (X.FA n)/\n≠"roll"
 | .blt n,v=>v=fA n/\q59.contains n=true
 | .clos n cap,v=>∃us,j8 cap us/\Fz N v (UJ X N h n us)
def j8:List V->List Value->Prop
 | [],vs=>vs=[]
 | x::r,vs=>∃y ys,vs=y::ys/\yG x y/\j8 r ys
end
end
def Z8(m m':Mp):Prop:=∀g n a,m g n=some a->m' g n=some a
def q1B(m m':Mp):Prop:=∀n a,m true n=some a->m' true n=some a
def Z8.g{m m':Mp}(l:Z8 m m'):q1B m m':=fun n a e=>l true n a e
section
variable{X:Cx}{m m':Mp}{N N':Addr->Prop}{h h':Heap}{v:Value}{P P':Addr->Prop}
def Fz.mono(k:iJ N N' h h')(g:∀a,P a->∃o,h.get? a=some o)(f:∀a,(∀o,h.get? a=some o->h'.get? a=some o)->P a->P' a)(z:Fz N v P):Fz N' v P' :=
 let⟨a,e,n,p⟩:=z
 let⟨o,q⟩:=g a p
 ⟨a,e,(k a o n q).1,f a (fun o e=>(k a o n e).2) p⟩
def UV{c:Addr}{q:Str}(f:∀o,h.get? c=some o->h'.get? c=some o)(z:h.CodeRec (.ref c) q):h'.CodeRec (.ref c) q:=by
 obtain⟨_,oc,vs,tq,e,e2,r⟩:=z; cases e; exact⟨_,oc,vs,tq,rfl,f _ e2,r⟩
def W6{c:Addr}{q:Str}(z:h.CodeRec (.ref c) q):∃o,h.get? c=some o:=by
 obtain⟨_,oc,vs,tq,e,e2,r⟩:=z; cases e; exact⟨_,e2⟩
def UJ.mono(k:iJ N N' h h'){n:String}{us:List Value}{a:Addr}(ka:∀o,h.get? a=some o->h'.get? a=some o)(z:UJ X N h n us a):UJ X N' h' n us a :=
 uN z fun o fd c ns z=>(W6 z.crec).elim fun oc q=>⟨o,fd,c,ns,ka o z.get,z.dat,z.cl,z.code,(k _ _ z.nc q).1,UV (fun z0 e=>(k _ _ z.nc e).2) z.crec,z.nms,
  z.cells.mono fun x u q=>q.2.elim fun oc e=>⟨(k _ _ q.1 e.1).1,oc,(k _ _ q.1 e.1).2,e.2⟩⟩
mutual
theorem yG.mono(l:q1B m m')(k:iJ N N' h h'):∀{x:V}{v:Value},yG X m N h x v->yG X m' N' h' x v
 | .none,_,r=>r
 | .bool _,_,r=>r
 | .int _,_,r=>r
 | .str _,_,r=>r
 | .tup _,_,r=>r.elim fun xs r=>⟨xs,j8.mono l k r.1,r.2.mono k (fun a z=>z.elim fun o z=>⟨o,z.1⟩) fun a f z=>z.elim fun o z=>⟨o,f o z.1,z.2⟩⟩
 | .lst _,_,r=>r.elim fun xs r=>⟨xs,j8.mono l k r.1,r.2.mono k (fun a z=>z.elim fun n z=>⟨_,z⟩) fun a f z=>z.elim fun n z=>⟨n,f _ z⟩⟩
 | .iset _,_,r=>Fz.mono k (P:=S0 X h _) (fun a z=>z.2.elim fun z0 z=>gE z.1 fun o z0 z0 z=>⟨o,z.1⟩) (fun a f z=>⟨z.1,z.2.elim fun kvs z=>⟨kvs,gE z.1 fun o es ep y=>⟨o,es,ep,f o y.1,y.2⟩,z.2⟩⟩) r
 | .spans,_,r=>r
 | .rng _ _,_,r=>Fz.mono k (fun a ⟨_,_,_,_,z⟩=>⟨_,z⟩) (fun a f ⟨q,t,u,y,z⟩=>⟨q,t,u,y,f _ z⟩) r
 | .ref true _,_,r=>⟨rfl,r.2.elim fun a r=>⟨a,l _ _ r.1,r.2⟩⟩
 | .ref false _,_,r=>nomatch r.1
 | .fn _,_,r=>r
 | .blt _,_,r=>r
 | .clos _ _,_,r=>r.elim fun us r=>⟨us,j8.mono l k r.1,r.2.mono k (fun a z=>uN z fun o z0 z0 z0 z=>⟨o,z.get⟩) fun a f z=>UJ.mono k f z⟩
theorem j8.mono(l:q1B m m')(k:iJ N N' h h'):∀{x:List V}{v:List Value},j8 X m N h x v->j8 X m' N' h' x v
 | [],_,r=>r
 | _::_,_,r=>v4 r fun y ys r=>⟨y,ys,r.1,yG.mono l k r.2.1,j8.mono l k r.2.2⟩
end
theorem gR:∀{l:List V}{us:List Value},j8 X m N h l us->y6 (yG X m N h) l us
 | [],_,e=>e.symm▸trivial
 | _::_,_,e=>v4 e fun z0 z0 e=>e.1.symm▸⟨e.2.1,gR e.2.2⟩
def dH{l:List V}{us:List Value}(r:y6 (yG X m N h) l us):j8 X m N h l us:=r.ind (P:=j8 X m N h) rfl fun z0 z0 z0 z0 a b z0=>⟨_,_,rfl,a,b⟩
end
end
section
open PySem PySem.W PyProof.Rows PySem.SeqAt
def uH{P:Nat->V->Prop}(i:∀n i,P n (.int i))(s:∀n s,P n (.str s))(t:∀n l,(∀x∈l,kS n x=true)->(∀x∈l,P n x)->P (n+1) (.tup l)):∀n x,kS n x=true->P n x:=by
 intro n
 induction n with
 | zero=>exact fun x=>by cases x <;> first | exact fun z0=>i _ _ | exact fun z0=>s _ _ | exact ff
 | succ n ih=>exact fun x=>by cases x <;> first | exact fun z0=>i _ _ | exact fun z0=>s _ _ | exact fun k=>t _ _ (z6.mp k) fun x hx=>ih x (z6.mp k x hx) | exact ff
def BY{P:V->Prop}{n:Nat}{x:V}(k:kS n x=true)(i:∀i,P (.int i))(s:∀s,P (.str s))(t:∀m l,n=m+1->(∀x∈l,kS m x=true)->P (.tup l)):P x :=
 uH (P:=fun n x=>(∀m l,n=m+1->(∀x∈l,kS m x=true)->P (.tup l))->P x) (fun z0 j z0=>i j) (fun z0 j z0=>s j) (fun n l h z0 t=>t n l rfl h) n x k t
section
noncomputable def hb(w:World)(f:List V->Int):V->Int
 | .int i=>hashInt i
 | .str s=>hashStr w ⟨s.toArray⟩
 | .tup l=>f l
 | _=>0
noncomputable def q30(w:World)(n:Nat):List V->Int:=Nat.rec (motive:=fun z0=>List V->Int) (fun z0=>0) (fun z0 f l=>reduceHash (Builtin.Tuple.tupleHashOf (l.map (hb w f)))) n
noncomputable def rO(w:World)(n:Nat):V->Int:=hb w (q30 w n)
noncomputable def db(f:List V->Nat):V->Nat
 | .tup l=>f l
 | _=>1
noncomputable def q2P(n:Nat):List V->Nat:=Nat.rec (motive:=fun z0=>List V->Nat) (fun z0=>1) (fun z0 f l=>(l.map (db f)).sum+1) n
noncomputable def ZQ(n:Nat):V->Nat:=db (q2P n)
abbrev wL(X:Cx)(h:Heap)(x:V)(v:Value):Prop:=yG X (fun z0 z0=>none) no h x v
noncomputable def dv(f:Addr->V):Value->V
 | .int i _=>.int i
 | .str s _=>.str s.cps.toList
 | .ref a=>f a
 | _=>.none
noncomputable def dq(f:Value->V):Option Data->V
 | some (.seq xs _)=>.tup (xs.toList.map f)
 | _=>.none
noncomputable def FG(h:Heap)(n:Nat):Addr->V:=Nat.rec (motive:=fun z0=>Addr->V) (fun z0=>.none) (fun z0 f a=>dq (dv f) ((h.get? a).map Obj.data)) n
section
variable{X:Cx}{m:Mp}{N:Addr->Prop}{h h':Heap}{n:Nat}{x y:V}{v:Value}
def WQ(n:Nat)(k:kS n x=true)(r:yG X m N h x v):wL X h x v :=
 uH (P:=fun z0 x=>∀v,yG X m N h x v->wL X h x v) (fun z0 z0 z0 r=>r) (fun z0 z0 z0 r=>r)
  (fun z0 l z0 ih v r=>r.elim fun xs r=>r.2.elim fun a z=>⟨xs,dH ((gR r.1).mem ih),a,z.1,id,z.2.2⟩) n x k v r
def VG(n:Nat)(k:kS n x=true)(r:wL X h x v):dv (FG h n) v=x :=
 uH (P:=fun n x=>∀v,wL X h x v->dv (FG h n) v=x) (fun z0 z0 v r=>r.elim fun t e=>e.symm▸rfl) (fun z0 z0 v r=>r.elim fun t e=>e.symm▸rfl)
  (fun n l z0 ih v r=>r.elim fun xs r=>r.2.elim fun a z=>z.2.2.elim fun o w=>w.2.2.elim fun n' hd=>by
   rw[z.1];show dq (dv (FG h n)) ((h.get? a).map Obj.data)=_;rw[w.1,Option.map_some,hd];refine congrArg V.tup ?_;exact(gR r.1).ind (P:=fun l xs=>(∀x∈l,∀v,wL X h x v->dv (FG h n) v=x)->xs.map (dv (FG h n))=l) (fun z0=>rfl) (fun x v l xs r b z0 ih=>congr (congrArg List.cons (ih x (.head _) v r)) (b fun x hx=>ih x (.tail _ hx))) ih) n x k v r
def VH(n:Nat)(k:kS n x=true)(k':kS n y=true)(r:wL X h x v)(r':wL X h y v):x=y:=(VG n k r).symm.trans (VG n k' r')
end
end
section
section
variable{X:Cx}{h h':Heap}
def T9{d:Addr}{o:Obj}{es ep}(ho:h.get? d=some o)(hd:o.data=.dict es ep)(hs:Heap.SameBut d h h')(n:Nat){x:V}{v:Value}(k:kS n x=true)(r:wL X h x v):wL X h' x v :=
 uH (P:=fun z0 x=>∀v,wL X h x v->wL X h' x v) (fun z0 z0 z0 r=>r) (fun z0 z0 z0 r=>r)
  (fun z0 l z0 ih v r=>r.elim fun xs r=>r.2.elim fun a z=>z.2.2.elim fun o' w=>⟨xs,dH ((gR r.1).mem ih),a,z.1,id,o',(hs.2 a fun y=>w.2.2.elim fun n' t=>by
   subst y;cases ho.symm.trans w.1;cases hd.symm.trans t).trans w.1,w.2⟩) n x k v r
end
section
variable{X:Cx}{A:Around}{E:Value->Shared->Prop}{s:Shared}
def iI(X:Cx)(n:Nat)(x:V):Prop:=∀(A:Around)(E:Value->Shared->Prop)(s:Shared)(v:Value)(Q:Int->Shared->Prop),A.units+n<cLine->wL X s.heap x v->Q (rO X.w n x) {s with toks:=s.toks+ZQ n x}->wpAny (model X.prog X.w) A (pyHash v) Q E s
def T5{n:Nat}{f:Value->Array Int->Sem (ForInStep (Array Int))}(hf:∀(v:Value) (b:Array Int) (s:Shared) (Q:ForInStep (Array Int)->Shared->Prop),wpAny (model X.prog X.w) A (pyHash v) (fun h s=>Q (.yield (b.push h)) s) E s->wpAny (model X.prog X.w) A (f v b) Q E s)(hu:A.units+n<cLine){Q:Array Int->Shared->Prop}
  {l:List V}:∀{xs:List Value}{b:Array Int}{s:Shared},(∀x∈l,iI X n x)->y6 (wL X s.heap) l xs->(∀b':Array Int,b'.toList=b.toList++l.map (rO X.w n)->Q b' {s with toks:=s.toks+(l.map (ZQ n)).sum})->wpAny (model X.prog X.w) A (forIn xs b f) Q E s:=by
 induction l with
 | nil=>exact fun {xs b s} _ h q=>by cases xs with
  | nil=>exact wpAny_pure (q b (qS _).symm)
  | cons _ _=>exact h.elim
 | cons x l ih=>exact fun {xs b s} H h q=>by cases xs with
  | nil=>exact h.elim
  | cons v xs =>
   rw[List.forIn_cons];exact wpAny_bind (hf v b s _ (H x (.head _) _ _ _ _ _ hu h.1 (ih (b:=b.push (rO X.w n x)) (s:={s with toks:=s.toks+ZQ n x}) (fun x hx=>H x (.tail _ hx)) h.2 fun b' e=>by
    have z:=q b' (e.trans (by rw[Array.toList_push,qZ]; rfl));rw[List.map_cons,List.sum_cons,<-Nat.add_assoc]at z;exact z)))
def WK{n:Nat}{l:List V}(H:∀x∈l,iI X n x){a:Addr}{xs:List Value}{Q:Int->Shared->Prop}(hu:A.units+(n+1)<cLine)(hk:s.heap.IsTuple a xs.toArray)(hi:y6 (wL X s.heap) l xs)
  (h:Q (reduceHash (Builtin.Tuple.tupleHashOf (l.map (rO X.w n)))) {s with toks:=s.toks+((l.map (ZQ n)).sum+1)}):wpAny (model X.prog X.w) A (pyHash (.ref a)) Q E s:=by
 have hT:s.TypeIs (.ref a) "tuple":=hk.elim fun o z=>⟨o,z.1,z.2.1⟩;refine qG fun ng=>?_;refine(hk).elim fun o z=>z.elim fun ho z=>z.elim fun z0 z=>z.elim fun n' hd=>?_;refine ng ?_
 first | unfold pyHashByItsType | skip
 first | refine wpAny_bind (wpAny_cRoomFor_or (.inr (qI (qJ _ _) hu)) ?_) | skip
 refine wpAny_bind (wpAny_specialOf hT F.slot_tuple_hash.lookup ?_);rw[if_neg (by rw[beq_builtin_none]; exact Bool.false_ne_true)];refine wpAny_bind (wpAny_specialOf hT F.slot_tuple_hash.lookup ?_);refine wpAny_bind (wpAny_callSpecialIfBoundUnlessNone?_slot hT F.slot_tuple_hash (wpAny_call_entry F.slot_tuple_hash hT F.entry_tuple_hash ?_ (F.args_tuple_hash_1 _)));show wpAny _ _ (Builtin.Tuple.tupleItemsOf (.ref a) >>= _) _ _ s;refine wpAny_bind (wpAny_tupleItemsOf ho hd ?_);refine wpAny_bind ?_;rw[<-Array.forIn_toList];refine T5 (fun v b s Q z=>wpAny_bind (wpAny_mono z (fun z0 z0 e=>by first | exact wpAny_pure e | exact wpAny_bind (wpAny_pure (wpAny_pure e))) fun z0 z0 e=>e)) (qI (qK (by show A.units+1+n=_; rw[Nat.add_assoc,Nat.add_comm 1 n])) hu) H hi fun b e=>?_;show wpAny _ _ (retInt (Builtin.Tuple.tupleHashOf b.toList)) _ _ _;rw[e,show(#[]:Array Int).toList++l.map (rO X.w n)=l.map (rO X.w n)from rfl];generalize Builtin.Tuple.tupleHashOf (l.map (rO X.w n))=t at h ⊢;refine wpAny_ret_mkInt ?_;show wpAny _ _ (if (decide (-(2:Int) ^ 63<=t)&&decide (t<2 ^ 63))=true then _ else _) Q E _;unfold reduceHash at h
 split <;> rename_i hr
 ·rw[if_pos hr]at h;exact wpAny_pure h
 ·rw[if_neg hr]at h;exact wpAny_bind (wpAny_rule (wpAny_pure h))
def EO(n:Nat)(x:V)(k:kS n x=true):iI X n x :=
 uH (P:=iI X) (fun z0 i A E s v Q z0 r h=>r.elim fun t e=>e.symm▸wpAny_pyHash_int h) (fun z0 i A E s v Q z0 r h=>r.elim fun t e=>e.symm▸wpAny_pyHash_str h)
  (fun n l z0 ih A E s v Q hu r h=>r.elim fun xs r=>r.2.elim fun a z=>z.1.symm▸WK ih hu z.2.2 (gR r.1) h) n x k
def AW(X:Cx)(n:Nat)(x y:V):Prop:=∀(A:Around)(s:Shared)(u v:Value),A.units+n<cLine->wL X s.heap x u->wL X s.heap y v->EqAt A s u v (decide (x=y))
def JJ{i j:List Nat}:((⟨i.toArray⟩:PySem.Str)==⟨j.toArray⟩)=decide (V.str i=V.str j):=by
 by_cases h:i=j
 ·rw[h,zU rfl]; exact beq_self_eq_true _
 ·rw[decide_eq_false fun e=>h (V.str.inj e)]; exact zV.mpr fun e=>h (Array.mk.inj (PySem.Str.mk.inj e))
def EQ{i j:Int}:(i==j)=decide (V.int i=V.int j):=by
 by_cases h:i=j
 ·rw[h,zU rfl]; exact beq_self_eq_true _
 ·rw[decide_eq_false fun e=>h (V.int.inj e)]; exact zV.mpr h
def FR{n:Nat}{l l':List V}(H:∀x∈l,∀y∈l',AW X n x y){A:Around}{s:Shared}{a b:Addr}{xs ys:List Value}(hu:A.units+(n+1)<cLine)(t:s.heap.IsTuple a xs.toArray)(t':s.heap.IsTuple b ys.toArray)
  (p:y6 (wL X s.heap) l xs) (p':y6 (wL X s.heap) l' ys) (hn:a≠b):EqAt A s (.ref a) (.ref b) (decide (V.tup l=V.tup l')):=by
 have R:=RcAt.tuples (A:=A) t t' (e:=fun j=>decide (l[j]?=l'[j]?)) (qI (qJ _ _) hu) fun j h1 h2=>by
  have q1:j<l.length:=p.length▸h1;have q2:j<l'.length:=p'.length▸h2;refine qG fun ng=>?_;refine wI (p.get (zS q1)) fun u u1 u2=>?_;refine wI (p'.get (zS q2)) fun v v1 v2=>?_;refine ng ?_;exact(((qN ((zS h1).symm.trans u1):xs.toArray[j]=u)))▸(((qN ((zS h2).symm.trans v1):ys.toArray[j]=v)))▸(show decide (l[j]?=l'[j]?)=decide (l[j]=l'[j])from decide_eq_decide.mpr (by rw[(zS q1),(zS q2)]; exact⟨qN,congrArg _⟩))▸((H _ (List.getElem_mem q1) _ (List.getElem_mem q2) A.in1 s u v (show A.units+1+n<cLine by exact yX [_,_,_] (LF.c 1 (.a (.a (.v 0) (.a (.v 1) (.k 1))) (.k 1)) (.v 2) .n) 0 (.a (.a (.a (.v 0) (.k 1)) (.v 1)) (.k 1)) (.v 2) rfl hu) u2 v2))
 refine EqAt.of_refs hn ?_;have e:((List.range (min xs.toArray.size ys.toArray.size)).all (fun j=>decide (l[j]?=l'[j]?))&&xs.toArray.size==ys.toArray.size)=decide (V.tup l=V.tup l'):=by
  rw[Bool.eq_iff_iff,Bool.and_eq_true,z6,decide_eq_true_iff,beq_iff_eq]
  constructor
  ·rintro⟨h1,h2⟩
   refine congrArg V.tup (List.ext_getElem? fun j=>?_)
   by_cases hj:j<l.length
   ·exact zT (h1 j (List.mem_range.mpr (Nat.lt_min.mpr ⟨Nat.lt_of_lt_of_eq hj p.length,Nat.lt_of_lt_of_eq hj (((p.length.trans (Eq.trans h2 p'.length.symm):l.length=l'.length)).trans p'.length)⟩)))
   ·rw[List.getElem?_eq_none (Nat.le_of_not_lt hj),List.getElem?_eq_none (((p.length.trans (Eq.trans h2 p'.length.symm):l.length=l'.length))▸Nat.le_of_not_lt hj)]
  ·intro h;cases h;exact⟨fun j z0=>zU rfl,p.length.symm.trans p'.length⟩
 rwa [e]at R
def uY{A:Around}{s:Shared}{u v:Value}{x y:V}(n:x≠y)(h:EqAt A s u v false):EqAt A s u v (decide (x=y)):=(decide_eq_false n).symm▸h
def q65(n:Nat)(x:V)(k:kS n x=true):∀y,kS n y=true->AW X n x y :=
 uH (P:=fun n x=>∀y,kS n y=true->AW X n x y)
  (fun n i y k' A s u v hu r r'=>BY (P:=fun y=>wL X s.heap y v->EqAt A s u v (decide (V.int i=y))) k'
   (fun j r'=>r.elim fun t e=>r'.elim fun t' e'=>e▸e'▸EQ▸EqAt.int_int _ _ _ _)
   (fun j r'=>uY (fun e=>V.noConfusion e) (r.elim fun t e=>r'.elim fun t' e'=>e▸e'▸EqAt.int_str _ _ _ _))
   (fun m l z0 z0 r'=>uY (fun e=>V.noConfusion e) (r.elim fun t e=>r'.elim fun xs r'=>r'.2.elim fun a z=>e▸z.1▸EqAt.int_tuple _ _ z.2.2 (qI (qJ _ _) hu))) r')
  (fun n i y k' A s u v hu r r'=>BY (P:=fun y=>wL X s.heap y v->EqAt A s u v (decide (V.str i=y))) k'
   (fun j r'=>uY (fun e=>V.noConfusion e) (r.elim fun t e=>r'.elim fun t' e'=>e▸e'▸EqAt.str_int _ _ _ _))
   (fun j r'=>r.elim fun t e=>r'.elim fun t' e'=>e▸e'▸JJ▸EqAt.str_str _ _ _ _)
   (fun m l z0 z0 r'=>uY (fun e=>V.noConfusion e) (r.elim fun t e=>r'.elim fun xs r'=>r'.2.elim fun a z=>e▸z.1▸EqAt.str_tuple _ _ z.2.2 (qI (qJ _ _) hu))) r')
  (fun n l kl ih y k' A s u v hu r r'=>by
   obtain⟨xs,p,a,rfl,z,t⟩:=r;refine BY (P:=fun y=>kS (n+1) y=true->wL X s.heap y v->EqAt A s (.ref a) v (decide (V.tup l=y))) k'
    (fun j z0 r'=>uY (fun e=>V.noConfusion e) (r'.elim fun t' e'=>e'▸EqAt.tuple_int _ _ t (qI (qJ _ _) hu)))
    (fun j z0 r'=>uY (fun e=>V.noConfusion e) (r'.elim fun t' e'=>e'▸EqAt.tuple_str _ _ t (qI (qJ _ _) hu)))
    (fun m l' e kl' k' r'=>?_) k' r'
   cases e;obtain⟨ys,p',b,rfl,z',t'⟩:=r'
   by_cases e:a=b
   ·subst e;exact(zU (VH (v:=.ref a) (x:=.tup l) (n+1) (show kS (n+1) (.tup l)=true from z6.mpr kl) k' ⟨xs,p,a,rfl,z,t⟩ ⟨ys,p',a,rfl,z',t'⟩))▸(EqAt.same _)
   ·exact FR (fun x hx y hy=>ih x hx y (kl' y hy)) hu t t' (gR p) (gR p') e) n x k
def iK(X:Cx)(n:Nat)(x:V):Prop:=∀(A:Around)(E:Value->Shared->Prop)(s:Shared)(v:Value)(Q:Bool->Shared->Prop)(k:Nat),n<=k->wL X s.heap x v->Q true s->wpAny (model X.prog X.w) A (eqIsQuiet k v) Q E s
def YV{l:List V}{n k:Nat}(H:∀x∈l,iK X n x)(hn:n<=k){a:Addr}{xs:List Value}{Q:Bool->Shared->Prop}(hk:s.heap.IsTuple a xs.toArray)(hi:y6 (wL X s.heap) l xs)(h:Q true s):
  wpAny (model X.prog X.w) A (eqIsQuiet (k+1) (.ref a)) Q E s:=by
 have hT:s.TypeIs (.ref a) "tuple":=hk.elim fun o z=>⟨o,z.1,z.2.1⟩;obtain⟨o,ho,_,n',hd⟩:=hk;unfold eqIsQuiet;refine wpAny_bind (wpAny_specialOf hT F.slot_tuple_eq.lookup ?_);refine wpAny_bind (wpAny_isInstance hT isSubtype_tuple_tuple ?_);simp only[Bool.not_true,Bool.false_eq_true,if_false];refine wpAny_bind (wpAny_seqItems ho hd ?_);refine wpAny_bind ?_;rw[<-Array.forIn_toList];refine wpAny_forIn_list _ (fun rest r s'=>r.1=none/\s'=s/\∃left,y6 (wL X s.heap) left rest/\(∀x∈left,x∈l)) _ ?_ ?_ _ _ ⟨rfl,rfl,l,hi,fun z0 h=>h⟩
 ·rintro v rest r s' ⟨hr,rfl,left,hl,hall⟩
  refine qG fun ng=>?_;cases left with
  | nil=>exact ng (hl.elim)
  | cons y left =>
   refine ng ?_;refine wpAny_bind (H y (hall y (.head _)) _ _ _ _ _ k hn hl.1 ?_);simp only[Bool.not_true,Bool.false_eq_true,if_false];exact wpAny_pure ⟨rfl,rfl,left,hl.2,fun u hu'=>hall u (.tail _ hu')⟩
 ·rintro⟨r1,r2⟩ s' ⟨hr,rfl,_⟩
  cases (show r1=none from hr);exact wpAny_pure h
def RU(n:Nat)(x:V)(k:kS n x=true):iK X n x :=
 uH (P:=iK X) (fun z0 i A E s v Q j z0 r h=>r.elim fun t e=>by rw[e,eqIsQuiet_byValue j rfl]; exact wpAny_pure h) (fun z0 i A E s v Q j z0 r h=>r.elim fun t e=>by rw[e,eqIsQuiet_byValue j rfl]; exact wpAny_pure h)
  (fun n l z0 ih A E s v Q j hj r h=>r.elim fun xs r=>r.2.elim fun a z=>by
   rw[z.1];cases j with
   | zero=>exact absurd hj (Nat.not_succ_le_zero n)
   | succ j=>exact YV ih (zJ hj) z.2.2 (gR r.1) h) n x k
noncomputable def dF(X:Cx):HeapKind X.prog X.w (List V) where
 is:=fun h k a=>kS 3 (.tup k)=true/\wL X h (.tup k) (.ref a)
 hash:=fun k=>rO X.w 3 (.tup k)
 draws:=fun k=>ZQ 3 (.tup k)
 room:=fun A=>A.units+10<cLine
 inj:=fun hx hy=>V.tup.inj (VH 3 hx.1 hy.1 hx.2 hy.2)
 keeps:=fun x ho hd hs=>⟨x.1,T9 ho hd hs 3 x.1 x.2⟩
 pyHash:=fun hu hk h=>EO 3 _ hk.1 _ _ _ _ _ (qI (qL (by decide) _) hu) hk.2 h
 eqBool:=fun {A E s x y a b Q} hu hx hy h=>q65 3 _ hx.1 _ hy.1 A s _ _ (qI (qL (by decide) _) hu) hx.2 hy.2 _ _ _ _ (by rwa [show decide (V.tup x=V.tup y)=decide (x=y)from decide_eq_decide.mpr ⟨V.tup.inj,congrArg _⟩])
 quiet:=fun hk h=>RU 3 _ hk.1 _ _ _ _ _ 8 (by decide) hk.2 h
end
end
end
section
open PySem PySem.W PyProof.Rows
set_option genCtorIdx false in
structure Mt where
 m:Mp
 σ:St
 s:Shared
def Mu(p:Mt)(a:Addr):Prop:=∃g n ob,p.m g n=some a/\p.σ.at g n=some ob/\ob≠.dead
def NN(Pv:Addr->Prop)(p:Mt)(a:Addr):Prop:=Mu p a\/Pv a
set_option genCtorIdx false in
structure Fx where
 X:Cx
 A:Around
 env:Env
 Pv:Addr->Prop
 own:Addr->Prop
section
variable(c:Fx)(p p':Mt)
abbrev Fx.V:V->Value->Prop:=yG c.X p.m (NN c.Pv p) p.s.heap
def y7(x:V)(v:Value):Prop:=match x with
 | .ref g n=>∃a,p.m g n=some a/\v=.ref a
 | x=>yG c.X p.m (NN c.Pv p) p.s.heap x v
def wM(a:Addr):Ob->Prop
 | .list l=>∃xs n,p.s.heap.get? a=some (seqObj "list" (List.toArray xs) n)/\y6 (c.V p) l xs
 | .dI es=>∃kvs,p.s.heap.DictOf (intKind c.X.prog c.X.w) a kvs/\y6 (fun (e:Int×V)(k:Int×Value)=>k.1=e.1/\c.V p e.2 k.2) es kvs
 | .dS es=>∃kvs,p.s.heap.DictOf (strKind c.X.prog c.X.w) a kvs/\y6 (fun (e:List Nat×V)(k:Str×Value)=>k.1=⟨e.1.toArray⟩/\c.V p e.2 k.2) es kvs
 | .dT es=>∃xs,p.s.heap.DictOfH (dF c.X) a xs/\y6 (fun (e:List V×V)(x:List V×Addr×Value)=>x.1=e.1/\c.V p (.tup e.1) (.ref x.2.1)/\c.V p e.2 x.2.2) es xs
 | .inst n d=>LJ.contains n=true/\∃b,p.m true d=some b/\p.s.heap.get? a=some (instObj (c.X.FA n) b)
 | .ns fs=>∃es n,p.s.heap.get? a=some (dictOf es n)/\y6 (fun (f:String×V)(e:DictEntry)=>(∃t,e.key=.str (tx f.1) t)/\e.hash=hashStr c.X.w (tx f.1)/\c.V p f.2 e.val) fs es
 | .dead=>True
set_option genCtorIdx false in
structure yJ:Prop where
 base:∀b o,c.X.H.get? b=some o->p.s.heap.get? b=some o
 rep:∀g n ob,p.σ.at g n=some ob->∃a,p.m g n=some a/\wM c p a ob
 non:∀g n,p.σ.at g n=none->p.m g n=none
 inj:∀g n g' n' a,p.m g n=some a->p.m g' n'=some a->g=g'/\n=n'
 at_:∀g n a,p.m g n=some a->(∃o,p.s.heap.get? a=some o)/\c.X.H.get? a=none/\¬c.Pv a
 priv:∀a,c.Pv a->c.X.H.get? a=none/\∃o,p.s.heap.get? a=some o
 own:∀a,c.own a->c.Pv a
 gens:p.s.gens=#[]
 os:p.s.os=c.X.os
end
set_option genCtorIdx false in
structure yC (U:Addr->Prop) (p p':Mt):Prop where
 le:Z8 p.m p'.m
 keep:∀a o,¬Mu p a->¬U a->p.s.heap.get? a=some o->p'.s.heap.get? a=some o
 new:∀a,Mu p' a->Mu p a\/p.s.heap.get? a=none
 mnew:∀g n a,p'.m g n=some a->p.m g n=some a\/p.s.heap.get? a=none
 there:∀a o,p.s.heap.get? a=some o->∃o',p'.s.heap.get? a=some o'
section
variable{c:Fx}{U:Addr->Prop}{p p' p'':Mt}{x:V}{v:Value}{a:Addr}{ob:Ob}{o:Obj}{h':Heap}
def yC.refl:yC U p p:=⟨fun z0 z0 z0 e=>e,fun z0 z0 z0 z0 e=>e,fun z0 n=>.inl n,fun z0 z0 z0 e=>.inl e,fun z0 o e=>⟨o,e⟩⟩
def yC.w(s:yC no p p'):yC U p p':=⟨s.le,fun a o n z0 e=>s.keep a o n id e,s.new,s.mnew,s.there⟩
def yC.mu(s:yC U p p'){b:Addr}{o:Obj}(n:¬Mu p b)(e:p.s.heap.get? b=some o):¬Mu p' b:=fun z=>(s.new b z).elim n fun q=>nomatch q.symm.trans e
def yC.not(s:yC U p p')(q:p'.s.heap.get? a=none):p.s.heap.get? a=none:=by
 cases e:p.s.heap.get? a with
 | none=>rfl
 | some o=>exact(s.there a o e).elim fun o' e'=>nomatch q.symm.trans e'
def yC.trans(s:yC U p p')(t:yC U p' p''):yC U p p'' where
 le g n a e:=t.le g n a (s.le g n a e)
 keep a o n n' e:=t.keep a o (s.mu n e) n' (s.keep a o n n' e)
 new a z:=(t.new a z).elim (s.new a) fun q=>.inr (s.not q)
 mnew g n a z:=(t.mnew g n a z).elim (s.mnew g n a) fun q=>.inr (s.not q)
 there a o e:=(s.there a o e).elim fun o' e'=>t.there a o' e'
def yJ.keeps(G:yJ c p)(s:yC c.own p p'):iJ (NN c.Pv p) (NN c.Pv p') p.s.heap p'.s.heap:=fun a o n e =>
 ⟨fun z=>z.elim (s.mu (fun q=>n (.inl q)) e) fun q=>n (.inr q),s.keep a o (fun q=>n (.inl q)) (fun q=>n (.inr (G.own a q))) e⟩
def yG.step(G:yJ c p)(s:yC c.own p p')(r:c.V p x v):c.V p' x v:=r.mono s.le.g (G.keeps s)
def y7.step(G:yJ c p)(s:yC c.own p p')(r:y7 c p x v):y7 c p' x v:=by
 cases x <;> first | exact yG.step G s r | exact r.elim fun a r=>⟨a,s.le _ _ _ r.1,r.2⟩
def yG.tt(r:c.V p x v):y7 c p x v:=by
 cases x <;> first | exact r | exact r.2
def y7.gv(h:g9 x=true)(r:y7 c p x v):c.V p x v:=by
 cases x with
 | ref g n=>cases g with
  | true=>exact⟨rfl,r⟩
  | false=>cases h
 | _=>exact r
def y7.int{i:Int}(r:y7 c p (.int i) v):∃t,v=.int i t:=r
def y7.str{i:List Nat}(r:y7 c p (.str i) v):∃t,v=.str ⟨i.toArray⟩ t:=r
def yJ.fresh(G:yJ c p)(h:p.s.heap.get? a=none):¬NN c.Pv p a:=fun z =>
 z.elim (fun z=>uM z fun g n ob e z0=>(G.at_ g n a e).1.elim fun o q=>nomatch h.symm.trans q) fun z=>(G.priv a z).2.elim fun o q=>nomatch h.symm.trans q
def yI(h:Heap):h.get? h.objs.size=none:=by
 cases q:h.get? h.objs.size with
 | none=>rfl
 | some o=>exact absurd (Heap.lt_size q) (Nat.lt_irrefl _)
def sO{K:Type}[DecidableEq K]{knd:PySem.KeyKind c.X.prog c.X.w K}{kvs:List (K×Value)}{h h':Heap}(f:∀o,h.get? a=some o->h'.get? a=some o)(z:h.DictOf knd a kvs):h'.DictOf knd a kvs :=
 gE z fun o es ep z=>⟨o,es,ep,f o z.1,z.2⟩
def WD{xs:List (List V×Addr×Value)}{es:List (List V×V)}{h h':Heap}{m:Mp}{N:Addr->Prop}(f:∀o,h.get? a=some o->h'.get? a=some o)(z:h.DictOfH (dF c.X) a xs)(q:y6 (fun (e:List V×V) (x:List V×Addr×Value)=>x.1=e.1/\yG c.X m N h' (.tup e.1) (.ref x.2.1)/\yG c.X m N h' e.2 x.2.2) es xs):h'.DictOfH (dF c.X) a xs :=
 gE z fun o es' ep z=>⟨o,es',ep,f o z.1,z.2.1,z.2.2.1,z.2.2.2.1,fun x hx=>(q.right hx).elim fun e q=>⟨(z.2.2.2.2.1 x hx).1,q.1▸WQ 3 (q.1▸(z.2.2.2.2.1 x hx).1) q.2.1⟩,z.2.2.2.2.2⟩
def wM.to{A':Around}{env':Env}{Pv' own':Addr->Prop}(l:q1B p.m p'.m)(kv:∀x v,c.V p x v->yG c.X p'.m (NN Pv' p') p'.s.heap x v)(f:∀o,p.s.heap.get? a=some o->p'.s.heap.get? a=some o)(h:wM c p a ob):wM ⟨c.X,A',env',Pv',own'⟩ p' a ob:=by
 cases ob with
 | list l'=>exact v4 h fun xs n h=>⟨xs,n,f _ h.1,h.2.mono kv⟩
 | dI es=>exact h.elim fun kvs h=>⟨kvs,sO f h.1,h.2.mono fun x v z=>⟨z.1,kv _ _ z.2⟩⟩
 | dS es=>exact h.elim fun kvs h=>⟨kvs,sO f h.1,h.2.mono fun x v z=>⟨z.1,kv _ _ z.2⟩⟩
 | dT es=>exact h.elim fun xs h =>
   ⟨xs,WD f h.1 ((h.2.mono fun x v z=>⟨z.1,kv _ _ z.2.1,kv _ _ z.2.2⟩:y6 (fun (e:List V×V)(x:List V×Addr×Value)=>x.1=e.1/\yG c.X p'.m (NN Pv' p') p'.s.heap (.tup e.1) (.ref x.2.1)/\yG c.X p'.m (NN Pv' p') p'.s.heap e.2 x.2.2) es xs)),((h.2.mono fun x v z=>⟨z.1,kv _ _ z.2.1,kv _ _ z.2.2⟩:y6 (fun (e:List V×V)(x:List V×Addr×Value)=>x.1=e.1/\yG c.X p'.m (NN Pv' p') p'.s.heap (.tup e.1) (.ref x.2.1)/\yG c.X p'.m (NN Pv' p') p'.s.heap e.2 x.2.2) es xs))⟩
 | inst n d=>exact⟨h.1,h.2.elim fun b h=>⟨b,l _ _ h.1,f _ h.2⟩⟩
 | ns fs=>exact v4 h fun es n h=>⟨es,n,f _ h.1,h.2.mono fun x v z=>⟨z.1,z.2.1,kv _ _ z.2.2⟩⟩
 | _=>trivial
def wM.mono(l:q1B p.m p'.m)(k:iJ (NN c.Pv p) (NN c.Pv p') p.s.heap p'.s.heap)(f:∀o,p.s.heap.get? a=some o->p'.s.heap.get? a=some o)(h:wM c p a ob):wM c p' a ob :=
 h.to (A':=c.A) (env':=c.env) (Pv':=c.Pv) (own':=c.own) l (fun z0 z0 z=>yG.mono l k z) f
def yJ.grow(G:yJ c p){s:Shared}(k:∀b o,p.s.heap.get? b=some o->s.heap.get? b=some o)(g:s.gens=p.s.gens)(os:s.os=p.s.os):yJ c ⟨p.m,p.σ,s⟩/\yC no p ⟨p.m,p.σ,s⟩ :=
 have st:yC no p ⟨p.m,p.σ,s⟩:=⟨fun z0 z0 z0 e=>e,fun a o z0 z0 e=>k a o e,fun a n=>.inl n,fun z0 z0 z0 e=>.inl e,fun a o e=>⟨o,k a o e⟩⟩
 ⟨⟨fun b o e=>k b o (G.base b o e),fun g n ob e=>(G.rep g n ob e).elim fun a z=>⟨a,z.1,wM.mono (p:=p) (p':=⟨p.m,p.σ,s⟩) (fun z0 z0 e=>e) (G.keeps st.w) (k a) z.2⟩,G.non,G.inj,
  fun g n a e=>⟨(G.at_ g n a e).1.elim fun o q=>⟨o,k a o q⟩,(G.at_ g n a e).2⟩,fun a z=>⟨(G.priv a z).1,(G.priv a z).2.elim fun o q=>⟨o,k a o q⟩⟩,G.own,g.trans G.gens,os.trans G.os⟩,st⟩
end
def gO{α:Type}{x:Option α}{o:α}(h:x=none)(h':x=some o):False:=nomatch h.symm.trans h'
theorem bT{ob:Option Ob}:∀(l:xF)(n:Nat),jM (J8 ob l n) n=ob
 | [],0=>rfl
 | [],n+1=>bT [] n
 | _::_,0=>rfl
 | _::r,n+1=>bT r n
theorem cD{ob:Option Ob}:∀(l:xF)(n k:Nat),k≠n->jM (J8 ob l n) k=jM l k
 | [],0,0,h=>absurd rfl h
 | [],0,_+1,_=>rfl
 | [],_+1,0,_=>rfl
 | [],n+1,k+1,h=>cD [] n k fun e=>h (congrArg _ e)
 | _::_,0,0,h=>absurd rfl h
 | _::_,0,_+1,_=>rfl
 | _::_,_+1,0,_=>rfl
 | _::r,n+1,k+1,h=>cD r n k fun e=>h (congrArg _ e)
def dK{σ:St}{ob:Ob}:∀{g:Bool}{n:Nat},(σ.set ob g n).at g n=some ob
 | true,n=>bT _ n
 | false,n=>bT _ n
def d5{σ:St}{ob:Ob}:∀{g g':Bool}{n n':Nat},¬(g'=g/\n'=n)->(σ.set ob g n).at g' n'=σ.at g' n'
 | true,true,n,n',h=>cD _ _ _ fun e=>h ⟨rfl,e⟩
 | false,false,n,n',h=>cD _ _ _ fun e=>h ⟨rfl,e⟩
 | true,false,_,_,_=>rfl
 | false,true,_,_,_=>rfl
noncomputable def Mp.set(m:Mp)(g:Bool)(n:Nat)(a:Addr):Mp:=fun g' n'=>if g'=g/\n'=n then some a else m g' n'
section
variable{c:Fx}{p:Mt}{s:Shared}{a:Addr}{ob old:Ob}{g:Bool}{n:Nat}
def yJ.upd(G:yJ c p)(e:p.σ.at g n=some old)(ho:old≠.dead)(em:p.m g n=some a)(sb:Heap.SameBut a p.s.heap s.heap)(there:∃o,s.heap.get? a=some o)(gn:s.gens=p.s.gens)(os:s.os=p.s.os)
  (r:(∀x v,c.V p x v->c.V ⟨p.m,p.σ.set ob g n,s⟩ x v)->wM c ⟨p.m,p.σ.set ob g n,s⟩ a ob):yJ c ⟨p.m,p.σ.set ob g n,s⟩/\yC no p ⟨p.m,p.σ.set ob g n,s⟩:=by
 have ma:Mu p a:=⟨g,n,old,em,e,ho⟩;have st:yC no p ⟨p.m,p.σ.set ob g n,s⟩:=⟨fun z0 z0 z0 e=>e,fun b o z z0 q=>(sb.2 b fun y=>z (y▸ma)).trans q,fun b z=>.inl ?_,fun z0 z0 z0 e=>.inl e,fun b o q=>?_⟩
 ·have ne:∀b,p.s.heap.get? b≠none->b≠a->s.heap.get? b=p.s.heap.get? b:=fun b z0 z=>sb.2 b z;refine⟨⟨fun b o q=>?_,fun g' n' ob' q=>?_,fun g' n' q=>?_,G.inj,fun g' n' b q=>⟨?_,(G.at_ g' n' b q).2⟩,fun b z=>⟨(G.priv b z).1,?_⟩,G.own,gn.trans G.gens,os.trans G.os⟩,st⟩
  ·exact(sb.2 b fun y=>gO (G.at_ g n a em).2.1 (y▸q)).trans (G.base b o q)
  ·by_cases h:g'=g/\n'=n
   ·obtain⟨rfl,rfl⟩:=h;cases dK.symm.trans q;exact⟨a,em,r fun x v z=>yG.step G st.w z⟩
   ·rw[d5 h]at q;obtain⟨b,q1,q2⟩:=G.rep g' n' ob' q;exact⟨b,q1,q2.mono st.le.g (G.keeps st.w) fun o z=>(sb.2 b fun y=>h (G.inj _ _ _ _ _ q1 (y▸em))).trans z⟩
  ·by_cases h:g'=g/\n'=n
   ·obtain⟨rfl,rfl⟩:=h;cases dK.symm.trans q
   ·rw[d5 h]at q;exact G.non g' n' q
  ·exact(G.at_ g' n' b q).1.elim fun o z=>st.there b o z
  ·exact(G.priv b z).2.elim fun o z=>st.there b o z
 ·obtain⟨g',n',ob',z1,z2,z3⟩:=z
  by_cases h:g'=g/\n'=n
  ·refine qG fun ng=>?_;obtain⟨rfl,rfl⟩:=h;refine ng ?_;exact⟨_,_,old,z1,e,ho⟩
  ·exact⟨g',n',ob',z1,(d5 h).symm.trans z2,z3⟩
 ·by_cases y:b=a
  ·exact y▸there
  ·exact⟨o,(sb.2 b y).trans q⟩
def yJ.new_at(G:yJ c p)(hk:p.σ.at g n=none)(ha:p.s.heap.get? a=none)(k:∀b o,p.s.heap.get? b=some o->s.heap.get? b=some o)(there:∃o,s.heap.get? a=some o)(gn:s.gens=p.s.gens)(os:s.os=p.s.os)
  (r:(∀x v,c.V p x v->c.V ⟨p.m.set g n a,p.σ.set ob g n,s⟩ x v)->wM c ⟨p.m.set g n a,p.σ.set ob g n,s⟩ a ob):yJ c ⟨p.m.set g n a,p.σ.set ob g n,s⟩/\yC no p ⟨p.m.set g n a,p.σ.set ob g n,s⟩:=by
 have mn:=G.non g n hk;have na:∀{g' n' b},p.m g' n'=some b->b≠a:=fun z y=>(G.at_ _ _ _ z).1.elim fun o q=>gO ha (y▸q);have le:Z8 p.m (p.m.set g n a):=fun g' n' b z=>(if_neg fun h=>nomatch (h.1▸h.2▸z).symm.trans mn:p.m.set g n a g' n'=p.m g' n').trans z;have st:yC no p ⟨p.m.set g n a,p.σ.set ob g n,s⟩:=⟨le,fun b o z0 z0 q=>k b o q,fun b z=>?_,fun g' n' b z=>?_,fun b o q=>⟨o,k b o q⟩⟩
 ·have inv:∀{g' n' b},p.m.set g n a g' n'=some b->(g'=g/\n'=n/\b=a)\/(¬(g'=g/\n'=n)/\p.m g' n'=some b):=fun {g' n' b} z=>by
   unfold Mp.set at z
   by_cases h:g'=g/\n'=n
   ·rw[if_pos h]at z; exact .inl ⟨h.1,h.2,(qN z).symm⟩
   ·rw[if_neg h]at z; exact .inr ⟨h,z⟩
  refine⟨⟨fun b o q=>k b o (G.base b o q),fun g' n' ob' q=>?_,fun g' n' q=>?_,fun g1 n1 g2 n2 b z1 z2=>?_,fun g' n' b q=>?_,fun b z=>⟨(G.priv b z).1,(G.priv b z).2.elim fun o q=>⟨o,k b o q⟩⟩,G.own,gn.trans G.gens,os.trans G.os⟩,st⟩
  ·by_cases h:g'=g/\n'=n
   ·obtain⟨rfl,rfl⟩:=h;cases dK.symm.trans q;exact⟨a,if_pos ⟨rfl,rfl⟩,r fun x v z=>yG.step G st.w z⟩
   ·rw[d5 h]at q;obtain⟨b,q1,q2⟩:=G.rep g' n' ob' q;exact⟨b,le _ _ _ q1,q2.mono le.g (G.keeps st.w) fun o z=>k b o z⟩
  ·by_cases h:g'=g/\n'=n
   ·obtain⟨rfl,rfl⟩:=h;cases dK.symm.trans q
   ·rw[d5 h]at q;exact(if_neg h).trans (G.non g' n' q)
  ·rcases inv z1 with⟨h1,h2,h3⟩ | ⟨h1,h2⟩ <;> rcases inv z2 with⟨k1,k2,k3⟩ | ⟨k1,k2⟩
   ·exact⟨h1.trans k1.symm,h2.trans k2.symm⟩
   ·exact absurd h3 (na k2)
   ·exact absurd k3 (na h2)
   ·exact G.inj _ _ _ _ _ h2 k2
  ·rcases inv q with⟨_,_,rfl⟩ | ⟨_,h2⟩
   ·refine⟨there,?_,fun z=>(G.priv b z).2.elim fun o q=>nomatch ha.symm.trans q⟩;cases e:c.X.H.get? b with
    | none=>rfl
    | some o=>exact nomatch ha.symm.trans (G.base b o e)
   ·exact⟨(G.at_ _ _ _ h2).1.elim fun o q=>⟨o,k b o q⟩,(G.at_ _ _ _ h2).2⟩
 ·obtain⟨g',n',ob',z1,z2,z3⟩:=z
  by_cases h:g'=g/\n'=n
  ·refine .inr ?_
   have:some a=some b:=(if_pos h:p.m.set g n a g' n'=some a).symm.trans z1
   cases this; exact ha
  ·exact .inl ⟨g',n',ob',(if_neg h:p.m.set g n a g' n'=p.m g' n').symm.trans z1,(d5 h).symm.trans z2,z3⟩
 ·by_cases h:g'=g/\n'=n
  ·exact .inr ((qN ((if_pos h:p.m.set g n a g' n'=some a).symm.trans z))▸ha)
  ·exact .inl ((if_neg h:p.m.set g n a g' n'=p.m g' n').symm.trans z)
end
noncomputable def Mt.tok(p:Mt)(t:Nat):Mt:=⟨p.m,p.σ,{p.s with toks:=t}⟩
set_option genCtorIdx false in
structure q11 (env:Env):Prop where
 kind:env.scope.kind=.function
 glob:env.globals=mainGlobals
 blt:env.builtins=builtinsNs
 hasC:∀x,env.kindOf x=some .cell\/env.kindOf x=some .free->∃c,env.cells.lookup x=some c
set_option genCtorIdx false in
structure At (c:Fx) (ρ:y5) (p:Mt):Prop where
 g:yJ c p
 e:q11 c.env
 ns:∃m,p.s.heap.Ns c.env.locals m/\∀x v,ρ x=some v->x≠".0"->c.env.kindOf (tx x)=some .local->∃u,m (tx x)=some u/\y7 c p v u
 cells:∀x v,ρ x=some v->c.env.kindOf (tx x)=some .cell\/c.env.kindOf (tx x)=some .free->∃b u,c.env.cells.lookup (tx x)=some b/\p.s.heap.IsCell b (some u)/\y7 c p v u
 noL:¬Mu p c.env.locals
 noC:∀x b,c.env.cells.lookup x=some b->¬Mu p b/\∃v,p.s.heap.IsCell b v
section
variable{c:Fx}{ρ:y5}{p p':Mt}{U:Addr->Prop}{x:V}{v:Value}{t:Nat}
def dC{h h':Heap}{a:Addr}{m:Str->Option Value}(k:∀o,h.get? a=some o->h'.get? a=some o)(n:h.Ns a m):h'.Ns a m :=
 gE n fun o es ep n=>⟨o,es,ep,k o n.1,n.2⟩
def kN{h h':Heap}{a:Addr}{m:Option Value}(k:∀o,h.get? a=some o->h'.get? a=some o)(n:h.IsCell a m):h'.IsCell a m :=
 n.elim fun o n=>⟨o,k o n.1,n.2⟩
def kT{h:Heap}{a:Addr}{m:Str->Option Value}(n:h.Ns a m):∃o,h.get? a=some o:=gE n fun o es ep n=>⟨o,n.1⟩
def y7.to{c':Fx}(l:Z8 p.m p'.m)(kv:∀x v,c.V p x v->c'.V p' x v)(r:y7 c p x v):y7 c' p' x v:=by
 cases x <;> first | exact kv _ _ r | exact r.elim fun a r=>⟨a,l _ _ _ r.1,r.2⟩
def At.to{A':Around}{Pv' own':Addr->Prop}(h:At c ρ p)(G:yJ ⟨c.X,A',c.env,Pv',own'⟩ p')(l:Z8 p.m p'.m)(kv:∀x v,c.V p x v->yG c.X p'.m (NN Pv' p') p'.s.heap x v)(kL:∀o,p.s.heap.get? c.env.locals=some o->p'.s.heap.get? c.env.locals=some o)
  (kC:∀x b,c.env.cells.lookup x=some b->∀o,p.s.heap.get? b=some o->p'.s.heap.get? b=some o) (mu:∀a,Mu p' a->Mu p a\/p.s.heap.get? a=none):At ⟨c.X,A',c.env,Pv',own'⟩ ρ p':=by
 have nm:∀a o,¬Mu p a->p.s.heap.get? a=some o->¬Mu p' a:=fun a o n e z=>(mu a z).elim n fun q=>nomatch q.symm.trans e;refine⟨G,h.e,h.ns.elim fun m n=>⟨m,dC kL n.1,fun x v e z k=>(n.2 x v e z k).elim fun u q=>⟨u,q.1,(fun x v r=>r.to l kv:∀x v,y7 c p x v->y7 ⟨c.X,A',c.env,Pv',own'⟩ p' x v) _ _ q.2⟩⟩,fun x v e k=>v4 (h.cells x v e k) fun b u q=>⟨b,u,q.1,kN (kC _ _ q.1) q.2.1,(fun x v r=>r.to l kv:∀x v,y7 c p x v->y7 ⟨c.X,A',c.env,Pv',own'⟩ p' x v) _ _ q.2.2⟩,?_,fun x b e=>⟨?_,?_⟩⟩
 ·exact h.ns.elim fun m n=>(kT n.1).elim fun o q=>nm _ o h.noL q
 ·exact(h.noC x b e).2.elim fun v q=>q.elim fun o q=>nm _ o (h.noC x b e).1 q.1
 ·exact(h.noC x b e).2.elim fun v q=>⟨v,kN (kC x b e) q⟩
def At.step(h:At c ρ p)(s:yC no p p')(G:yJ c p'):At c ρ p' :=
 At.to (A':=c.A) (Pv':=c.Pv) (own':=c.own) h G s.le (fun z0 z0 r=>yG.step h.g s.w r) (fun o q=>s.keep _ o h.noL id q) (fun x b e o q=>s.keep b o (h.noC x b e).1 id q) s.new
def yC.tok:yC U p (p.tok t):=⟨fun z0 z0 z0 e=>e,fun z0 z0 z0 z0 e=>e,fun z0 n=>.inl n,fun z0 z0 z0 e=>.inl e,fun z0 o e=>⟨o,e⟩⟩
def At.tok(h:At c ρ p):At c ρ (p.tok t):=h.step .tok ⟨h.g.base,h.g.rep,h.g.non,h.g.inj,h.g.at_,h.g.priv,h.g.own,h.g.gens,h.g.os⟩
end
abbrev wA(c:Fx){α:Type}(t:Sem α)(R:α->Shared->Prop)(s:Shared):Prop:=wpAny (model c.X.prog c.X.w) c.A t R (fun z0 z0=>False) s
def Go(c:Fx)(ρ:y5)(p:Mt)(Q:Kv)(R:Value->Shared->Prop):Prop:=∀p' x v,At c ρ p'->yC c.own p p'->y7 c p' x v->Q x p'.σ->R v p'.s
def q4S(c:Fx)(ρ:y5)(p:Mt)(Q:Kb)(R:Bool->Shared->Prop):Prop:=∀p' b,At c ρ p'->yC c.own p p'->Q b p'.σ->R b p'.s
def q81(c:Fx)(ρ:y5)(p:Mt)(Q:Kl)(R:List Value->Shared->Prop):Prop:=∀p' x v,At c ρ p'->yC c.own p p'->y6 (c.V p') x v->Q x p'.σ->R v p'.s
def SE(c:Fx)(ρ:y5)(t:Sem Value)(P:Kv->St->Prop):Prop:=∀p Q R,At c ρ p->P Q p.σ->Go c ρ p Q R->wA c t R p.s
def ST(c:Fx)(ρ:y5)(t:Sem Bool)(P:Kb->St->Prop):Prop:=∀p Q R,At c ρ p->P Q p.σ->q4S c ρ p Q R->wA c t R p.s
def SL(c:Fx)(ρ:y5)(t:Sem (List Value))(P:Kl->St->Prop):Prop:=∀p Q R,At c ρ p->P Q p.σ->q81 c ρ p Q R->wA c t R p.s
section
variable{c:Fx}{ρ:y5}{p:Mt}{C:yA}{Q:Kv}{R:Value->Shared->Prop}{x y:V}{u v:Value}{t:Nat}
def Go.here(k:Go c ρ p Q R)(h:At c ρ p)(r:c.V p x v)(q:Q x p.σ):R v {p.s with toks:=t}:=k (p.tok t) x v h.tok .tok r.tt q
def Go.hereT(k:Go c ρ p Q R)(h:At c ρ p)(r:y7 c p x v)(q:Q x p.σ):R v p.s:=k p x v h .refl r q
def Go.on{p':Mt}(k:Go c ρ p Q R)(s:yC c.own p p'):Go c ρ p' Q R:=fun p'' x v h t=>k p'' x v h (s.trans t)
def C7{k:Nat}{pos:Pos}:SE c ρ (eval (.Constant .none k pos) c.env) (we C (.c .none) ρ):=fun p Q R h q k=>wpAny_Constant_none (k.hereT h (x:=.none) rfl q)
def C3{b:Bool}{k:Nat}{pos:Pos}:SE c ρ (eval (.Constant (.bool b) k pos) c.env) (we C (.c (.bool b)) ρ):=fun p Q R h q k=>wpAny_Constant_bool (k.hereT h (x:=.bool b) rfl q)
def ON{i:Int}{k:Nat}{pos:Pos}:SE c ρ (eval (.Constant (.int i) k pos) c.env) (we C (.c (.int i)) ρ):=fun p Q R h q k=>wpAny_Constant_int (k.here h (x:=.int i) ⟨_,rfl⟩ q)
def OX{s:PySem.Str}{k:Nat}{pos:Pos}:SE c ρ (eval (.Constant (.str s) k pos) c.env) (we C (.c (.str s.cps.toList)) ρ):=fun p Q R h q k=>wpAny_Constant_str (k.here h (x:=.str s.cps.toList) ⟨_,rfl⟩ q)
def oR{x:Option V}{K:V->Prop}(h:ll x K):∃v,x=some v/\K v:=by
 cases x with
 | none=>exact h.elim
 | some v=>exact⟨v,rfl,h⟩
def OP{x:String}{pos:Pos}(hd:(tx x==("__debug__":Str))=false) (hc:(tx x==("__classdict__":Str))=false) (h0:x≠".0") (hk:c.env.kindOf (tx x)=some .local\/c.env.kindOf (tx x)=some .cell\/c.env.kindOf (tx x)=some .free) :
  SE c ρ (eval (.Name (tx x) pos) c.env) (we C (.loc x) ρ):=fun p Q R h q k=>by
 refine qG fun ng=>?_;refine wI (oR q) fun v e q=>?_;refine ng ?_;refine wpAny_Name ?_ hd;rcases hk with z | z
 ·exact h.ns.elim fun m n=>(n.2 x v e h0 z).elim fun u n2=>wpAny_loadName_local h.e.kind z n.1 n2.1 (k.hereT h n2.2 q)
 ·exact v4 (h.cells x v e z) fun b u n=>z.elim (fun z=>wpAny_loadName_cell h.e.kind z n.1 n.2.1 (k.hereT h n.2.2 q)) fun z=>wpAny_loadName_free h.e.kind z n.1 n.2.1 (k.hereT h n.2.2 q) hc
def K3{K:Int->Prop}{P:V->Prop}(h:yN x K)(f:∀i,K i->P (.int i)):P x:=by
 cases x <;> first | exact h.elim | exact f _ h
def K4{K:List Nat->Prop}{P:V->Prop}(h:vC x K)(f:∀i,K i->P (.str i)):P x:=by
 cases x <;> first | exact h.elim | exact f _ h
def iT{K:List V->Prop}{P:V->Prop}(h:sF x K)(f:∀i,K i->P (.tup i)):P x:=by
 cases x <;> first | exact h.elim | exact f _ h
def j5{K:Int->Prop}(h:yN x K):∃i,x=.int i/\K i:=K3 (P:=fun x=>∃i,x=.int i/\K i) h fun i q=>⟨i,rfl,q⟩
def K5{K:List Nat->Prop}(h:vC x K):∃i,x=.str i/\K i:=K4 (P:=fun x=>∃i,x=.str i/\K i) h fun i q=>⟨i,rfl,q⟩
def K6{K:List V->Prop}(h:sF x K):∃i,x=.tup i/\K i:=iT (P:=fun x=>∃i,x=.tup i/\K i) h fun i q=>⟨i,rfl,q⟩
def nG{K:Int->Prop}{P:Value->Prop}(h:yN x K)(r:y7 c p x u)(f:∀i t,K i->P (.int i t)):P u :=
 K3 (P:=fun x=>y7 c p x u->P u) h (fun i q r=>r.elim fun t e=>e▸f i t q) r
def U5{K:List Nat->Prop}{P:Value->Prop}(h:vC x K)(r:y7 c p x u)(f:∀i t,K i->P (.str ⟨i.toArray⟩ t)):P u :=
 K4 (P:=fun x=>y7 c p x u->P u) h (fun i q r=>r.elim fun t e=>e▸f i t q) r
def vW{K:Int->Int->Prop}{P:Value->Value->Prop}(h:yN x fun i=>yN y (K i))(r:y7 c p x u)(s:y7 c p y v)(f:∀i t j t',K i j->P (.int i t) (.int j t')):P u v :=
 nG (P:=fun u=>P u v) h r fun i t h=>nG (P:=P (.int i t)) h s (f i t)
def JI{K:List Nat->List Nat->Prop}{P:Value->Value->Prop}(h:vC x fun i=>vC y (K i))(r:y7 c p x u)(s:y7 c p y v)(f:∀i t j t',K i j->P (.str ⟨i.toArray⟩ t) (.str ⟨j.toArray⟩ t')):P u v :=
 U5 (P:=fun u=>P u v) h r fun i t h=>U5 (P:=P (.str ⟨i.toArray⟩ t)) h s (f i t)
def bY{b:Bool}{X:Prop}(h:ck b X):b=true:=by
 cases b <;> first | exact h.elim | exact rfl
def vF{b:Bool}{X:Prop}(h:ck b X):X:=by
 cases b <;> first | exact h.elim | exact h
def xY{b:Bool}{X:Prop}(h:ck b X):b=true/\X:=⟨bY h,vF h⟩
def OS{e:Expr}{ex:Ex}{pos:Pos}(H:SE c ρ (eval e c.env) (we C ex ρ)):SE c ρ (eval (.UnaryOp .USub e pos) c.env) (we C (.neg ex) ρ):=fun p Q R h q k =>
 wpAny_UnaryOp (H p _ _ h q fun p' x v h' s r q=>nG (P:=fun v=>wA c (unaryOp .USub v) R p'.s) q r fun i t q=>neg_int (Go.here (k.on s) h' (x:=.int (-i)) ⟨_,rfl⟩ q))
end
noncomputable def Q2:Op->Operator
 | .add=>.Add
 | .sub=>.Sub
 | .mul=>.Mult
 | .mod=>.Mod
 | .fdiv=>.FloorDiv
 | .addS=>.Add
 | .mulS=>.Mult
 | .addT=>.Add
 | .mulL=>.Mult
def S4{a:Int}(h:Z3 a):a.natAbs<2 ^ 63:=by
 cases a with
 | ofNat n=>exact Nat.lt_trans (zI.mp (h.2:((n:Nat):Int)<((4611686018427387904:Nat):Int))) (by decide)
 | negSucc n=>exact qI (Int.ofNat_le.mp (Int.neg_le_neg_iff.mp (h.1:-((4611686018427387904:Nat):Int)<=-((n+1:Nat):Int)))) (by decide)
def WT{a:Int}(h:Z3 a):a.natAbs.log2<=62:=by
 by_cases z:a.natAbs=0
 ·rw[z]; exact zA _
 ·exact Nat.le_of_lt_succ ((Nat.log2_lt z).mpr (S4 h))
def MU{a:Int}(h:Z3 a):Builtin.Int.intBits a<=64:=by
 unfold Builtin.Int.intBits
 split
 ·exact zA _
 ·exact qF (z7 (WT h)) (by decide)
def TC{a b:Int}(h:Z3 b):Builtin.divisionGoesByPylong a b=false:=by
 have:=WT h
 unfold Builtin.divisionGoesByPylong;dsimp only;rw[Bool.and_eq_false_iff]
 left
 refine decide_eq_false ?_
 split
 ·decide
 ·exact fun q=>absurd (qQ q (qR (Nat.div_le_div_right this) 1)) (by decide)
def MK{s:Shared}{A:Around}{t b:Addr}{vs ws:List Value}{Q:Value->Shared->Prop}{E:Value->Shared->Prop}{prog:Program}{w:World}(ht:s.heap.IsTuple t vs.toArray)(hb:s.heap.IsTuple b ws.toArray)
  (h0:vs=[]->Q (.ref b) s) (h1:vs≠[]->ws=[]->Q (.ref t) s)
  (h2:Q (.ref s.heap.objs.size) {s with heap:=s.heap.push {cls:=.type "tuple",data:=.seq (vs++ws).toArray}})
  (hsz:vs.length+ws.length<=sizeLine):wpAny (model prog w) A (binaryOp .Add (.ref t) (.ref b)) Q E s:=by
 refine qG fun ng=>?_;obtain⟨⟨cls,dd,data,sl⟩,ho,hc,n,hd⟩:=id ht;obtain⟨⟨cls2,dd2,data2,sl2⟩,ho2,hc2,n2,hd2⟩:=id hb;refine ng ?_;subst hc; cases hd; cases hc2; cases hd2
 by_cases hv:vs=[]
 ·exact concat_meets ⟨_,ho,rfl⟩ ⟨_,ho2,rfl⟩ noFill_tuple_add seq_tuple_add PySem.F.slot_tuple_add PySem.F.entry_tuple_add (PySem.F.args_tuple_add_2 _ _)
   (tuple_addW0 t b vs.toArray ws.toArray n n2 dd dd2 sl sl2 (by rw[hv]; rfl)) ⟨ho,ho2,h0 hv⟩
 ·by_cases hw:ws=[]
  ·exact concat_meets ⟨_,ho,rfl⟩ ⟨_,ho2,rfl⟩ noFill_tuple_add seq_tuple_add PySem.F.slot_tuple_add PySem.F.entry_tuple_add (PySem.F.args_tuple_add_2 _ _)
    (tuple_addW1 t b vs.toArray ws.toArray n n2 dd dd2 sl sl2 (by simpa using hv) (by rw[hw]; rfl)) ⟨ho,ho2,h1 hv hw⟩
  ·exact concat_meets ⟨_,ho,rfl⟩ ⟨_,ho2,rfl⟩ noFill_tuple_add seq_tuple_add PySem.F.slot_tuple_add PySem.F.entry_tuple_add (PySem.F.args_tuple_add_2 _ _)
    (tuple_addW2 t b vs.toArray ws.toArray n n2 dd dd2 sl sl2 (by simpa using hv) (by simpa using hw) hsz) ⟨ho,ho2,List.append_toArray vs ws▸h2⟩
section
variable{c:Fx}{ρ:y5}{p:Mt}{C:yA}{Q:Kv}{R:Value->Shared->Prop}{x y:V}{u v:Value}{t:Nat}{l:List V}{vs:List Value}
def wE{X:Prop}(h:v9 l X):l.length<=lim/\X:=⟨z8 (xY h).1,(xY h).2⟩
def E8{l:List Nat}{X:Prop}(h:ZU l X):l.length<=lim/\X:=⟨z8 (xY h).1,(xY h).2⟩
def At.push(h:At c ρ p)(o:Obj):At c ρ ⟨p.m,p.σ,{p.s with heap:=p.s.heap.push o}⟩/\yC no p ⟨p.m,p.σ,{p.s with heap:=p.s.heap.push o}⟩ :=
 ⟨h.step (h.g.grow (s:={p.s with heap:=p.s.heap.push o}) (fun z0 z0 e=>zX _ e) rfl rfl).2 (h.g.grow (s:={p.s with heap:=p.s.heap.push o}) (fun z0 z0 e=>zX _ e) rfl rfl).1,(h.g.grow (s:={p.s with heap:=p.s.heap.push o}) (fun z0 z0 e=>zX _ e) rfl rfl).2⟩
def Go.tuple(k:Go c ρ p Q R)(h:At c ρ p)(r:y6 (c.V p) l vs)(q:Q (.tup l) p.σ):R (.ref p.s.heap.objs.size) {p.s with heap:=p.s.heap.push {cls:=.type "tuple",data:=.seq vs.toArray}} :=
 have g:=h.push {cls:=.type "tuple",data:=.seq vs.toArray}
 k _ (.tup l) _ g.1 g.2.w ⟨vs,dH (r.mono fun x v z=>yG.step h.g g.2.w z),_,rfl,h.g.fresh (yI _),_,zY _ rfl,rfl,0,rfl⟩ q
def Go.frozen(k:Go c ρ p Q R)(h:At c ρ p)(r:y6 (c.V p) l vs)(q:Q (.lst l) p.σ):R (.ref p.s.heap.objs.size) {p.s with heap:=p.s.heap.push {cls:=.type "list",data:=.seq vs.toArray}} :=
 have g:=h.push {cls:=.type "list",data:=.seq vs.toArray}
 k _ (.lst l) _ g.1 g.2.w ⟨vs,dH (r.mono fun x v z=>yG.step h.g g.2.w z),_,rfl,h.g.fresh (yI _),0,zY _ rfl⟩ q
def y7.tup(r:y7 c p (.tup l) v):∃xs a,v=.ref a/\¬NN c.Pv p a/\p.s.heap.IsTuple a (List.toArray xs)/\y6 (c.V p) l xs :=
 r.elim fun xs r=>r.2.elim fun a z=>⟨xs,a,z.1,z.2.1,z.2.2,gR r.1⟩
def y7.lst(r:y7 c p (.lst l) v):∃xs a n,v=.ref a/\¬NN c.Pv p a/\p.s.heap.get? a=some (seqObj "list" (List.toArray xs) n)/\y6 (c.V p) l xs :=
 r.elim fun xs r=>r.2.elim fun a z=>z.2.2.elim fun n e=>⟨xs,a,n,z.1,z.2.1,e,gR r.1⟩
theorem q46{α β:Type}{T:α->β->Prop}{x:α}{y:β}(h:T x y):∀n,y6 T (List.replicate n x) (List.replicate n y)
 | 0=>trivial
 | n+1=>⟨h,q46 h n⟩
def LP{a b:Bool}(h:a=true)(h':b=true):(a&&b)=true:=by cases h; exact h'
def WY{α β:Type}{T:α->β->Prop}{l:List α}{m:List β}(a:y6 T l m)(e:m=[]):l=[]:=by
 subst e;cases l with
 | nil=>rfl
 | cons _ _=>exact a.elim
def q6L{s:PySem.Str}:MulOk s 0:=⟨rfl,fun h=>absurd (by decide) h,fun h=>absurd (by decide) h⟩
def q6M{s:PySem.Str}:MulOk s 1:=⟨rfl,fun z0 h=>Bool.noConfusion h,fun z0 h=>Bool.noConfusion h⟩
theorem A3{α:Type}{w:α}:∀(n:Nat)(acc:List α),(List.replicate n #[w]).foldl (fun x y=>x++y) acc.toArray=(acc++List.replicate n w).toArray
 | 0,acc=>congrArg List.toArray (qS acc).symm
 | n+1,acc=>(A3 (w:=w) n (acc++[w])▸congrArg (fun x=>List.foldl _ x (List.replicate n #[w])) (List.append_toArray acc [w])).trans (congrArg List.toArray (qZ acc [w] _))
def RA{s:Shared}{A:Around}{l:Addr}{items:Array Value}{k:Nat}{x:Int}{u:Tok}{Q:Value->Shared->Prop}{E:Value->Shared->Prop}{prog:Program}{w:World}
  (hl:s.heap.get? l=some (seqObj "list" items k)) (hlo:-(2 ^ 63:Int)<=x) (hhi:x<2 ^ 63) (hsz:items.size*x.toNat<=2 ^ 24)
  (h:Q (.ref s.heap.objs.size) {s with heap:=s.heap.push {cls:=.type "list",data:=.seq (List.foldl (fun x1 x2=>x1++x2) #[] (List.replicate (if items.isEmpty=true then 0 else x.toNat) items))}}) :
  wpAny (model prog w) A (binaryOp .Mult (.ref l) (.int x u)) Q E s :=
 wpAny_binaryOp_repeat_ref (T:="list") (U:="int") (by decide) ⟨_,hl,rfl⟩ (fun s'=>typeIs_int s' x u) noFill_list_mul F.fills_int_mul F.slot_int_rmul repeat_list F.slot_int_index.lookup
  (call_meets F.slot_int_rmul (typeIs_int s x u) F.entry_int_rmul (F.args_int_rmul_2 _ _) (int___rmul___int_list x u l items k)
   ⟨hl,rfl,⟨_,hl,rfl⟩,call_meets F.slot_list_mul ⟨_,hl,rfl⟩ F.entry_list_mul (F.args_list_mul_2 _ _)
    (AutoListH.list___mul___list_int_3 l items k x u (fun z=>by rw[show Builtin.List.listFitsIndex x=true from LP (zU hlo) (zU hhi)]at z; cases z) (Nat.not_lt_of_le (qF hsz (by decide))) (fun z=>Nat.not_lt_of_le hsz (zT z)))
    ⟨hl,h⟩⟩)
def MI{i j:List Nat}{t t':Tok}(h:At c ρ p)(q:ZU (i++j) (Q (.str (i++j)) p.σ))(k:Go c ρ p Q R):wA c (binaryOp .Add (.str ⟨i.toArray⟩ t) (.str ⟨j.toArray⟩ t')) R p.s :=
 add_str (fun t' tk=>k.here h (x:=.str (i++j)) ⟨t',congrArg (Value.str · t') (congrArg PySem.Str.mk (List.append_toArray i j))⟩ (vF q)) (qF (qM▸z8 (bY q)) (by decide))
def R9{i:List Nat}{t t':Tok}(h:At c ρ p)(k:Go c ρ p Q R):∀{j:Int},ZU i (match j with
  | .ofNat 0=>Q (.str []) p.σ
  | .ofNat 1=>Q (.str i) p.σ
  | _=>False)->wA c (binaryOp .Mult (.str ⟨i.toArray⟩ t) (.int j t')) R p.s:=fun {j} q=>by
 have q:=vF q;cases j with
 | negSucc n=>exact q.elim
 | ofNat n=>cases n with
  | zero=>exact SB.mul q6L fun t' tk=>k.here h (x:=.str []) ⟨t',rfl⟩ q
  | succ n=>cases n with
   | zero=>exact SB.mul q6M fun t' tk=>k.here h (x:=.str i) ⟨t',rfl⟩ q
   | succ n=>exact q.elim
def MJ{i j:List V}{u w:Value}(h:At c ρ p)(r:y7 c p (.tup i) u)(s:y7 c p (.tup j) w)(q:v9 (i++j) (Q (.tup (i++j)) p.σ))(k:Go c ρ p Q R):wA c (binaryOp .Add u w) R p.s:=by
 have z:=(wE q).1;have q:=vF q;obtain⟨xs,a,rfl,n,t,e⟩:=r.tup;obtain⟨ys,b,rfl,n',t',e'⟩:=s.tup;refine MK t t' (fun w=>?_) (fun z0 w=>?_) (k.tuple h (e.append e') q) ?_
 ·cases WY e w; exact k.hereT h s q
 ·cases WY e' w; exact k.hereT h r (qS i▸q)
 ·rw[<-e.length,<-e'.length,<-qM]; exact qF z (by decide)
def R8{v:V}{n:Nat}{u:Value}{t':Tok}(h:At c ρ p)(r:y7 c p (.lst [v]) u)(z:n<=lim)(q:Q (.lst (List.replicate n v)) p.σ)(k:Go c ρ p Q R):wA c (binaryOp .Mult u (.int n t')) R p.s:=by
 obtain⟨xs,a,m,rfl,n',t,e⟩:=r.lst;cases xs with
 | nil=>exact e.elim
 | cons w xs=>cases xs with
  | cons _ _=>exact e.2.elim
  | nil=>exact RA t (Int.le_trans (by decide) (zD n)) (Int.lt_of_le_of_lt (Int.ofNat_le.mpr z) (by decide)) (show 1*n<=2 ^ 24 from(Nat.one_mul n).symm▸qF z (show lim<=2 ^ 24 by decide)) (A3 (w:=w) n []▸k.frozen h (q46 e.1 n) q)
def MW{u w:Value}(h:At c ρ p)(r:y7 c p x u)(s:y7 c p y w)(k:Go c ρ p Q R)(op:Op)(q:ZE op x y (kq Q p.σ)):wA c (binaryOp (Q2 op) u w) R p.s:=by
 cases op with
 | add=>exact vW (P:=fun u w=>wA c (binaryOp .Add u w) R p.s) q r s fun i t j t' q=>add_int (k.here h (x:=.int (i+j)) ⟨_,rfl⟩ q)
 | sub=>exact vW (P:=fun u w=>wA c (binaryOp .Sub u w) R p.s) q r s fun i t j t' q=>sub_int (k.here h (x:=.int (i-j)) ⟨_,rfl⟩ q)
 | mul=>exact vW (P:=fun u w=>wA c (binaryOp .Mult u w) R p.s) q r s fun i t j t' q=>mul_int (k.here h (x:=.int (i*j)) ⟨_,rfl⟩ q.2.2) (.of_left (MU q.1))
 | mod=>exact vW (P:=fun u w=>wA c (binaryOp .Mod u w) R p.s) q r s fun i t j t' q=>mod_int' q.1 (k.here h (x:=.int (i.fmod j)) ⟨_,rfl⟩ q.2)
 | fdiv=>exact vW (P:=fun u w=>wA c (binaryOp .FloorDiv u w) R p.s) q r s fun i t j t' q=>floordiv_int q.1 (k.here h (x:=.int (i.fdiv j)) ⟨_,rfl⟩ q.2.2) (.inl (TC q.2.1))
 | addS=>exact JI (P:=fun u w=>wA c (binaryOp .Add u w) R p.s) q r s fun i t j t' q=>MI h q k
 | mulS=>exact U5 (P:=fun u=>wA c (binaryOp .Mult u w) R p.s) q r fun i t q=>nG (P:=fun w=>wA c (binaryOp .Mult (.str ⟨i.toArray⟩ t) w) R p.s) q s fun j t' q=>R9 h k q
 | addT=>exact iT (P:=fun x=>y7 c p x u->wA c (binaryOp .Add u w) R p.s) q (fun i q r=>iT (P:=fun y=>y7 c p y w->wA c (binaryOp .Add u w) R p.s) q (fun j q s=>MJ h r s q k) s) r
 | mulL=>exact nG (P:=fun w=>wA c (binaryOp .Mult u w) R p.s) q s fun j t' q=>v4 q fun v n q=>by obtain⟨rfl,rfl,z,q⟩:=q; exact R8 h r z q k
def OK{op:Op}{l r:Expr}{a b:Ex}{pos:Pos}(H:SE c ρ (eval l c.env) (we C a ρ))(H':SE c ρ (eval r c.env) (we C b ρ)):SE c ρ (eval (.BinOp l (Q2 op) r pos) c.env) (we C (.bin op a b) ρ):=fun p Q R h q k =>
 wpAny_BinOp (H p _ _ h q fun p1 x u h1 s1 r1 q1=>H' p1 _ _ h1 q1 fun p2 y w h2 s2 r2 q2=>MW h2 (r1.step h1.g s2) r2 (k.on (s1.trans s2)) op q2)
end
end
section
noncomputable def kA:List (String×V):=[
 ("ANY",(.int 0)),
 ("ERR",(.int 13)),
 ("E_NEED",(.int 0)),
 ("E_OPT",(.int 1)),
 ("E_REST",(.int 2)),
 ("E_SPREAD",(.int 3)),
 ("FALSE_T",(.int 8)),
 ("FIRST_ROWS",(.tup [(.tup [(.int 1),(.str [97,110,121])]),(.tup [(.int 1),(.str [117,110,107,110,111,119,110])]),(.tup [(.int 1),(.str [110,101,118,101,114])]),(.tup [(.int 1),(.str [118,111,105,100])]),(.tup [(.int 1),(.str [117,110,100,101,102,105,110,101,100])]),(.tup [(.int 1),(.str [110,117,108,108])]),(.tup [(.int 1),(.str [115,116,114,105,110,103])]),(.tup [(.int 1),(.str [110,117,109,98,101,114])]),(.tup [(.int 2),(.int 0),(.int 0)]),(.tup [(.int 2),(.int 1),(.int 0)]),(.tup [(.int 1),(.str [111,98,106,101,99,116])]),(.tup [(.int 8),(.tup []),(.tup []),(.tup []),(.tup []),(.tup []),(.int 0)]),(.tup [(.int 6),(.tup [(.int 8),(.int 9)])]),(.tup [(.int 1),(.str [101,114,114,111,114])]),(.tup [(.int 2),(.int 0),(.int 1)]),(.tup [(.int 2),(.int 1),(.int 1)])])),
 ("FRESH_F",(.int 14)),
 ("FRESH_T",(.int 15)),
 ("Finder",(.fn "Finder")),
 ("KID_SPANS",.spans),
 ("MARKED_ROWS",(.tup [(.int 2),(.int 3),(.int 4),(.int 5),(.int 8)])),
 ("MAX_UNION",(.int 400)),
 ("MOST_ROUNDS",(.int 200)),
 ("MOST_SEEK",(.int 24)),
 ("MOST_SHAPES",(.int 40)),
 ("NEVER",(.int 2)),
 ("NULLT",(.int 5)),
 ("NUMBER",(.int 7)),
 ("STRING",(.int 6)),
 ("TRUE_T",(.int 9)),
 ("Thin",(.fn "Thin")),
 ("TypeTable",(.fn "TypeTable")),
 ("UNDEF",(.int 4)),
 ("UNKNOWN",(.int 1)),
 ("Y_ALIAS",(.int 19)),
 ("Y_ARRAY",(.int 11)),
 ("Y_COND",(.int 16)),
 ("Y_ENUM",(.int 5)),
 ("Y_INTER",(.int 7)),
 ("Y_KEY",(.int 1)),
 ("Y_MAPPED",(.int 17)),
 ("Y_NUM",(.int 4)),
 ("Y_OBJ",(.int 8)),
 ("Y_PARAM",(.int 10)),
 ("Y_REF",(.int 9)),
 ("Y_SIG",(.int 13)),
 ("Y_STR",(.int 3)),
 ("Y_TPL",(.int 18)),
 ("Y_TUPLE",(.int 12)),
 ("Y_UNION",(.int 6)),
 ("_law_aim",(.fn "_law_aim")),
 ("_law_aims",(.fn "_law_aims")),
 ("_law_apart",(.fn "_law_apart")),
 ("_law_fixed",(.fn "_law_fixed")),
 ("_law_forms",(.fn "_law_forms")),
 ("_law_get",(.fn "_law_get")),
 ("_law_gift",(.fn "_law_gift")),
 ("_law_join",(.fn "_law_join")),
 ("_law_keep",(.fn "_law_keep")),
 ("_law_kind",(.fn "_law_kind")),
 ("_law_list",(.fn "_law_list")),
 ("_law_read",(.fn "_law_read")),
 ("_law_target",(.fn "_law_target")),
 ("_law_text",(.fn "_law_text")),
 ("_law_unit",(.fn "_law_unit")),
 ("_law_walk",(.fn "_law_walk")),
 ("_law_word",(.fn "_law_word")),
 ("add_undef",(.fn "add_undef")),
 ("any",(.blt "any")),
 ("array_type",(.fn "array_type")),
 ("close_pairs",(.fn "close_pairs")),
 ("elem_read",(.fn "elem_read")),
 ("free_params",(.fn "free_params")),
 ("infer_with",(.fn "infer_with")),
 ("inner_kids",(.fn "inner_kids")),
 ("is_fresh",(.fn "is_fresh")),
 ("is_matched",(.fn "is_matched")),
 ("join_bools",(.fn "join_bools")),
 ("kind_of",(.fn "kind_of")),
 ("kindfind_list_of",(.fn "kindfind_list_of")),
 ("kindplaces_fixed_back",(.fn "kindplaces_fixed_back")),
 ("kindplaces_fixed_front",(.fn "kindplaces_fixed_front")),
 ("kindplaces_has_mark",(.fn "kindplaces_has_mark")),
 ("kindplaces_needed_length",(.fn "kindplaces_needed_length")),
 ("last_mark",(.fn "last_mark")),
 ("len",(.blt "len")),
 ("lengths_apart",(.fn "lengths_apart")),
 ("meet_parts_of",(.fn "meet_parts_of")),
 ("min",(.blt "min")),
 ("naked_pid",(.fn "naked_pid")),
 ("names_infer",(.fn "names_infer")),
 ("needed_to_last",(.fn "needed_to_last")),
 ("new_param",(.fn "new_param")),
 ("num_type",(.fn "num_type")),
 ("one_rest",(.fn "one_rest")),
 ("parts_of",(.fn "parts_of")),
 ("range",(.blt "range")),
 ("reached",(.fn "reached")),
 ("regular",(.fn "regular")),
 ("regular_one",(.fn "regular_one")),
 ("regular_twin",(.fn "regular_twin")),
 ("row_binds",(.fn "row_binds")),
 ("row_elem",(.fn "row_elem")),
 ("row_kids",(.fn "row_kids")),
 ("same_decl",(.fn "same_decl")),
 ("seek",(.fn "seek")),
 ("seek_array",(.fn "seek_array")),
 ("seek_elem",(.fn "seek_elem")),
 ("seek_forced",(.fn "seek_forced")),
 ("seek_list",(.fn "seek_list")),
 ("seek_lower",(.fn "seek_lower")),
 ("seek_middle",(.fn "seek_middle")),
 ("seek_naked",(.fn "seek_naked")),
 ("seek_one",(.fn "seek_one")),
 ("seek_optional",(.fn "seek_optional")),
 ("seek_pair",(.fn "seek_pair")),
 ("seek_places",(.fn "seek_places")),
 ("seek_tuple",(.fn "seek_tuple")),
 ("seek_union",(.fn "seek_union")),
 ("sorted",(.blt "sorted")),
 ("spread_of",(.fn "spread_of")),
 ("stays_beside",(.fn "stays_beside")),
 ("str",(.blt "str")),
 ("str_type",(.fn "str_type")),
 ("top_of",(.fn "top_of")),
 ("tuple",(.blt "tuple")),
 ("tuple_type",(.fn "tuple_type")),
 ("union",(.fn "union")),
 ("whole_of_row",(.fn "whole_of_row"))]
end
section
open PySem PySem.W PyProof.Rows PySem.SeqAt
set_option genCtorIdx false in
structure LL (K:Frag) (FA:String->Addr) (c:String):Prop where
 ga:findIn K (.ref (FA c)) "__getattribute__"=some (some (.builtin "object.__getattribute__"))
 gd:findIn K (.ref (FA c)) "__getattr__"=some none
 sa:findIn K (.ref (FA c)) "__setattr__"=some (some (.builtin "object.__setattr__"))
 over:plainOver K (FA c)=true
 hasD:hasDictIn K (FA c)=true
 makes:makesIn K (FA c)=true
 init:findIn K (.ref (FA c)) "__init__"=some (some (.ref (FA (c++".__init__"))))
 keep:keepIn K (.ref (FA c))=true
 initF:typeIn K (.ref (FA (c++".__init__")))=some (.type "function")
 attr:∀n∈pK,findIn K (.ref (FA c)) (tx n)=some none
set_option genCtorIdx false in
structure yW (X:Cx):Prop where
 kin:X.K.In X.H
 cls:∀c∈LJ,LL X.K X.FA c
 meth:∀p∈cN,findIn X.K (.ref (X.FA p.1)) (tx p.2.1)=some (some (.ref (X.FA p.2.2)))/\typeIn X.K (.ref (X.FA p.2.2))=some (.type "function")
 sys:∃o,X.H.get? sysModules=some o
 spans:∃kvs,X.H.DictOf (intKind X.prog X.w) (X.FA "KID_SPANS") kvs/\y6 (fun (e:Int×V)(k:Int×Value)=>k.1=e.1/\yG X (fun z0 z0=>none) no X.H e.2 k.2) m4 kvs
 spansNe:(X.FA "KID_SPANS"==sysModules)=false
 glob:∀p∈kA,∃mg mb u,X.H.Ns mainGlobals mg/\X.H.Ns builtinsNs mb/\(mg (tx p.1)=some u\/mg (tx p.1)=none/\mb (tx p.1)=some u)/\yG X (fun z0 z0=>none) no X.H p.2 u
def cO(R:V->Value->Prop):Option V->Option Value->Prop
 | some v,some u=>R v u
 | none,none=>True
 | _,_=>False
section
variable{c:Fx}{ρ:y5}{p:Mt}{C:yA}{x y:V}{u v:Value}{a:Addr}
def yJ.base0(G:yJ c p):iJ no (NN c.Pv p) c.X.H p.s.heap:=fun a o z0 e =>
 ⟨fun z=>z.elim (fun z=>uM z fun g n z0 q z0=>gO (G.at_ g n a q).2.1 e) fun z=>gO (G.priv a z).1 e,G.base a o e⟩
def yJ.frozen(G:yJ c p)(r:yG c.X (fun z0 z0=>none) no c.X.H x v):c.V p x v:=r.mono (fun n a e=>by cases e) G.base0
def q71(S:yW c.X){x:String}{v:V}{pos:Pos}(hd:(tx x==("__debug__":Str))=false) (hk:c.env.kindOf (tx x)=some .globalImplicit) (hm:(x,v)∈kA) :
  SE c ρ (eval (.Name (tx x) pos) c.env) (we C (.g x v) ρ):=fun p Q R h q k=>by
 refine qG fun ng=>?_;refine uM (S.glob _ hm) fun mg mb u h1 z=>XQ z fun h2 h3 r=>?_;refine ng ?_;refine Calls.Name_function_global h.e.kind hk ?_ hd;refine(h3).elim (fun h3=>?_) fun h3=>?_
 ·exact Calls.loadGlobal_global (h.e.glob▸Heap.Ns.keeps h1 h.g.base:p.s.heap.Ns c.env.globals mg) h3 (k.hereT h (h.g.frozen r).tt q)
 ·exact Calls.loadGlobal_builtin (h.e.glob▸Heap.Ns.keeps h1 h.g.base:p.s.heap.Ns c.env.globals mg) h3.1 (h.e.blt▸Heap.Ns.keeps h2 h.g.base) h3.2 (k.hereT h (h.g.frozen r).tt q)
def HI{l:List Int}{a:Addr}(r:S0 c.X p.s.heap l a):wM c p a (.dI (vL l)) :=
 r.2.elim fun kvs q=>⟨kvs,q.1,q.2.ind (P:=fun l kvs=>y6 (fun (e:Int×V)(k:Int×Value)=>k.1=e.1/\c.V p e.2 k.2) (vL l) kvs) trivial fun z0 z0 z0 z0 a b z0=>And.intro a b⟩
set_option genCtorIdx false in
structure q1D (c:Fx) (p:Mt) (ob:Ob) (v:Value) (a:Addr):Prop where
 e:v=.ref a
 r:wM c p a ob
 n:∀o,p.s.heap.get? a=some o->(∃es ep,o.data=.dict es ep)->(a==sysModules)=false
def vA(S:yW c.X)(G:yJ c p){ob:Ob}(e:obj p.σ x=some ob)(r:y7 c p x v):∃a,q1D c p ob v a:=by
 cases x with
 | lst l =>
  cases e;refine qG fun ng=>?_;refine uM (r.lst) fun xs a n e z=>XQ z fun z0 t q=>?_;refine ng ?_;exact⟨a,e,⟨xs,n,t,q⟩,fun o z y=>v4 y fun es ep y=>by cases t.symm.trans z; cases y⟩
 | iset l =>
  cases e;exact r.elim fun a r=>⟨a,r.1,HI r.2.2,fun z0 z0 z0=>r.2.2.1⟩
 | spans =>
  cases e;exact S.spans.elim fun kvs d=>⟨_,r,⟨kvs,Heap.DictOf.keep d.1 G.base,d.2.mono fun x v z=>⟨z.1,G.frozen z.2⟩⟩,fun z0 z0 z0=>S.spansNe⟩
 | ref g n=>exact r.elim fun a q=>(G.rep g n ob e).elim fun b z=>⟨a,q.2,qN (z.1.symm.trans q.1)▸z.2,fun z0 z0 z0=>zV.mpr fun y=>S.sys.elim fun o w=>gO (G.at_ g n a q.1).2.1 (y▸w)⟩
 | _=>cases e
def wY{o:Option Ob}{K:List V->Prop}(h:xK o K):∃l,o=some (.list l)/\K l:=by
 cases o with
 | none=>exact h.elim
 | some ob=>cases ob <;> first | exact h.elim | exact⟨_,rfl,h⟩
def BI{o:Option Ob}{K:List (Int×V)->Prop}{P:Prop}(h:WO o K)(f:∀es,o=some (.dI es)->K es->P):P:=by
 cases o with
 | none=>exact h.elim
 | some ob=>cases ob <;> first | exact h.elim | exact f _ rfl h
def BK{o:Option Ob}{K:List (List Nat×V)->Prop}{P:Prop}(h:ER o K)(f:∀es,o=some (.dS es)->K es->P):P:=by
 cases o with
 | none=>exact h.elim
 | some ob=>cases ob <;> first | exact h.elim | exact f _ rfl h
def BM{o:Option Ob}{K:List (List V×V)->Prop}{P:Prop}(h:BN o K)(f:∀es,o=some (.dT es)->K es->P):P:=by
 cases o with
 | none=>exact h.elim
 | some ob=>cases ob <;> first | exact h.elim | exact f _ rfl h
def bN(S:yW c.X)(G:yJ c p){K:List V->Prop}(h:xK (obj p.σ x) K)(r:y7 c p x v):∃l a xs n,v=.ref a/\p.s.heap.get? a=some (seqObj "list" (List.toArray xs) n)/\y6 (c.V p) l xs/\K l:=by
 refine qG fun ng=>?_;refine wI (wY h) fun l e k=>?_;refine ng ?_;exact(vA S G e r).elim fun a z=>v4 z.r fun xs n q=>⟨l,a,xs,n,z.e,q.1,q.2,k⟩
def il{h:Heap}{xs:List Value}{n:Nat}(e:h.get? a=some (seqObj "list" (List.toArray xs) n)):h.IsList a xs.toArray:=⟨_,e,rfl,n,rfl⟩
inductive GH (c:Fx) (p:Mt) (x:V) (v:Value) (l:List V):Prop
 | tup a xs (ex:x=.tup l) (e:v=.ref a) (t:p.s.heap.IsTuple a (List.toArray xs)) (q:y6 (c.V p) l xs)
 | lst a xs n (ex:obj p.σ x=some (.list l)) (e:v=.ref a) (t:p.s.heap.get? a=some (seqObj "list" (List.toArray xs) n)) (q:y6 (c.V p) l xs)
def CA(S:yW c.X)(G:yJ c p){K:List V->Prop}(h:xK (obj p.σ x) K)(r:y7 c p x v):∃l,GH c p x v l/\K l :=
 (wY h).elim fun l h=>(vA S G h.1 r).elim fun a z=>v4 z.r fun xs n q=>⟨l,.lst a xs n h.1 z.e q.1 q.2,h.2⟩
def aK(S:yW c.X)(G:yJ c p){K:List V->Prop}(h:d4 p.σ x K)(r:y7 c p x v):∃l,GH c p x v l/\K l:=by
 cases x with
 | tup l =>
  refine qG fun ng=>?_;refine uL (r.tup) fun xs a e z0 z=>z.elim fun t q=>?_;refine ng ?_;exact⟨l,.tup a xs rfl e t q,h⟩
 | _=>exact CA S G h r
def fK{h:Heap}{m:Mp}{N:Addr->Prop}{is:List Int}:∀{xs:List Value},y6 (yG c.X m N h) (vI is) xs->IntsAre xs is:=by
 induction is with
 | nil=>exact fun {xs} a=>(List.eq_nil_of_length_eq_zero a.length.symm:xs=[])▸.nil
 | cons i is ih=>exact fun {xs} a=>by cases xs with
  | nil=>exact a.elim
  | cons x xs=>exact a.1.elim fun t e=>e▸.cons _ t (ih a.2)
def aP{a b:List Nat}(h:(⟨a.toArray⟩:PySem.Str)=⟨b.toArray⟩):a=b:=Array.mk.inj (PySem.Str.mk.inj h)
def RL{K K' β:Type}[DecidableEq K][DecidableEq K']{f:K->K'}(hf:∀{a b},f a=f b->a=b){g:β->Value}{R:V->Value->Prop}(k:K){es:List (K×V)}{ks:List (K'×β)}(q:y6 (fun (e:K×V) (x:K'×β)=>x.1=f e.1/\R e.2 (g x.2)) es ks):
  cO R (y8 es k) ((ks.find? fun x=>decide (x.1=f k)).map fun x=>g x.2) :=
 q.ind (P:=fun es ks=>cO R (y8 es k) ((ks.find? fun x=>decide (x.1=f k)).map fun x=>g x.2)) trivial fun e x es ks q ih z0=>by
  rw[List.find?_cons]
  by_cases h:e.1=k
  ·rw[zU (q.1.trans (congrArg f h)),show y8 (e::es) k=some e.2 from if_pos h];exact q.2
  ·rw[decide_eq_false fun z=>h (hf (q.1.symm.trans z)),show y8 (e::es) k=y8 es k from if_neg h];exact ih
inductive q82 (c:Fx) (p:Mt) (a:Addr) (k:V) (u:Value) (o:Option V):Prop
 | int i t kvs (ek:k=.int i) (e:u=.int i t) (d:p.s.heap.DictOf (intKind c.X.prog c.X.w) a kvs) (r:cO (c.V p) o (valueAt kvs i))
 | str i t kvs (ek:k=.str i) (e:u=.str ⟨i.toArray⟩ t) (d:p.s.heap.DictOf (strKind c.X.prog c.X.w) a kvs) (r:cO (c.V p) o (valueAt kvs ⟨i.toArray⟩))
 | tup i b xs (ek:k=.tup i) (e:u=.ref b) (hk:(dF c.X).is p.s.heap i b) (d:p.s.heap.DictOfH (dF c.X) a xs) (r:cO (c.V p) o ((atKey xs i).map (·.2)))
def P1{R:V->Value->Prop}{K β:Type}{o:Option V}{x:Option (K×β)}{g:β->Value}(h:cO R o (x.map fun x=>g x.2)):cO R o ((x.map (·.2)).map g):=by
 cases x <;> exact h
def tT{K:Type}[DecidableEq K]{knd:PySem.KeyKind c.X.prog c.X.w K}{kvs:List (K×Value)}(d:p.s.heap.DictOf knd a kvs):∃o,p.s.heap.get? a=some o/\∃es ep,o.data=.dict es ep :=
 gE d fun o es ep d=>⟨o,d.1,es,ep,d.2.2.1⟩
set_option genCtorIdx false in
structure q1A (c:Fx) (p:Mt) (x:V) (u v:Value) (K:Option V->Prop) (a:Addr) (o:Option V):Prop where
 e:v=.ref a
 n:(a==sysModules)=false
 h:q82 c p a x u o
 k:K o
def WM(S:yW c.X)(G:yJ c p){K:Option V->Prop}(h:lO (obj p.σ y) x K)(r:y7 c p y v)(rk:y7 c p x u):∃a o,q1A c p x u v K a o:=by
 cases x with
 | int i=>exact BI h fun es eo h=>(vA S G eo r).elim fun a z=>z.r.elim fun kvs q=>(tT q.1).elim fun o w=>rk.elim fun t et=>⟨a,_,z.e,z.n o w.1 w.2,.int i t kvs rfl et q.1 (RL (f:=id) (g:=id) id i q.2),h⟩
 | str i=>exact BK h fun es eo h=>(vA S G eo r).elim fun a z=>z.r.elim fun kvs q=>(tT q.1).elim fun o w=>rk.elim fun t et=>⟨a,_,z.e,z.n o w.1 w.2,.str i t kvs rfl et q.1 (RL (f:=fun i:List Nat=>(⟨i.toArray⟩:PySem.Str)) (g:=id) aP i q.2),h⟩
 | tup i =>
  have hk:=bY h;refine qG fun ng=>?_;refine uL (rk.tup) fun xs b e z0 z0=>?_;refine ng ?_;exact BM (vF h) fun es eo h=>(vA S G eo r).elim fun a z=>z.r.elim fun kvs q=>gE q.1 fun o es ep d=>
   ⟨a,_,z.e,z.n o d.1 ⟨es,ep,d.2.2.1⟩,.tup i b kvs rfl e ⟨hk,WQ 3 hk (e▸rk)⟩ q.1 (P1 (RL (f:=id) (g:=fun x:Addr×Value=>x.2) id i (q.2.mono fun x v z=>⟨z.1,z.2.2⟩))),h⟩
 | _=>exact h.elim
def cO.some{R:V->Value->Prop}{o:Option V}{o':Option Value}(h:cO R o o'):o'.isSome=o.isSome:=by
 cases o <;> cases o' <;> first | rfl | exact h.elim
end
section
set_option tactic.hygienic true
noncomputable def W5:Cp->CmpOp
 | .eq=>.Eq
 | .ne=>.NotEq
 | .eqs=>.Eq
 | .nes=>.NotEq
 | .eqd=>.Eq
 | .ned=>.NotEq
 | .eqn=>.Eq
 | .nen=>.NotEq
 | .eqm=>.Eq
 | .lt=>.Lt
 | .le=>.LtE
 | .gt=>.Gt
 | .ge=>.GtE
 | .inn=>.In
 | .nin=>.NotIn
 | .ind=>.In
 | .nid=>.NotIn
 | .ins=>.In
 | .is_=>.Is
 | .isn=>.IsNot
def wX(A:Around):Prop:=A.handled=none/\A.units+40<cLine
section
variable{X:Cx}{m:Mp}{N:Addr->Prop}{h:Heap}
def AM:∀{x:V}{v:Value},(xR x).canLay0=true->yG X m N h x v->∃as,Reads h v (xR x) as:=by
 intro x
 induction x using V.rec (motive_2:=fun l=>∀{us:List Value},PyData.canLayAll0 (bB l)=true->j8 X m N h l us->∃as,ReadsAll h us (bB l) as)with
 | none=>intro v k r; cases r; exact⟨_,.none⟩
 | bool b=>intro v k r; cases r; exact⟨_,.bool b⟩
 | int i=>intro v k r; obtain⟨t,rfl⟩:=r; exact⟨_,.int i t⟩
 | str s=>intro v k r; obtain⟨t,rfl⟩:=r; exact⟨_,.str _ t⟩
 | tup l ih =>
  intro v k r;refine qG fun ng=>?_;obtain⟨xs,r,a,rfl,_,o,t,t2,n,d⟩:=r;refine ng ?_;exact(ih k r).elim fun as q=>⟨as,.tuple t t2 d q⟩
 | lst l ih =>
  intro v k r;refine qG fun ng=>?_;obtain⟨xs,r,a,rfl,_,n,t⟩:=r;refine ng ?_;exact(ih k r).elim fun as q=>⟨a::as,.list t rfl rfl q⟩
 | nil=>rename_i us k r; cases r; exact⟨_,.nil⟩
 | cons x l X L =>
  rename_i us k r
  refine qG fun ng=>?_;obtain⟨y,ys,rfl,r,r'⟩:=r;refine ng ?_;exact(X (zE.mp k).1 r).elim fun as q=>(L (zE.mp k).2 r').elim fun bs q'=>⟨_,.cons q q'⟩
 | _=>intro v k r; exact ff k
end
section
variable{c:Fx}{ρ:y5}{p:Mt}{C:yA}{x y:V}{u v:Value}{a:Addr}{R:Value->Shared->Prop}{K:Bool->Prop}{o o':CmpOp}
def q1C(p:Mt)(K:Bool->Prop)(R:Value->Shared->Prop):Prop:=∀b t,K b->R (.bool b) {p.s with toks:=t}
def Cm(c:Fx)(p:Mt)(o:CmpOp)(u v:Value)(b:Bool):Prop:=∀R:Value->Shared->Prop,(∀t,R (.bool b) {p.s with toks:=t})->wA c (compareOp o u v) R p.s
def M9(c:Fx)(p:Mt)(o o':CmpOp)(u v:Value)(K:Bool->Prop):Prop:=∃b,K b/\Cm c p o u v b/\Cm c p o' u v (!b)
def M9.pos(h:M9 c p o o' u v K)(k:q1C p K R):wA c (compareOp o u v) R p.s:=h.elim fun b z=>z.2.1 R fun t=>k b t z.1
def M9.neg(h:M9 c p o o' u v fun b=>K (!b))(k:q1C p K R):wA c (compareOp o' u v) R p.s:=h.elim fun b z=>z.2.2 R fun t=>k _ t z.1
def VI(h:(xR x).canLay0=true):g9 x=true:=by
 cases x <;> first | rfl | exact ff h
def FU(hr:wX c.A)(h:SY x y K)(r:y7 c p x u)(s:y7 c p y v):M9 c p .Eq .NotEq u v K :=
 have e1:=zE.mp (bY h);have e2:=zE.mp e1.2
 (AM e1.1 (r.gv (VI e1.1))).elim fun as q=>(AM e2.1 (s.gv (VI e2.1))).elim fun bs q' =>
 ⟨_,vF h,fun R k=>compareEq_reads q q' e1.1 e2.1 ((qI (qL (qF (Nat.min_le_right _ _) (qF (z8 e2.2) (by decide))) _) hr.2:c.A.units+min (xR x).depth (xR y).depth<cLine)) (k _),fun R k=>compareNe_reads q q' e1.1 e2.1 ((qI (qL (qF (Nat.min_le_right _ _) (qF (z8 e2.2) (by decide))) _) hr.2:c.A.units+min (xR x).depth (xR y).depth<cLine)) (k _)⟩
def HG(h:VE y=true):y=.lst []:=by
 cases y with
 | lst l=>cases l with
  | nil=>rfl
  | cons _ _=>exact ff h
 | _=>exact ff h
def DQ(S:yW c.X)(hr:wX c.A)(G:yJ c p)(h:ck (VE y) (xK (obj p.σ x) fun l=>v9 l (K l.isEmpty)))(r:y7 c p x u)(s:y7 c p y v):M9 c p .Eq .NotEq u v K:=by
 have hu:c.A.units<cLine:=qI (qJ _ _) hr.2;cases HG (bY h);refine qG fun ng=>?_;obtain⟨l,a,xs,n,rfl,t,q,k⟩:=bN S G (vF h) r;have k:=vF k;obtain⟨ys,b,n',rfl,_,t',q'⟩:=s.lst;refine ng ?_;cases (List.eq_nil_of_length_eq_zero q'.length.symm:ys=[]);have t:=il t;have t':=il t';clear h s q';cases xs with
 | nil=>cases WY q rfl; exact⟨true,k,fun R k=>RcAt.lists (e:=fun z0=>true) t t' rfl hu (fun j h=>absurd h (Nat.not_lt_zero j)) _ _ _ _ (k _),fun R k=>RcNeAt.lists (e:=fun z0=>true) t t' rfl hu (fun j h=>absurd h (Nat.not_lt_zero j)) _ _ _ _ (k _)⟩
 | cons _ _ =>
  exact⟨false,(by cases l <;> first | exact q.elim | rfl:l.isEmpty=false)▸k,fun R k=>RcAt.lists_lengths t t' rfl hu _ _ _ _ (k _),fun R k=>RcNeAt.lists_lengths t t' rfl hu _ _ _ _ (k _)⟩
def MD(e:Int×List Nat)(k:Int×Value):Prop:=k.1=e.1/\∃t,k.2=.str ⟨e.2.toArray⟩ t
def cJ{m:Mp}{N:Addr->Prop}{h:Heap}{es:List (Int×List Nat)}:∀{ks:List (Int×Value)},y6 (fun (e:Int×V)(k:Int×Value)=>k.1=e.1/\yG c.X m N h e.2 k.2) (es.map fun e=>(e.1,.str e.2)) ks->y6 MD es ks:=by
 induction es with
 | nil=>exact fun {ks} h=>by cases ks <;> exact h
 | cons e es ih=>exact fun {ks} h=>by cases ks with
  | nil=>exact h
  | cons k ks=>exact⟨h.1,ih h.2⟩
def q17(i:Int)(f:Option (Int×List Nat))(k:Option Value):Prop:=match f with
 | some f=>f.1=i/\∃t,k=some (.str ⟨f.2.toArray⟩ t)
 | none=>k=none
def NP{i:Int}{fs:List (Int×List Nat)}{ks:List (Int×Value)}(h:y6 MD fs ks):q17 i (fs.find? fun f=>f.1==i) ((ks.find? fun x=>decide (x.1=i)).map (·.2)) :=
 h.ind (P:=fun fs ks=>q17 i (fs.find? fun f=>f.1==i) ((ks.find? fun x=>decide (x.1=i)).map (·.2))) rfl fun f k fs ks q ih z0=>by
  rw[List.find?_cons,List.find?_cons,show decide (k.1=i)=(f.1==i)from q.1▸rfl];cases h:f.1==i with
  | true=>exact⟨eq_of_beq h,q.2.elim fun t e=>⟨t,congrArg some e⟩⟩
  | false=>exact ih
def q6B{A:Around}{s:Shared}{fs:List (Int×List Nat)}{kb:List (Int×Value)}(pb:y6 MD fs kb){es:List (Int×List Nat)}{ka:List (Int×Value)}(h:y6 MD es ka):
  ∃b,KeqHits A s kb ka b/\(b=true↔∀e∈es,(fs.find? fun f=>f.1==e.1)=some e) :=
 h.ind (P:=fun es ka=>∃b,KeqHits A s kb ka b/\(b=true↔∀e∈es,(fs.find? fun f=>f.1==e.1)=some e)) ⟨true,.nil,iff_of_true rfl fun z0 h=>absurd h qW⟩ fun e k es ka q ih z0=>by
  refine wI (ih) fun b h1 h2=>?_;obtain⟨i,x⟩:=e;obtain⟨j,u⟩:=k;obtain⟨e1,t,e2⟩:=q;cases e1;subst e2;have L:=NP (i:=i) pb;revert L;cases z:fs.find? fun f=>f.1==i with
  | none=>exact fun L=>⟨false,.miss L,iff_of_false Bool.false_ne_true fun w=>Option.some_ne_none _ ((w _ (.head _)).symm.trans z)⟩
  | some f=>exact fun L=>L.2.elim fun t' w2=>⟨_,.hit w2 (EqAt.str_str _ t _ t') h1,by
    rw[Bool.and_eq_true,h2,zB,z,beq_iff_eq];exact and_congr ⟨fun e=>congrArg some (Prod.ext L.1 (aP e).symm),fun e=>by cases e; rfl⟩ Iff.rfl⟩
def SZ(S:yW c.X)(hr:wX c.A)(G:yJ c p)(h:q2Q (obj p.σ x) (obj p.σ y) K)(r:y7 c p x u)(s:y7 c p y v)(k:q1C p K R):wA c (compareOp .Eq u v) R p.s:=by
 refine qG fun ng=>?_;refine uM (h) fun es fs b e1 z=>XQ z fun e2 hb h=>?_;obtain⟨a,rfl,⟨ka,d,q⟩,ns⟩:=vA S G e1 r;obtain⟨a',rfl,⟨kb,d',q'⟩,ns'⟩:=vA S G e2 s;refine wI (tT d) fun o z1 z2=>?_;refine wI (tT d') fun o' z1' z2'=>?_;refine wI (q6B (A:=c.A.in1) (s:=p.s) (cJ q') (cJ q)) fun b' w1 w2=>?_;refine ng ?_;refine keq_eq (ns o z1 z2) (ns' o' z1' z2') d d' (qI (qJ _ _) hr.2) (fun z0=>w1) ?_;exact(show(ka.length==kb.length&&b')=b by rw[Bool.eq_iff_iff,Bool.and_eq_true,beq_iff_eq,hb,w2,<-(cJ q).length,<-(cJ q').length])▸(k b _ h)
def q6Q{b:Bool}(c:Nat)(h:(48==c)=b):Builtin.Str.subAt ⟨#[48,49]⟩ ⟨#[c]⟩ 0=b:=(show Builtin.Str.subAt ⟨#[48,49]⟩ ⟨#[c]⟩ 0=((48==c)&&true)from rfl).trans ((Bool.and_true _).trans h)
def q6R{b:Bool}(c:Nat)(h:(49==c)=b):Builtin.Str.subAt ⟨#[48,49]⟩ ⟨#[c]⟩ 1=b:=(show Builtin.Str.subAt ⟨#[48,49]⟩ ⟨#[c]⟩ 1=((49==c)&&true)from rfl).trans ((Bool.and_true _).trans h)
def q6S(c:Nat):(!(Builtin.Str.occurrences ⟨#[48,49]⟩ ⟨#[c]⟩ 0 2 1).isEmpty)=(c==48||c==49):=by
 by_cases h:c=48
 ·subst h; decide +kernel
 ·by_cases h':c=49
  ·subst h'; decide +kernel
  ·rw[zV.mpr h,zV.mpr h'];simp[Builtin.Str.occurrences,Id.run,q6Q c (zV.mpr (Ne.symm h)),q6R c (zV.mpr (Ne.symm h')),PySem.Str.length,List.range'];rfl
def BE(S:yW c.X)(hr:wX c.A)(G:yJ c p){K:Option V->Prop}(h:lO (obj p.σ y) x K)(r:y7 c p x u)(s:y7 c p y v):∃b,K b/\Cm c p .In u v b.isSome/\Cm c p .NotIn u v (!b.isSome):=by
 obtain⟨a,o,rfl,ns,H,k⟩:=WM S G h s r;refine⟨o,k,?_⟩;clear h r s k;cases H with
 | int i t kvs ek e d rr=>subst e; exact rr.some▸⟨fun R k=>wpAny_in_of (intKind_is _ _ i t) ns d.mapOf (k _),fun R k=>wpAny_notIn_of (intKind_is _ _ i t) ns d.mapOf (k _)⟩
 | str i t kvs ek e d rr=>subst e; exact rr.some▸⟨fun R k=>wpAny_in_of (strKind_is _ _ _ t) ns d.mapOf (k _),fun R k=>wpAny_notIn_of (strKind_is _ _ _ t) ns d.mapOf (k _)⟩
 | tup i b xs ek e hk d rr =>
  subst e;exact(show(atKey xs i).isSome=o.isSome by rw[<-rr.some]; cases atKey xs i <;> rfl)▸⟨fun R k=>wpAny_in_heap (((qI (show c.A.units+1+10<=c.A.units+40 from qL (n:=11) (by decide) _) hr.2):(dF c.X).room c.A.in1)) hk ns d (k _),fun R k=>wpAny_notIn_heap (((qI (show c.A.units+1+10<=c.A.units+40 from qL (n:=11) (by decide) _) hr.2):(dF c.X).room c.A.in1)) hk ns d (k _)⟩
noncomputable def q36:V->Int
 | .int i=>i
 | _=>0
def GR{l:List V}(h:l.all q0Q=true):l=vI (l.map q36):=by
 show l=(l.map q36).map V.int;rw[qY];refine((List.map_congr_left fun x hx=>?_).trans (List.map_id _)).symm;have h:=z6.mp h x hx;revert h;cases x <;> first | exact ff | exact fun z0=>rfl
def GS{i:Int}{is:List Int}:(vI is).any (GB i)=is.any (·==i):=by
 exact(List.any_map)▸(congrArg is.any (funext fun j=>Bool.eq_iff_iff.mpr ⟨fun z=>beq_iff_eq.mpr (zT z).symm,fun z=>zU (beq_iff_eq.mp z).symm⟩))
def BF(S:yW c.X)(G:yJ c p){K:Bool->Prop}(h:yN x fun i=>d4 p.σ y fun l=>ck (l.all q0Q) (K (l.any (GB i))))(r:y7 c p x u)(s:y7 c p y v):M9 c p .In .NotIn u v K :=
 nG (P:=fun u=>M9 c p .In .NotIn u v K) h r fun i t h=>by
  refine wI (aK S G h s) fun l q k=>?_;refine⟨_,vF k,?_⟩;have e:=GR (bY k);rw[e]at q;rw[e,GS];cases q with
  | tup a xs ex e t q=>subst e; exact⟨fun R k=>in_tuple_ints t (fK q) (k _),fun R k=>notin_tuple_ints t (fK q) (k _)⟩
  | lst a xs n ex e t q=>subst e; exact⟨fun R k=>in_list_ints (il t) (fK q) (k _),fun R k=>notin_list_ints (il t) (fK q) (k _)⟩
def oY(r:y7 c p x u):(u==Value.none)=isNone x:=by
 cases x with
 | none=>cases r; rfl
 | bool=>cases r; rfl
 | fn=>rw[r.1]; rfl
 | int | str=>exact r.elim fun t e=>e.symm▸rfl
 | spans=>cases r; rfl
 | blt n=>rw[r.1]; unfold fA; split <;> rfl
 | ref g n=>exact r.elim fun a e=>e.2.symm▸rfl
 | iset l=>exact r.elim fun a e=>e.1.symm▸rfl
 | rng l n=>exact r.elim fun a e=>e.1.symm▸rfl
 | _=>exact r.elim fun xs r=>r.2.elim fun a e=>e.1.symm▸rfl
def A9(h:ck (isNone y) (K (isNone x)))(r:y7 c p x u)(s:y7 c p y v):M9 c p .Is .IsNot u v K:=by
 cases eq_of_beq ((oY s).trans (bY h));refine⟨_,vF h,?_⟩;rw[<-oY r];refine⟨fun R k=>?_,fun R k=>isnot_none_gen (k p.s.toks)⟩;cases h:u==Value.none with
 | true=>rw[h]at k; cases eq_of_beq h; exact is_none_none (k p.s.toks)
 | false=>rw[h]at k; exact is_none_ne (zV.mp h) (k p.s.toks)
def q35(q:∃c,x=.str [c]/\y=.str [48,49]/\K (c==48||c==49))(r:y7 c p x u)(s:y7 c p y v)(k:q1C p K R):wA c (compareOp .In u v) R p.s:=by
 refine qG fun ng=>?_;obtain⟨d,rfl,rfl,q⟩:=q;refine ng ?_;refine(r.str).elim fun t z=>z▸?_;refine(s.str).elim fun t' z=>z▸?_;exact in_str (show R (.bool (!(Builtin.Str.occurrences ⟨#[48,49]⟩ ⟨#[d]⟩ 0 2 1).isEmpty)) p.s from q6S d▸k _ p.s.toks q)
def FE(S:yW c.X)(hr:wX c.A)(G:yJ c p)(r:y7 c p x u)(s:y7 c p y v)(k:q1C p K R)(op:Cp)(q:SO p.σ op x y K):wA c (compareOp (W5 op) u v) R p.s:=by
 cases op with
 | eq=>exact vW (P:=fun u v=>wA c (compareOp .Eq u v) R p.s) q r s fun z0 z0 z0 z0 q=>eq_int (k _ _ q)
 | ne=>exact vW (P:=fun u v=>wA c (compareOp .NotEq u v) R p.s) q r s fun z0 z0 z0 z0 q=>ne_int (k _ _ q)
 | lt=>exact vW (P:=fun u v=>wA c (compareOp .Lt u v) R p.s) q r s fun z0 z0 z0 z0 q=>lt_int (k _ _ q)
 | le=>exact vW (P:=fun u v=>wA c (compareOp .LtE u v) R p.s) q r s fun z0 z0 z0 z0 q=>le_int (k _ _ q)
 | gt=>exact vW (P:=fun u v=>wA c (compareOp .Gt u v) R p.s) q r s fun z0 z0 z0 z0 q=>gt_int (k _ _ q)
 | ge=>exact vW (P:=fun u v=>wA c (compareOp .GtE u v) R p.s) q r s fun z0 z0 z0 z0 q=>ge_int (k _ _ q)
 | eqs=>exact JI (P:=fun u v=>wA c (compareOp .Eq u v) R p.s) q r s fun i z0 j z0 q=>eq_str (JJ (i:=i) (j:=j)▸k _ p.s.toks (decide_eq_decide.mpr ⟨congrArg V.str,V.str.inj⟩▸q))
 | nes=>exact JI (P:=fun u v=>wA c (compareOp .NotEq u v) R p.s) q r s fun i z0 j z0 q=>ne_str (show R (.bool (!(_==_))) p.s from JJ (i:=i) (j:=j)▸k _ p.s.toks (decide_eq_decide.mpr ⟨congrArg V.str,V.str.inj⟩▸q))
 | eqd=>exact(FU hr q r s).pos k
 | ned=>exact(FU (K:=fun b=>K (!b)) hr q r s).neg k
 | eqn=>exact(DQ S hr G q r s).pos k
 | nen=>exact(DQ (K:=fun b=>K (!b)) S hr G q r s).neg k
 | eqm=>exact SZ S hr G q r s k
 | inn=>exact(BF S G q r s).pos k
 | nin=>exact(BF (K:=fun b=>K (!b)) S G q r s).neg k
 | ind=>exact(BE (K:=fun b=>K b.isSome) S hr G q r s).elim fun b z=>z.2.1 R fun t=>k _ _ z.1
 | nid=>exact(BE (K:=fun b=>K (!b.isSome)) S hr G q r s).elim fun b z=>z.2.2 R fun t=>k _ _ z.1
 | ins=>exact q35 q r s k
 | is_=>exact(A9 q r s).pos k
 | isn=>exact(A9 (K:=fun b=>K (!b)) q r s).neg k
def OL(S:yW c.X)(hr:wX c.A){op:Cp}{l r:Expr}{a b:Ex}{pos:Pos}(hs:behindInMarks (W5 op) r=false)(H:SE c ρ (eval l c.env) (we C a ρ))(H':SE c ρ (eval r c.env) (we C b ρ)):
  SE c ρ (eval (.Compare l [W5 op] [r] pos) c.env) (we C (.cmp op a b) ρ):=fun p Q R h q k =>
 wpAny_Compare1 (H p _ _ h q fun p1 x u h1 s1 r1 q1=>H' p1 _ _ h1 q1 fun p2 y w h2 s2 r2 q2=>FE S hr h2.g (r1.step h1.g s2) r2 (fun b t z=>Go.here (k.on (s1.trans s2)) h2 (x:=.bool b) rfl z) op q2) hs
def q02(S:yW c.X)(hr:wX c.A){op:Cp}{l r:Expr}{a b:Ex}{pos:Pos}{whole:Sem Value}(hs:behindInMarks (W5 op) r=false)(H:SE c ρ (eval l c.env) (we C a ρ))(H':SE c ρ (eval r c.env) (we C b ρ)):
  ST c ρ (PySem.isTrue (.Compare l [W5 op] [r] pos) c.env whole) (wt C (.cmp op a b) ρ):=fun p Q R h q k =>
 wpAny_isTrue_Compare1 (H p _ _ h q fun p1 x u h1 s1 r1 q1=>H' p1 _ _ h1 q1 fun p2 y w h2 s2 r2 q2=>FE S hr h2.g (r1.step h1.g s2) r2 (fun b t z=>wpAny_truthy_bool (k (p2.tok t) b h2.tok ((s1.trans s2).trans .tok) z)) op q2) hs
end
end
section
variable{c:Fx}{ρ:y5}{p:Mt}{C:yA}{x y:V}{u v:Value}{K:Bool->Prop}{R:Bool->Shared->Prop}
def FM{α β:Type}{T:α->β->Prop}:∀{l:List α}{m:List β},y6 T l m->m.toArray.isEmpty=l.isEmpty
 | [],[],_=>rfl
 | _::_,_::_,_=>rfl
def aR(S:yW c.X)(G:yJ c p)(h:JP p.σ x K)(r:y7 c p x v)(k:∀b t,K b->R b {p.s with toks:=t}):wA c (truthy v) R p.s:=by
 by_cases e:∃b,x=.bool b
 ·obtain⟨b,rfl⟩:=e;subst r;exact wpAny_truthy_bool (k _ p.s.toks h)
 ·refine qG fun ng=>?_;obtain⟨l,a,xs,n,rfl,t,q,z⟩:=bN S G ((by cases x <;> first | exact h | exact absurd ⟨_,rfl⟩ e:xK (obj p.σ x) fun l=>v9 l (K (!l.isEmpty)))) r;refine(wE z).elim fun z1 z=>?_;refine ng ?_;exact wpAny_truthy_list (il t) (zI.mpr (qI (qF (qK q.length.symm) z1) (by decide:lim<2 ^ 63))) (FM q▸k _ _ z)
def q03{e:Expr}{ex:Ex}{pos:Pos}{whole:Sem Value}(H:ST c ρ (PySem.isTrue e c.env (eval e c.env)) (wt C ex ρ)):ST c ρ (PySem.isTrue (.UnaryOp .Not e pos) c.env whole) (wt C (.not ex) ρ):=fun p Q R h q k =>
 wpAny_isTrue_Not (H p _ _ h q fun p' b h' s q=>k p' (!b) h' s q)
def QJ(S:yW c.X){e:Expr}{ex:Ex}{P:Kb->St->Prop}(H:SE c ρ (eval e c.env) (we C ex ρ))(hP:∀Q σ,P Q σ->we C ex ρ (KF Q) σ)
  (hw:PySem.isTrue e c.env (eval e c.env)=(do
     let v <-eval e c.env
     standAt (Expr.pos e)
     holding [v] (truthy v))):ST c ρ (PySem.isTrue e c.env (eval e c.env)) P:=fun p Q R h q k =>
 wpAny_isTrue_value (H p _ _ h (hP Q p.σ q) fun p' x u h' s r q=>aR S h'.g q r fun b t z=>k (p'.tok t) b h'.tok (s.trans .tok) z) hw
def q1G(c:Fx)(ρ:y5)(isAnd:Bool)(es:List Expr)(P:Kb->St->Prop):Prop:=ST c ρ (allTrue (if isAnd then .And else .Or) es c.env) P
def JH{isAnd:Bool}:q1G c ρ isAnd [] (bC C isAnd [] ρ):=fun p Q R h q k=>by
 cases isAnd <;> exact wpAny_pure (k p _ h .refl q)
def q4S.on{p':Mt}{Q:Kb}(k:q4S c ρ p Q R)(s:yC c.own p p'):q4S c ρ p' Q R:=fun p'' b h t=>k p'' b h (s.trans t)
def X6{isAnd:Bool}{e:Expr}{es:List Expr}{ex:Ex}{pH:List Ex}(H:ST c ρ (PySem.isTrue e c.env (eval e c.env)) (wt C ex ρ))(H':q1G c ρ isAnd es (bC C isAnd pH ρ)):
  q1G c ρ isAnd (e::es) (bC C isAnd (ex::pH) ρ):=fun p Q R h q k=>by
 cases isAnd
 ·exact wpAny_allTrue_Or_cons (H p _ _ h q fun p' b h' s q=>by
   cases b
   ·exact H' p' _ _ h' q (k.on s)
   ·exact k p' _ h' s q)
 ·exact wpAny_allTrue_And_cons (H p _ _ h q fun p' b h' s q=>by
   cases b
   ·exact k p' _ h' s q
   ·exact H' p' _ _ h' q (k.on s))
def q01{isAnd:Bool}{es:List Expr}{pH:List Ex}{pos:Pos}{whole:Sem Value}(H:q1G c ρ isAnd es (bC C isAnd pH ρ)):
  ST c ρ (PySem.isTrue (.BoolOp (if isAnd then .And else .Or) es pos) c.env whole) (wt C (.bop isAnd pH) ρ):=fun p Q R h q k=>wpAny_isTrue_BoolOp (H p Q _ h q k)
def OO{t b e:Expr}{te be ce:Ex}{pos:Pos}(H:ST c ρ (PySem.isTrue t c.env (eval t c.env)) (wt C te ρ))(H1:SE c ρ (eval b c.env) (we C be ρ))(H2:SE c ρ (eval e c.env) (we C ce ρ)):
  SE c ρ (eval (.IfExp t b e pos) c.env) (we C (.ite te be ce) ρ):=fun p Q R h q k =>
 wpAny_IfExp (H p _ _ h q fun p' v h' s q=>by
  cases v
  ·exact H2 p' _ _ h' q (k.on s)
  ·exact H1 p' _ _ h' q (k.on s))
def C4(S:yW c.X){isAnd:Bool}{x y:Expr}{ex ey:Ex}{pos:Pos}(H:SE c ρ (eval x c.env) (we C ex ρ))(H':SE c ρ (eval y c.env) (we C ey ρ)):
  SE c ρ (eval (.BoolOp (if isAnd then .And else .Or) [x,y] pos) c.env) (we C (.bop isAnd [ex,ey]) ρ):=fun p Q R h q k=>by
 cases isAnd
 ·exact wpAny_Or2 (H p _ _ h q fun p' x u h' s r q=>aR S h'.g q r fun b t z=>by
   cases b
   ·exact H' (p'.tok t) _ _ h'.tok z (k.on (s.trans .tok))
   ·exact k (p'.tok t) _ _ h'.tok (s.trans .tok) (r.step h'.g .tok) z)
 ·exact wpAny_And2 (H p _ _ h q fun p' x u h' s r q=>aR S h'.g q r fun b t z=>by
   cases b
   ·exact k (p'.tok t) _ _ h'.tok (s.trans .tok) (r.step h'.g .tok) z
   ·exact H' (p'.tok t) _ _ h'.tok z (k.on (s.trans .tok)))
def GG(c:Fx)(ρ:y5)(ts:List (Bool×Sem Value))(P:Kl->St->Prop):Prop :=
 ∀p Q(R:List Value->Shared->Prop),At c ρ p->P Q p.σ->(∀p' x v,v.length=ts.length->At c ρ p'->yC c.own p p'->y6 (c.V p') x v->Q x p'.σ->R v p'.s)->wA c (spliced ts) R p.s
def PY:GG c ρ [] (aX C [] ρ):=fun p Q R h q k=>Calls.spliced_nil (k p [] [] rfl h .refl trivial q)
def CG{t:Sem Value}{ts:List (Bool×Sem Value)}{ex:Ex}{pH:List Ex}(H:SE c ρ t (we C ex ρ))(H':GG c ρ ts (aX C pH ρ)):GG c ρ ((false,t)::ts) (aX C (ex::pH) ρ):=fun p Q R h q k =>
 Calls.spliced_cons (H p _ _ h q fun p' x u h' s r q =>
  H' p' _ _ h' (xY q).2 fun p2 xs vs l h2 s2 r2 q2=>k p2 (x::xs) (u::vs) (congrArg Nat.succ l) h2 (s.trans s2) ⟨(r.gv (xY q).1).step h'.g s2,r2⟩ q2)
end
section
variable{c:Fx}{ρ:y5}{p:Mt}{C:yA}{x y z:V}{u v w:Value}{R:Value->Shared->Prop}{Q:Kv}
def OY{es:List Expr}{pH:List Ex}{k:Nat}{pos:Pos}(hl:(backTo pos (starEach es c.env)).length<=1000)(H:GG c ρ (backTo pos (starEach es c.env)) (aX C pH ρ)):
  SE c ρ (eval (.Tuple es k pos) c.env) (we C (.tup pH) ρ):=fun p Q R h q k =>
 wpAny_Tuple (H p _ _ h q fun p' xs vs l h' s r q=>⟨l▸qF hl (by decide),Go.tuple (k.on s) h' r q⟩)
theorem oB:∀l:xF,jM l l.length=none
 | []=>rfl
 | _::r=>oB r
def IX{g:Bool}{ob:Ob}{σ:St}(h:t8 g ob Q σ):∃k,σ.at g k=none/\Q (.ref g k) (σ.set ob g k):=by
 cases g with
 | false=>exact⟨_,oB _,h⟩
 | true =>
  refine qG fun ng=>?_;refine(h).elim fun k q=>?_;refine(xY q).elim fun e q=>?_;refine ng ?_;refine qG fun ng=>?_;cases z:jM σ.g k with
  | none=>exact ng (⟨k,z,q⟩)
  | some _=>rw[z]at e; cases e
def Go.new{g:Bool}{ob:Ob}{o:Obj}(k:Go c ρ p Q R)(h:At c ρ p)(q:t8 g ob Q p.σ)(ho:o.isFreed=false)(r:∀m σ,(∀x v,c.V p x v->c.V ⟨m,σ,{p.s with heap:=p.s.heap.push o}⟩ x v)->wM c ⟨m,σ,{p.s with heap:=p.s.heap.push o}⟩ p.s.heap.objs.size ob):R (.ref p.s.heap.objs.size) {p.s with heap:=p.s.heap.push o}:=by
 refine wI (IX q) fun n hn q=>?_;exact k _ (.ref g n) _ (h.step (h.g.new_at (ob:=ob) (s:={p.s with heap:=p.s.heap.push o}) hn (yI _) (fun z0 z0 e=>zX _ e) ⟨_,zY _ ho⟩ rfl rfl fun f=>r _ _ f).2 (h.g.new_at (ob:=ob) (s:={p.s with heap:=p.s.heap.push o}) hn (yI _) (fun z0 z0 e=>zX _ e) ⟨_,zY _ ho⟩ rfl rfl fun f=>r _ _ f).1) (h.g.new_at (ob:=ob) (s:={p.s with heap:=p.s.heap.push o}) hn (yI _) (fun z0 z0 e=>zX _ e) ⟨_,zY _ ho⟩ rfl rfl fun f=>r _ _ f).2.w ⟨_,if_pos ⟨rfl,rfl⟩,rfl⟩ q
def OQ{es:List Expr}{pH:List Ex}{pos:Pos}(hl:(backTo pos (starEach es c.env)).length<=1000)(H:GG c ρ (backTo pos (starEach es c.env)) (aX C pH ρ)):
  SE c ρ (eval (.List es pos) c.env) (we C (.lst pH) ρ):=fun p Q R h q k =>
 PyProof.Rows.List_ (H p _ _ h q fun p' xs vs l h' s r q=>wpAny_newObj_type (Go.frozen (k.on s) h' r q) (show vs.toArray.size<=sizeLine from qF (qK l) (qF hl (by decide))))
def Q7{g:Bool}{es:List Expr}{pH:List Ex}{pos:Pos}{P:Kv->St->Prop}(hl:(backTo pos (starEach es c.env)).length<=1000)(H:GG c ρ (backTo pos (starEach es c.env)) (aX C pH ρ))(hP:∀Q σ,P Q σ->aX C pH ρ (fun vs σ=>t8 g (.list vs) Q σ) σ):
  SE c ρ (eval (.List es pos) c.env) P:=fun p Q R h q k =>
 PyProof.Rows.List_ (H p _ _ h (hP _ _ q) fun p' xs vs l h' s r q=>wpAny_newObj_type (Go.new (k.on s) h' q rfl fun m σ f=>⟨vs,0,zY _ rfl,r.mono f⟩) (show vs.toArray.size<=sizeLine from qF (qK l) (qF hl (by decide))))
def VY{g:Bool}{d:DK}{pos:Pos}{P:Kv->St->Prop}(hP:∀Q σ,P Q σ->t8 g (q63 d) Q σ):SE c ρ (eval (.Dict [] [] pos) c.env) P:=fun p Q R h q k =>
 wpAny_Dict_empty (Go.new k h (hP _ _ q) rfl fun m σ f=>by
  cases d
  ·exact⟨[],Heap.DictOf.new _,trivial⟩
  ·exact⟨[],Heap.DictOf.new _,trivial⟩
  ·exact⟨[],Heap.DictOfH.new _,trivial⟩)
abbrev bG(e:Expr):Prop:=∀o i:Value,subscripted e false o i=operate [o,i] (getItem o i)
def NE{x:Option V}{K:V->Prop}(h:Sv x K):∃v,x=some v/\K v:=by
 cases x with
 | none=>exact h.elim
 | some v=>exact⟨v,rfl,h⟩
inductive S1 (l:List V) (x:V):Int->Prop
 | pos (n:Nat) (h:n<1000000000) (e:l[n]?=some x):S1 l x n
 | neg (n:Nat) (hl:l.length<=lim) (h:n<l.length) (e:l[l.length-1-n]?=some x):S1 l x (Int.negSucc n)
def BD{l:List V}{i:Int}{K:V->Prop}(h:lH l i K):∃x,S1 l x i/\K x:=by
 cases i with
 | ofNat n=>exact(NE (xY h).2).elim fun x z=>⟨x,.pos n (z8 (xY h).1) z.1,z.2⟩
 | negSucc n=>exact(NE (xY (wE h).2).2).elim fun x z=>⟨x,.neg n (wE h).1 (z8 (xY (wE h).2).1) z.1,z.2⟩
def VP{n m:Nat}(h:n<m):Int.negSucc n+(m:Int)=((m-1-n:Nat):Int) :=
 (Int.subNatNat_of_le h:Int.subNatNat m (n+1)=_).trans (congrArg Int.ofNat (((Nat.sub_sub m 1 n).trans (congrArg (m - ·) (Nat.add_comm 1 n))).symm))
def PX{n m:Nat}{i j:Int}(e:(if i<0 then i+(m:Int)else i)=j)(ej:j=n)(h:n<m):seqIndex? i m=some n:=by
 unfold seqIndex?;exact(e)▸(ej)▸((if_pos (LP (zU (zD n)) (zU (zI.mpr h)))).trans (congrArg some (Int.toNat_natCast n)))
def S1.at{l:List V}{x:V}{i:Int}(h:S1 l x i):-(2 ^ 63:Int)<=i/\i<2 ^ 63/\∃j,seqIndex? i l.length=some j/\l[j]?=some x:=by
 cases h with
 | pos n h e=>exact⟨Int.le_trans (by decide) (zD n),Int.lt_trans (zI.mpr h) (by decide),n,PX (if_neg (Int.not_lt.mpr (zD n))) rfl (List.getElem?_eq_some_iff.mp e).1,e⟩
 | neg n hl h e=>exact⟨show -(2 ^ 63:Int)<=-((n+1:Nat):Int)from Int.neg_le_neg (Int.le_trans (Int.ofNat_le.mpr (qF h hl)) (show((lim:Nat):Int)<=2 ^ 63 by decide)),Int.lt_trans (Int.negSucc_lt_zero n) (by decide),_,PX (if_pos (Int.negSucc_lt_zero n)) (VP h) (List.getElem?_eq_some_iff.mp e).1,e⟩
def BQ{l:List V}{i:Int}{t:Tok}{a:Addr}{xs:List Value}{n:Nat}(h:p.s.heap.get? a=some (seqObj "list" (List.toArray xs) n)) (q:y6 (c.V p) l xs) (i':S1 l y i) (k:∀w,c.V p y w->R w p.s):wA c (getItem (.ref a) (.int i t)) R p.s:=by
 have hb:=i'.at
 cases i' with
 | pos n b e'=>exact(q.get e').elim fun w z=>wpAny_getItem_list (il h) (zD n) hb.2.1 (List.getElem?_toArray.trans z.1) (k w z.2)
 | neg n b hn e' =>
  exact(q.get e').elim fun w z=>wpAny_getItem_list_neg (il h) (Int.negSucc_lt_zero n) (show -(xs.toArray.size:Int)<=-((n+1:Nat):Int)from Int.neg_le_neg (Int.ofNat_le.mpr (qF hn (qK q.length)))) hb.1 ((zW)▸((q.length)▸((VP hn)▸(List.getElem?_toArray.trans z.1)))) (k w z.2)
def VF{l:List V}{i:Int}{t:Tok}(S:GH c p x u l)(i':S1 l y i)(k:∀w,c.V p y w->R w p.s){value slice:Expr}(hp:bG slice):wA c (getItem u (.int i t)) R p.s/\wA c (subscriptTail value slice u (.int i t)) R p.s:=by
 cases S with
 | tup a xs ex e h q =>
  subst e;have hb:=i'.at
  have g:wA c (getItem (.ref a) (.int i t)) R p.s:=hb.2.2.elim fun j z=>(q.get z.2).elim fun w w'=>getItem_tuple h hb.1 hb.2.1 (q.length▸z.1:seqIndex? i xs.length=some j) (List.getElem?_toArray.trans w'.1) (k w w'.2);exact⟨g,tail_any (h.elim fun o z=>⟨o,z.1,z.2.1⟩) slot_tuple_getitem.lookup g (hp _ _)⟩
 | lst a xs n ex e h q =>
  subst e;have g:wA c (getItem (.ref a) (.int i t)) R p.s:=BQ h q i' k;exact⟨g,tail_any (il h).typeIs slot_list_getitem.lookup g (hp _ _)⟩
def CN(S:yW c.X)(hr:wX c.A)(G:yJ c p){K:V->Prop}(h:lO (obj p.σ x) y fun o=>Sv o K)(r:y7 c p x u)(s:y7 c p y v)(k:∀z w t,K z->c.V p z w->R w {p.s with toks:=t}){value slice:Expr}(hp:bG slice):wA c (subscriptTail value slice u v) R p.s:=by
 obtain⟨a,o,rfl,ns,H,z⟩:=WM S G h r s;obtain⟨z',rfl,kz⟩:=NE z;have k:=fun w t=>k z' w t kz;clear h r s z kz;have D:∀{K:Type}[DecidableEq K]{knd:PySem.KeyKind c.X.prog c.X.w K}{key:K}{kvs:List (K×Value)},knd.is key v=true->p.s.heap.DictOf knd a kvs->cO (c.V p) (some z') (valueAt kvs key)->wA c (subscriptTail value slice (.ref a) v) R p.s:=fun {_ _ knd key kvs} hk d rr=>by
  revert rr;cases hv:valueAt kvs key with
  | none=>exact False.elim
  | some w=>exact fun rr=>tail_any d.typeIs slot_dict_getitem.lookup (wpAny_getItem_of hk d.mapOf (f:=valueAt kvs) hv (k w _ rr)) (hp _ _)
 cases H with
 | int i t kvs ek e d rr=>exact D (e▸intKind_is _ _ i t) d rr
 | str i t kvs ek e d rr=>exact D (e▸strKind_is _ _ _ t) d rr
 | tup i b xs ek e hk d rr =>
  subst e;revert rr;cases hv:atKey xs i with
  | none=>exact False.elim
  | some w=>exact fun rr=>tail_any d.typeIs slot_dict_getitem.lookup (wpAny_getItem_heap (((qI (show c.A.units+1+10<=c.A.units+40 from qL (n:=11) (by decide) _) hr.2):(dF c.X).room c.A.in1)) hk d hv (k _ _ rr)) (hp _ _)
def CP{K:V->Prop}(h:yN y fun i=>vC x fun s=>lH (s.map fun c=>.str [c]) i K)(r:y7 c p x u)(s:y7 c p y v)(k:∀z w t,K z->c.V p z w->R w {p.s with toks:=t}){value slice:Expr}(hp:bG slice):wA c (subscriptTail value slice u v) R p.s :=
 nG (P:=fun v=>wA c (subscriptTail value slice u v) R p.s) h s fun i t h=>U5 (P:=fun u=>wA c (subscriptTail value slice u (.int i t)) R p.s) h r fun sl t' h=>by
  refine qG fun ng=>?_;refine(BD h).elim fun z zz=>?_;obtain⟨lo,hi,j,ej,e⟩:=zz.1.at
  rw[qH]at ej;rw[List.getElem?_map]at e;obtain⟨d,e1,rfl⟩:=zN.mp e;refine ng ?_;refine tail_any (typeIs_str _ _ _) F.slot_str_getitem.lookup ?_ (hp _ _);exact PySem.P.getItem_str (c:=d) (Bool.or_eq_false_iff.mpr ⟨decide_eq_false (Int.not_lt.mpr lo),decide_eq_false (Int.not_le.mpr hi)⟩) ((show seqIndex? i (⟨sl.toArray⟩:PySem.Str).length=some j from ej)▸(List.getElem?_toArray.trans e1)) (k _ _ _ zz.2 ⟨_,rfl⟩)
def QA{op:B2}(S:yW c.X)(hr:wX c.A)(ho:op=.sub\/op=.subs\/op=.subd){o i:Expr}{a b:Ex}{pos:Pos}(hp:bG i)(H:SE c ρ (eval o c.env) (we C a ρ))(H':SE c ρ (eval i c.env) (we C b ρ)):
  SE c ρ (eval (.Subscript o i pos) c.env) (we C (.b2 op a b) ρ):=fun p Q R h q k =>
 Subscript_ (H p _ _ h q fun p1 x u h1 s1 r1 q1=>H' p1 _ _ h1 q1 fun p2 y w h2 s2 r2 q2=>by
  have kk:∀z w t,Q z p2.σ->c.V p2 z w->R w {p2.s with toks:=t}:=fun z w t q r=>Go.here (k.on (s1.trans s2)) h2 r q;clear k q h;rcases ho with rfl | rfl | rfl
  ·exact nG (P:=fun w=>wA c (subscriptTail o i u w) R p2.s) q2 r2 fun j t q=>(aK S h2.g q (r1.step h1.g s2)).elim fun l z=>(BD z.2).elim fun z' q=>(VF z.1 q.1 (fun w r=>kk z' w p2.s.toks q.2 r) hp).2
  ·exact CP q2 (r1.step h1.g s2) r2 kk hp
  ·exact CN S hr h2.g q2 (r1.step h1.g s2) r2 kk hp)
end
noncomputable def xJ(n d:Nat)(o:Option Int):Nat:=o.elim d fun i=>clipAt n i
section
variable{c:Fx}{ρ:y5}{p:Mt}{C:yA}{x y z:V}{u v w:Value}{R:Value->Shared->Prop}{Q:Kv}
def F7(n j:Nat):clipAt n (Int.ofNat j)=min j n:=by
 unfold clipAt;rw[if_neg (show ¬Int.ofNat j<0 from Int.not_lt.mpr (zD j))];refine(Nat.le_total j n).elim (fun h=>?_) fun h=>?_
 ·exact(((fun a e=>(congrArg Int.toNat ((congrArg (max 0) e).trans (Int.max_eq_right (zD _)))).trans (Int.toNat_natCast _):∀a:Nat,min (Int.ofNat j) (n:Int)=a->(max 0 (min (Int.ofNat j) (n:Int))).toNat=a)) _ (Int.min_eq_left (Int.ofNat_le.mpr h))).trans (Nat.min_eq_left h).symm
 ·exact(((fun a e=>(congrArg Int.toNat ((congrArg (max 0) e).trans (Int.max_eq_right (zD _)))).trans (Int.toNat_natCast _):∀a:Nat,min (Int.ofNat j) (n:Int)=a->(max 0 (min (Int.ofNat j) (n:Int))).toNat=a)) _ (Int.min_eq_right (Int.ofNat_le.mpr h))).trans (Nat.min_eq_right h).symm
def YA:∀n:Nat,max (0:Int) (min (-1+(n:Int)) (n:Int))=((n-1:Nat):Int)
 | 0=>rfl
 | m+1=>by
  rw[show(-1:Int)+((m+1:Nat):Int)=(m:Int)from(Int.add_comm _ _).trans (show((m:Int)+1)+(-1)=m from(Int.add_assoc (m:Int) 1 (-1)).trans (Int.add_zero _)),Int.min_eq_left (Int.ofNat_le.mpr (Nat.le_succ m)),Int.max_eq_right (zD _)];rfl
def F6(n:Nat):clipAt n (Int.negSucc 0)=n-1:=by
 unfold clipAt;rw[if_pos (by decide)];exact congrArg Int.toNat (YA n)
def iY{n d:Nat}{K:Nat->Prop}(h:s8 n d x K)(r:y7 c p x v):∃o,IsPart v o/\K (xJ n d o):=by
 cases x with
 | none=>cases r; exact⟨none,.none,h⟩
 | int i =>
  obtain⟨t,rfl⟩:=r.int;refine⟨some i,.int i t,?_⟩;clear r;cases i with
  | ofNat j=>exact(show K (clipAt n (Int.ofNat j))from(F7 n j).symm▸vF h)
  | negSucc j=>cases j with
   | zero=>exact(show K (clipAt n (Int.negSucc 0))from(F6 n).symm▸h)
   | succ j=>exact h.elim
 | _=>exact h.elim
def FF{α:Type}(l:List α)(a b:Nat):(l.drop a).take (b-a)=cut l a b:=by
 unfold cut;rw[List.drop_take]
def P8(items:List Value)(lo hi:Option Int):slicePick items.toArray lo hi none=(cut items (xJ items.length 0 lo) (xJ items.length items.length hi)).toArray:=by
 rw[slicePick_plain,<-FF];unfold xJ
 simp
def KH(n:Nat)(i:Int):clipAt n i<=n:=Int.toNat_le.mpr (Int.max_le.mpr ⟨zD n,Int.min_le_right ..⟩)
def FP(n:Nat)(o:Option Int):xJ n n o<=n/\xJ n 0 o<=n:=by
 cases o with
 | none=>exact⟨qT _,zA _⟩
 | some i=>exact⟨KH n i,KH n i⟩
def XV(lo hi:Option Int)(n:Nat):Builtin.Slice.sliceAdjust lo hi 1 (n:Int)=((xJ n 0 lo:Int),(xJ n n hi:Int)):=by
 unfold Builtin.Slice.sliceAdjust xJ;simp only[((by decide:¬((1:Int)<0))),if_false];have key:∀i:Int,(if i<0 then max (i+(n:Int)) 0 else min i (n:Int))=((clipAt n i:Nat):Int):=by
  intro i;rw[clipAt_cast]
  by_cases h:i<0
  ·rw[if_pos h,if_pos h,Int.min_eq_left (Int.le_trans (Int.add_le_add_right (Int.le_of_lt h) n) (Int.le_of_eq (Int.zero_add _))),Int.max_comm]
  ·rw[if_neg h,if_neg h,Int.max_eq_right (Int.le_min.mpr ⟨Int.not_lt.mp h,zD n⟩)]
 cases lo <;> cases hi <;> simp only[Option.elim,key] <;> rfl
def J3(a b:Nat):Builtin.Slice.slicePlaces (a:Int) (b:Int) 1=b-a:=by
 unfold Builtin.Slice.slicePlaces;simp only[((by decide:(1:Int)>0)),if_true,Int.ediv_one]
 split
 ·rw[Int.sub_add_cancel]; exact Int.toNat_sub b a
 ·rename_i h; exact(Nat.sub_eq_zero_of_le (Int.ofNat_le.mp (Int.not_lt.mp h))).symm
end
section
variable{prog:Program}{w:World}{A:Around}{E:Value->Shared->Prop}{s:Shared}
def ZB{sl:Addr}{vl vu:Value}{lo hi:Option Int}{n:Nat}{Q:Int×Int×Nat->Shared->Prop}(hs:s.heap.IsSliceOf sl vl vu .none)(pl:IsPart vl lo)(pu:IsPart vu hi)(h:Q ((xJ n 0 lo:Int),1,xJ n n hi-xJ n 0 lo) s):
  wpAny (model prog w) A (Builtin.Slice.sliceApplied (.ref sl) (pure (n:Int))) Q E s:=by
 refine qG fun ng=>?_;refine gZ (id hs) fun os hos hcs hds=>?_;refine ng ?_;have part:∀{v:Value}{o:Option Int}{Q:Option Int->Shared->Prop},IsPart v o->Q o s->wpAny (model prog w) A (Builtin.Slice.slicePartIndex v) Q E s:=by
  intro v o Q p q;cases p with
  | none=>exact slicePart_none q
  | int i t=>exact slicePart_int q
 refine wpAny_bind (wpAny_bind (wpAny_field hos hds (x:=vl) rfl (wpAny_bind (wpAny_field hos hds (x:=vu) rfl (wpAny_bind (wpAny_field hos hds (x:=.none) rfl (wpAny_pure ?_)))))));refine wpAny_bind (slicePart_none ?_);rw[if_neg (by decide)];refine wpAny_bind (part pl (wpAny_bind (part pu (wpAny_bind (wpAny_pure ?_)))));show wpAny _ _ (match Builtin.Slice.sliceAdjust lo hi 1 (n:Int)with | (lo,hi)=>pure (lo,(1:Int),Builtin.Slice.slicePlaces lo hi 1)) _ _ s;rw[XV];show wpAny _ _ (pure ((xJ n 0 lo:Int),(1:Int),Builtin.Slice.slicePlaces (xJ n 0 lo:Int) (xJ n n hi:Int) 1)) _ _ s;rw[J3];exact wpAny_pure h
def P9(xs:List Value)(a b:Nat)(hb:b<=xs.length):((List.range (b-a)).filterMap fun (k:Nat)=>xs.toArray[((a:Int)+(k:Int)*1).toNat]?).toArray=(cut xs a b).toArray:=by
 have e:(fun (k:Nat)=>xs.toArray[((a:Int)+(k:Int)*1).toNat]?)=fun k=>xs.toArray[a+k]?:=by
  funext k
  rw[Int.mul_one]; rfl
 rw[e]
 have:=pick_run xs.toArray a (b-a)
 rw[List.filterMap_map]at this;have e2:((fun x=>xs.toArray[x]?)∘fun x=>a+x)=fun k=>xs.toArray[a+k]?:=rfl;rw[e2]at this;rw[this,<-FF]
def nC{t sl:Addr}{items:List Value}{vl vu:Value}{lo hi:Option Int}{Q:Value->Shared->Prop}(ht:s.heap.IsTuple t items.toArray)(hs:s.heap.IsSliceOf sl vl vu .none)(pl:IsPart vl lo)(pu:IsPart vu hi)
  (h0:cut items (xJ items.length 0 lo) (xJ items.length items.length hi)=items->Q (.ref t) s)
  (h:Q (.ref s.heap.objs.size) {s with heap:=s.heap.push {cls:=.type "tuple",data:=.seq (cut items (xJ items.length 0 lo) (xJ items.length items.length hi)).toArray}})
  (hsz:items.length<=sizeLine):wpAny (model prog w) A (getItem (.ref t) (.ref sl)) Q E s:=by
 have hdrop:sizeOk (.seq (cut items (xJ items.length 0 lo) (xJ items.length items.length hi)).toArray):=by
  show(cut items _ _).toArray.size<=sizeLine;rw[zW];unfold cut;rw[List.length_drop,List.length_take];exact qF (Nat.sub_le ..) (qF (Nat.min_le_right ..) hsz)
 refine(id hs).elim fun os zz=>?_;have hT:s.TypeIs (.ref t) "tuple":=by obtain⟨o,ho,hc,_⟩:=ht; exact⟨o,ho,hc⟩
 unfold getItem
 try with_reducible refine wpAny_holding ?_
 first | refine wpAny_bind (wpAny_pure ?_) | skip
 refine wpAny_bind (wpAny_sequenceKey hT (by decide) ?_);refine wpAny_bind (wpAny_callSpecial?_slot (name:=Str.ofString "__getitem__") hT slot_tuple_getitem
  (wpAny_call_entry slot_tuple_getitem hT entry_tuple_getitem ?_ (args_tuple_getitem _ _)))
 show wpAny _ _ (Builtin.Tuple.tupleItemsOf (.ref t) >>= _) _ _ s;refine wpAny_bind (tupleItemsOf_ ht ?_);refine wpAny_bind (wpAny_typeOf ((⟨os,zz.1,zz.2.1⟩:s.TypeIs (.ref sl) "slice")) ?_);rw[if_pos (by decide)];refine wpAny_bind (m:=Builtin.Slice.sliceApplied (.ref sl) (pure ((items.toArray.size:Nat):Int))) ?_;rw[(by simp:items.toArray.size=items.length)];refine ZB hs pl pu ?_;show wpAny _ _ (if ((xJ items.length 0 lo:Int)==0&&(1:Int)==1&&(xJ items.length items.length hi-xJ items.length 0 lo)==items.toArray.size)=true then _ else _) _ _ s;rw[(by simp:items.toArray.size=items.length)]
 by_cases hc:((xJ items.length 0 lo:Int)==0&&(1:Int)==1&&(xJ items.length items.length hi-xJ items.length 0 lo)==items.length)=true
 ·rw[if_pos hc];have hcut:cut items (xJ items.length 0 lo) (xJ items.length items.length hi)=items:=by
   have e2:=eq_of_beq (zE.mp hc).2;rw[((Int.ofNat.inj (eq_of_beq (zE.mp (zE.mp hc).1).1):xJ items.length 0 lo=0))]at e2 ⊢;exact(show xJ items.length items.length hi=items.length from e2).symm▸List.take_length
  refine wpAny_bind (m:=Builtin.Tuple.tupleIsExact (.ref t)) ?_;refine wpAny_bind (wpAny_typeOf hT (wpAny_pure ?_));rw[if_pos (by decide)];refine wpAny_bind (wpAny_rule ?_);exact wpAny_pure ⟨_,rfl,wpAny_pure (h0 hcut)⟩
 ·rw[if_neg hc,P9 items _ _ (FP items.length hi).1]
  first
   | exact wpAny_bind (m:=Builtin.Tuple.tupleExact _) (wpAny_newObj_type (wpAny_pure ⟨_,rfl,wpAny_pure h⟩) hdrop)
   | exact wpAny_bind (m:=Builtin.Tuple.tupleExact _) (wpAny_newObj_type (wpAny_bind (wpAny_pure (wpAny_pure ⟨_,rfl,wpAny_pure h⟩))) hdrop)
   | exact wpAny_bind (wpAny_bind (m:=Builtin.Tuple.tupleExact _) (wpAny_newObj_type (wpAny_pure (wpAny_pure ⟨_,rfl,wpAny_pure h⟩)) hdrop))
   | exact wpAny_bind (wpAny_bind (m:=Builtin.Tuple.tupleExact _) (wpAny_newObj_type (wpAny_pure ⟨_,rfl,wpAny_pure h⟩) hdrop))
end
def NQ(s:List Nat):Txt.slice ⟨s.toArray⟩ none (some (-1))=⟨s.dropLast.toArray⟩:=by
 have hi:Builtin.Str.strSliceIndices none (some (-1)) 1 s.length=(List.range (s.length-1)).map (0+·):=by
  unfold Builtin.Str.strSliceIndices;simp only[show(1:Int)>0 by decide,if_true,show(-1:Int)<0 by decide,(YA s.length)]
  have:=sliceRange_one 0 (s.length-1)
  simpa using this
 have hp:((List.range (s.length-1)).map (0+·)).filterMap (fun i=>s.toArray[i]?)=s.dropLast:=by
  rw[pick_run s.toArray 0 (s.length-1)];simp[List.dropLast_eq_take]
 unfold Txt.slice;rw[((by simp[PySem.Str.length]:(⟨s.toArray⟩:PySem.Str).length=s.length)),hi]
 split
 ·rename_i h
  simp only[Bool.and_eq_true,beq_iff_eq,qH,List.length_range]at h
  have:s=[]:=by
   cases s with
   | nil=>rfl
   | cons _ _=>simp at h
  subst this;rfl
 ·exact congrArg _ (congrArg _ (hp))
section
variable{c:Fx}{ρ:y5}{p:Mt}{C:yA}{x y z:V}{u v w:Value}{R:Value->Shared->Prop}{Q:Kv}
def Q8:SE c ρ (evalPart none c.env) (we C (.c .none) ρ):=fun p Q R h q k=>wpAny_evalPart_none (k.hereT h (x:=.none) rfl q)
def Q9{e:Expr}{ex:Ex}(H:SE c ρ (eval e c.env) (we C ex ρ)):SE c ρ (evalPart (some e) c.env) (we C ex ρ):=fun p Q R h q k=>wpAny_evalPart_some (H p Q R h q k)
def hU{l u:Option Expr}{p:Pos}(o i:Value):subscripted (.Slice l u none p) false o i=operate [i,o] (getItem o i):=rfl
def q2M{N:V->Value->Prop}{l:List V}{xs:List Value}(r:y6 N l xs)(a b:Nat):y6 N (cut l a b) (cut xs a b):=(r.take b).drop a
noncomputable def Mt.slc(p:Mt)(v w:Value):Mt:=⟨p.m,p.σ,{p.s with heap:=p.s.heap.push {cls:=.type "slice",data:=.fields #[v,w,.none]}}⟩
def At.slc(h:At c ρ p)(v w:Value):At c ρ (p.slc v w)/\yC no p (p.slc v w):=h.push _
def U2:(p.slc v w).s.heap.IsSliceOf p.s.heap.objs.size v w .none:=Heap.IsSliceOf.new ..
abbrev q1H(c:Fx)(p:Mt)(o:Expr)(l1 l2:Option Expr)(sp:Pos)(u v w:Value)(R:Value->Shared->Prop):Prop:=wA c (subscriptTail o (.Slice l1 l2 none sp) u (.ref p.s.heap.objs.size)) R (p.slc v w).s
variable{eo:Expr}{l1 l2:Option Expr}{sp:Pos}
def TR{l:List V}(h:At c ρ p)(r1:y7 c p (.tup l) u)(r2:y7 c p y v)(r3:y7 c p z w)(k:Go c ρ p Q R)(q:v9 l (s8 l.length 0 y fun a=>s8 l.length l.length z fun b=>Q (.tup (cut l a b)) p.σ)):q1H c p eo l1 l2 sp u v w R:=by
 refine qG fun ng=>?_;refine(h.slc v w).elim fun h4 s4=>?_;have hl:=(wE q).1;refine wI (iY (vF q) r2) fun lo p1 q=>?_;refine wI (iY q r3) fun hi p2 q=>?_;obtain⟨xs,b,rfl,nb,t,rr⟩:=(r1.step h.g s4.w).tup;refine ng ?_;have hlen:=rr.length;have z:=q2M rr (xJ l.length 0 lo) (xJ l.length l.length hi);clear r1 r2 r3;refine tail_any (t.elim fun o z=>⟨o,z.1,z.2.1⟩) slot_tuple_getitem.lookup (nC t U2 p1 p2 (fun hw=>?_) ?_ (hlen▸qF hl (by decide))) (hU _ _)
 ·rw[<-hlen]at hw;exact(k.on s4.w).hereT h4 (x:=.tup (cut l _ _)) ⟨xs,dH (hw▸z),b,rfl,nb,t⟩ q
 ·exact(hlen)▸(Go.tuple (k.on s4.w) h4 z q)
def TQ{l:List Nat}(h:At c ρ p)(r1:y7 c p (.str l) u)(r2:y7 c p y v)(r3:y7 c p z w)(k:Go c ρ p Q R)(q:ck (isNone y) (yN z fun i=>ck (decide (i=-1)) (ZU l (Q (.str l.dropLast) p.σ)))):q1H c p eo l1 l2 sp u v w R:=by
 cases eq_of_beq ((oY r2).trans (bY q));refine nG (P:=fun w=>q1H c p eo l1 l2 sp u .none w R) (vF q) r3 fun i t' q=>?_;cases zT (bY q);refine(r1.str).elim fun t z=>z▸?_;refine tail_any (typeIs_str _ _ _) PySem.F.slot_str_getitem.lookup
  (wpAny_getItem_str_slice (l:=none) (u:=some (-1,t')) (st:=none) ⟨_,zY _ rfl,rfl,rfl⟩ rfl
   (post_val_or_str ⟨qF (Txt.slice_le _ none (some (-1))) (qF (E8 (vF q)).1 (by decide)),fun t2 kk=>?_⟩)) (hU _ _)
 show R (.str (Txt.slice ⟨l.toArray⟩ none (some (-1))) t2) _;rw[NQ];exact(k.on (h.slc _ _).2.w).here (h.slc _ _).1 (x:=.str l.dropLast) ⟨t2,rfl⟩ (vF (vF q))
def TP(S:yW c.X)(h:At c ρ p)(r1:y7 c p x u)(r2:y7 c p y v)(r3:y7 c p z w)(k:Go c ρ p Q R)(q:xK (obj p.σ x) fun l=>v9 l (s8 l.length 0 y fun a=>s8 l.length l.length z fun b=>Q (.lst (cut l a b)) p.σ)):q1H c p eo l1 l2 sp u v w R:=by
 refine qG fun ng=>?_;obtain⟨l,b,xs,n,rfl,t,rr,q⟩:=bN S h.g q r1;have hl:=(wE q).1;refine wI (iY (vF q) r2) fun lo p1 q=>?_;refine(iY q r3).elim fun hi zz=>?_;refine ng ?_;clear r1 r2 r3;refine tail_any (il ((zX _ t:(p.slc v w).s.heap.get? b=_))).typeIs slot_list_getitem.lookup
  (wpAny_getItem_list_slice (il ((zX _ t:(p.slc v w).s.heap.get? b=_))) U2 p1 zz.1 .none (fun h=>by cases h) ?_ (qF (qK rr.length.symm) (qF hl (by decide)))) (hU _ _)
 rw[P8];exact(rr.length)▸(Go.frozen (k.on ((h.slc v w).2).w) (h.slc v w).1 (q2M (rr.mono fun z0 z0 t=>yG.step h.g ((h.slc v w).2).w t) _ _) zz.2)
def PZ(S:yW c.X)(h:At c ρ p)(r1:y7 c p x u)(r2:y7 c p y v)(r3:y7 c p z w)(k:Go c ρ p Q R)(q:q4E p.σ x y z (kq Q p.σ)):q1H c p eo l1 l2 sp u v w R:=by
 refine qG fun ng=>?_;cases x with
 | tup l=>exact ng (TR h r1 r2 r3 k q)
 | str l=>exact ng (TQ h r1 r2 r3 k q)
 | _=>exact ng (TP S h r1 r2 r3 k q)
def PV(S:yW c.X){o:Expr}{lower upper:Option Expr}{oe le ue:Ex}{pos sp:Pos}(H:SE c ρ (eval o c.env) (we C oe ρ))(H1:SE c ρ (evalPart lower c.env) (we C le ρ))(H2:SE c ρ (evalPart upper c.env) (we C ue ρ)):
  SE c ρ (eval (.Subscript o (.Slice lower upper none sp) pos) c.env) (we C (.slice oe le ue) ρ):=fun p Q R h q k =>
 Subscript_ (H p _ _ h q fun p1 x u h1 s1 r1 q1=>wpAny_Slice (H1 p1 _ _ h1 q1 fun p2 y v h2 s2 r2 q2=>H2 p2 _ _ h2 q2 fun p3 z w h3 s3 r3 q3=>wpAny_evalPart_none
  (PZ S h3 ((r1.step h1.g s2).step h2.g s3) (r2.step h2.g s3) r3 (k.on ((s1.trans s2).trans s3)) q3)))
def OV(S:yW c.X){o:Expr}{oe:Ex}{pos p p' q':Pos}{k:Nat}(H:SE c ρ (eval o c.env) (we C oe ρ)):
  SE c ρ (eval (.Subscript o (.Slice none none (some (.UnaryOp .USub (.Constant (.int 1) k q') p')) p) pos) c.env) (we C (.b1 .rev oe) ρ):=fun p Q R h q k =>
 Subscript_ (H p _ _ h q fun p1 x u h1 s1 r1 q1=>wpAny_Slice (wpAny_evalPart_none (wpAny_evalPart_none (wpAny_evalPart_some (wpAny_UnaryOp (wpAny_Constant_int (neg_int (by
  refine qG fun ng=>?_;obtain⟨l,b,xs,n,rfl,t,rr,q⟩:=bN S h1.g q1 r1;refine(wE q).elim fun hl q=>?_;refine(h1.push {cls:=.type "slice",data:=.fields #[.none,.none,.int (-1) (p1.s.toks+1)]}).elim fun h4 s4=>?_;refine ng ?_;have hb:(p1.s.heap.push {cls:=.type "slice",data:=.fields #[.none,.none,.int (-1) (p1.s.toks+1)]}).get? b=_:=zX _ t;refine tail_any (s:={p1.s with heap:=p1.s.heap.push {cls:=.type "slice",data:=.fields #[.none,.none,.int (-1) (p1.s.toks+1)]},toks:=p1.s.toks+1+1}) (il hb).typeIs slot_list_getitem.lookup
   (wpAny_getItem_list_slice (il hb) (Heap.IsSliceOf.new ..) .none .none (.int (-1) _) (by simp) ?_ (qF (qK rr.length.symm) (qF hl (by decide)))) rfl
  rw[krv_pick];exact Go.frozen (k.on ((s1.trans s4.w).trans .tok)) (h4.tok (t:=p1.s.toks+1+1)) (rr.mono fun z0 z0 t=>yG.step h1.g s4.w t).reverse q))))))))
end
noncomputable def wT:Expr->Bool
 | .Call _ _ _ _=>false
 | _=>true
section
variable{c:Fx}{ρ:y5}{p:Mt}{C:yA}{x y z:V}{u v w:Value}{R:Value->Shared->Prop}{Q:Kv}{n:String}
def dM{o:Expr}{attr:Str}{env:Env}{whole:Sem Value}(h:wT o=true):attributeBase o attr env whole=whole:=by
 cases o <;> first | rfl | cases h
def yJ.kin(S:yW c.X)(G:yJ c p):c.X.K.In p.s.heap:=S.kin.keeps G.base
def BZ{e:DictEntry}{k:String}{t:Tok}(hk:e.key=.str (tx k) t):e.key.isStr (tx n)=decide (k=n):=by
 rw[hk]
 by_cases h:k=n
 ·subst h; exact(beq_self_eq_true _).trans (zU rfl).symm
 ·exact(zV.mpr fun z=>h (aS z)).trans (decide_eq_false h).symm
def q0N(c:Fx)(p:Mt)(f:String×V)(e:DictEntry):Prop:=(∃t,e.key=.str (tx f.1) t)/\e.hash=hashStr c.X.w (tx f.1)/\c.V p f.2 e.val
def Q1{fs:List (String×V)}:∀{es:List DictEntry},y6 (q0N c p) fs es->(es.any (·.refKey))=false/\cO (c.V p) (jE fs n) ((es.find? (·.key.isStr (tx n))).map (·.val)):=by
 induction fs with
 | nil=>intro es q; cases es with
  | nil=>exact⟨rfl,trivial⟩
  | cons _ _=>exact q.elim
 | cons f fs ih=>intro es q; cases es with
  | nil=>exact q.elim
  | cons e es =>
   refine qG fun ng=>?_;refine(ih q.2).elim fun i1 i2=>?_;refine(q.1.1).elim fun t hk=>?_;refine ng ?_;rw[List.any_cons,(by unfold DictEntry.refKey; rw[hk]:e.refKey=false),i1,List.find?_cons,BZ hk];refine⟨rfl,?_⟩;unfold jE
   by_cases h:f.1=n
   ·rw[if_pos h,zU h]; exact q.1.2.2
   ·rw[if_neg h,decide_eq_false h]; exact i2
def T4{es:List DictEntry}{v:V}{fs:List (String×V)}(q:y6 (q0N c p) fs es)(e:jE fs n=some v):∃u,getL (tx n) es=some (some u)/\c.V p v u:=by
 have z:=(Q1 (n:=n) q).2;unfold getL;rw[e]at z;cases h:es.find? (·.key.isStr (tx n))with
 | none=>rw[h]at z; exact z.elim
 | some en=>rw[h]at z; exact⟨_,rfl,z⟩
def T0{es:List DictEntry}{fs:List (String×V)}(q:y6 (q0N c p) fs es)(e:jE fs n=none):getL (tx n) es=some none:=by
 have z:=Q1 (n:=n) q;unfold getL;rw[e]at z;cases h:es.find? (·.key.isStr (tx n))with
 | none=>dsimp only; rw[z.1]; rfl
 | some en=>rw[h]at z; exact z.2.elim
def J5(r:c.V p x v):handedIn v=true:=by
 cases x with
 | none | bool | spans=>cases r; rfl
 | fn=>rw[r.1]; rfl
 | int | str=>obtain⟨t,rfl⟩:=r; rfl
 | ref g n=>obtain⟨_,a,_,rfl⟩:=r; rfl
 | iset l=>obtain⟨a,rfl,_⟩:=r; rfl
 | rng l n=>obtain⟨a,rfl,_⟩:=r; rfl
 | blt n =>
  obtain⟨rfl,m⟩:=r
  have:∀n∈q59,handedIn (fA n)=true:=by decide +kernel
  exact this n (qX.mp m)
 | _=>obtain⟨xs,_,a,rfl,_⟩:=r; rfl
set_option genCtorIdx false in
structure GD (c:Fx) (p:Mt) (u:Value) (k:String) (d:Nat) (fs:List (String×V)) (a b:Addr) (es:List DictEntry) (m:Nat):Prop where
 eq:u=.ref a
 cls:k∈LJ
 md:p.m true d=some b
 at_:p.σ.at true d=some (.ns fs)
 inst:InstAt p.s.heap a (instObj (c.X.FA k) b) (c.X.FA k) (some (dictOf es m))
 ns:p.s.heap.get? b=some (dictOf es m)
 q:y6 (q0N c p) fs es
def BO{K:String->Nat->List (String×V)->Prop}{P:Prop}(h:mT p.σ x K)(f:∀k d fs,obj p.σ x=some (.inst k d)->jM p.σ.g d=some (.ns fs)->K k d fs->P):P:=by
 have h:(match obj p.σ x with
  | some (.inst c d)=>isNs (jM p.σ.g d) (K c d)
  | _=>False):=h
 revert h f;cases obj p.σ x with
 | none=>exact fun z0=>False.elim
 | some ob=>cases ob with
  | inst k d =>
   dsimp only;cases e2:jM p.σ.g d with
   | none=>exact fun z0=>False.elim
   | some ob=>cases ob <;> first | exact fun f h=>f _ _ _ rfl e2 h | exact fun z0=>False.elim
  | _=>exact fun z0=>False.elim
def nF(S:yW c.X)(G:yJ c p){K:String->Nat->List (String×V)->Prop}(h:mT p.σ x K)(r:y7 c p x u):∃k d fs a b es m,GD c p u k d fs a b es m/\K k d fs :=
 BO h fun k d fs e e2 h=>(vA S G e r).elim fun a z=>z.r.2.elim fun b hb=>(G.rep true d _ e2).elim fun b' q=>v4 q.2 fun es m w=>by
  cases hb.1.symm.trans q.1;exact⟨k,d,fs,a,b,es,m,⟨z.e,qX.mp z.r.1,hb.1,e2,⟨hb.2,rfl,rfl,w.1⟩,w.1,w.2⟩,h⟩
def K7(S:yW c.X)(G:yJ c p)(hn:n∈pK){k:String}{d m:Nat}{fs:List (String×V)}{a b:Addr}{es:List DictEntry}(I:GD c p u k d fs a b es m){v:V}(e:jE fs n=some v){expr:Bool}(h:∀w t,c.V p v w->R w {p.s with toks:=t}):wA c (getAttr u (tx n) expr) R p.s:=by
 refine wI (T4 I.q e) fun w h1 h2=>?_;exact(I.eq)▸(get_value (G.kin S) I.inst (S.cls k I.cls).ga (findObj_own (S.cls k I.cls).hasD ((S.cls k I.cls).attr n hn) rfl h1) (J5 h2) (h w _ h2))
def C2(S:yW c.X){o:Expr}{pos:Pos}{a:Ex}(hn:n∈pK)(hb:wT o=true)(H:SE c ρ (eval o c.env) (we C a ρ)):SE c ρ (eval (.Attribute o (tx n) pos) c.env) (we C (.attr a n) ρ):=fun p Q R h q k=>by
 rw[arm_eval_Attribute,dM hb];refine wpAny_bind (H p _ _ h q fun p' x u h' s r q=>?_);refine qG fun ng=>?_;refine uN (nF S h'.g q r) fun kk d fs a z=>uM z fun b es m I q=>?_;refine(NE q).elim fun v zz=>?_;refine ng ?_;refine wpAny_bind (wpAny_standAt (wpAny_bind (wpAny_holding (K7 S h'.g hn I zz.1 fun w t hw=>?_))));exact wpAny_bind (wpAny_letTemporaryGo (wpAny_pure (Go.here (k.on s) h' hw zz.2)))
def DY{p':Mt}{z:V}{v:Value}{t:Tok}(k:∀x v,c.V p x v->c.V p' x v)(hz:c.V p' z v){fs:List (String×V)}:∀{es:List DictEntry},
  y6 (q0N c p) fs es->y6 (q0N c p') (J4 fs n z) (putL (tx n) (hashStr c.X.w (tx n)) (.str (tx n) t) v es):=by
 induction fs with
 | nil=>intro es q; cases es with
  | nil=>exact⟨⟨⟨_,rfl⟩,rfl,hz⟩,trivial⟩
  | cons _ _=>exact q.elim
 | cons f fs ih=>intro es q; cases es with
  | nil=>exact q.elim
  | cons e es =>
   obtain⟨t',hk⟩:=q.1.1;unfold J4 putL;rw[BZ hk]
   by_cases h:f.1=n
   ·rw[if_pos h,zU h];exact⟨⟨q.1.1,q.1.2.1,hz⟩,q.2.mono fun x y r=>⟨r.1,r.2.1,k _ _ r.2.2⟩⟩
   ·rw[if_neg h,decide_eq_false h];exact⟨⟨q.1.1,q.1.2.1,k _ _ q.1.2.2⟩,ih q.2⟩
theorem YT{h:Int}{kv v:Value}:∀es:List DictEntry,(putL (tx n) h kv v es).length<=es.length+1
 | []=>qT _
 | e::es=>by
  unfold putL
  split
  ·exact Nat.le_succ _
  ·exact z7 (YT es)
def U1(S:yW c.X)(G:yJ c p)(hn:n∈pK){k:String}{d m:Nat}{fs:List (String×V)}{a b:Addr}{es:List DictEntry}(I:GD c p u k d fs a b es m)(hl:fs.length<500)(r:c.V p y v){R:Unit->Shared->Prop}
  (h:∀p',yJ c p'->yC no p p'->p'.σ=p.σ.set (.ns (J4 fs n y)) true d->R () p'.s):wA c (setAttr u (tx n) v) R p.s:=by
 have F:=S.cls k I.cls;rw[I.eq];refine set_plain (G.kin S) I.inst F.sa ?_;refine osa_open (s:={p.s with toks:=p.s.toks+1}) (G.kin S) I.inst F.over ((by unfold takerIn; rw[F.attr n hn]; rfl:takerIn c.X.K (c.X.FA k) (tx n)=some none)) fun bb=>?_;refine(any_some F.hasD).elim fun cd zz=>?_;refine wpAny_bind (wpAny_pure (wpAny_bind (wpAny_bind (wpAny_loadPart I.inst.at_ (wpAny_bind (Looks.here (s:={p.s with toks:=p.s.toks+1}) (looks_clsIn (G.kin S) zz.1) ?_))))));rw[zz.2];refine wpAny_pure (a:=some b) (wpAny_bind (wpAny_pure (wpAny_bind ?_)));refine wpAny_bind (wpAny_bind (wpAny_askSetting (wpAny_pure (wpAny_bind (wpAny_mkText (wpAny_bind (wpAny_loadPart I.ns ?_)))))));have c':(!es.toArray.any (·.key.isStr (tx n))&&es.toArray.any (·.refKey))=false:=by
  rw[List.any_toArray,List.any_toArray,(Q1 (n:=n) I.q).1,Bool.and_false]
 dsimp only;rw[aRefKeyMayBeTheName_at,c'];refine wpAny_updatePart I.ns ?_;have hd':(p.s.heap.update b (Obj.putName (tx n) (PyData.keyHash c.X.w.params (tx n)) (.str (tx n) (p.s.toks+1)) v)).get? b=some (dictOf (putL (tx n) (hashStr c.X.w (tx n)) (.str (tx n) (p.s.toks+1)) v es) (W.putN (tx n) es m)):=by
  exact((putName_dict _ _ _ _ _ _))▸(Heap.get?_update_self _ I.ns (by rw[(putName_dict _ _ _ _ _ _)]; rfl))
 refine wpAny_bind (wpAny_lookBehind hd' (pastItsLine_dict (by
  rw[zW,sizeLine_eq]; exact yX [_,_,_] (LF.c 1 (.a (.v 0) (.k 1)) (.k 500) (LF.c 1 (.v 1) (.a (.v 2) (.k 1)) (LF.c 1 (.v 2) (.v 0) .n))) 0 (.v 1) (.a (.k 16777216) (.k 1)) rfl hl (YT (n:=n) (h:=hashStr c.X.w (tx n)) (kv:=.str (tx n) (p.s.toks+1)) (v:=v) es) (qK I.q.length.symm))) ?_)
 exact wpAny_pure (h _ (G.upd (ob:=.ns (J4 fs n y)) (s:={p.s with heap:=p.s.heap.update b (Obj.putName (tx n) (PyData.keyHash c.X.w.params (tx n)) (.str (tx n) (p.s.toks+1)) v),toks:=p.s.toks+1+1}) I.at_ (fun z=>nomatch z) I.md (Heap.SameBut.update p.s.heap b _) ⟨_,hd'⟩ rfl rfl fun kk=>⟨_,_,hd',DY (t:=p.s.toks+1) kk (kk _ _ r) I.q⟩).1 (G.upd (ob:=.ns (J4 fs n y)) (s:={p.s with heap:=p.s.heap.update b (Obj.putName (tx n) (PyData.keyHash c.X.w.params (tx n)) (.str (tx n) (p.s.toks+1)) v),toks:=p.s.toks+1+1}) I.at_ (fun z=>nomatch z) I.md (Heap.SameBut.update p.s.heap b _) ⟨_,hd'⟩ rfl rfl fun kk=>⟨_,_,hd',DY (t:=p.s.toks+1) kk (kk _ _ r) I.q⟩).2 rfl)
end
section
variable{prog:Program}{w:World}{A:Around}{E:Value->Shared->Prop}{s:Shared}
def sC{l:Addr}{xs:List Value}{n:Nat}{k:Int}{t:Tok}{v:Value}{Q:Unit->Shared->Prop}(ho:s.heap.get? l=some (seqObj "list" xs.toArray n))
  (h0:0<=k) (hfit:k<2 ^ 63) (hn:k<xs.length)
  (hQ:∀h' n',h'.get? l=some (seqObj "list" (xs.set k.toNat v).toArray n')->Heap.SameBut l s.heap h'->Q () {s with heap:=h'}) :
  wpAny (model prog w) A (setItem (.ref l) (.int k t) v) Q E s:=by
 have hl:s.heap.IsList l xs.toArray:=⟨_,ho,rfl,n,rfl⟩;unfold setItem
 try with_reducible refine wpAny_holding ?_
 first | refine wpAny_bind (wpAny_pure ?_) | skip
 refine wpAny_bind (wpAny_sequenceKey hl.typeIs (by decide) ?_);refine wpAny_bind (wpAny_callSpecial?_slot (name:=Str.ofString "__setitem__") hl.typeIs slot_list_setitem
  (wpAny_call_entry slot_list_setitem hl.typeIs entry_list_setitem ?_ (args_list_setitem _ _ _)))
 show wpAny _ _ (Builtin.List.listSubscript? (.int k t) >>= _) _ _ s;refine wpAny_bind (wpAny_listSubscript_int (fitsIndex_of h0 hfit) ?_);clear hfit;obtain⟨j,rfl⟩:=Int.eq_ofNat_of_zero_le h0;have hj:j<xs.toArray.size:=zI.mp hn;refine wpAny_bind (wpAny_bind (wpAny_seqItemAt ho rfl (wpAny_pure ?_)));rw[(Array.getElem?_eq_getElem hj:xs.toArray[j]?=some xs.toArray[j])];show wpAny _ _ (setSeqItemAt l j v >>= _) _ _ s;have hfin:∃n',(s.heap.update l (Obj.mapSeq (·.setIfInBounds j v))).get? l=some (seqObj "list" (xs.set j v).toArray n') :=
  ⟨_,by rw[Heap.get?_update_self _ ho rfl]; simp only[Obj.mapSeq,List.setIfInBounds_toArray]; rfl⟩
 refine qG fun ng=>?_;refine(hfin).elim fun n' hfin=>?_;refine ng ?_;refine wpAny_bind (wpAny_setSeqItemAt ho rfl ?_)
 first
  | exact wpAny_bind (wpAny_pure (wpAny_pure ⟨.none,rfl,wpAny_pure (hQ _ n' hfin (Heap.SameBut.update ..))⟩))
  | exact wpAny_pure ⟨.none,rfl,wpAny_pure (hQ _ n' hfin (Heap.SameBut.update ..))⟩
end
section
variable{κ κ':Type}[DecidableEq κ][DecidableEq κ']{f:κ->κ'}{R:V->Value->Prop}{k:κ}{v:V}{u:Value}{es:List (κ×V)}
def YE(hf:∀{a b},f a=f b->a=b){β:Type}{ks:List (κ'×β)}(q:y6 (fun (e:κ×V) (x:κ'×β)=>x.1=f e.1) es ks):(ks.any fun x=>decide (x.1=f k))=(y8 es k).isSome :=
 q.ind (P:=fun es ks=>(ks.any fun x=>decide (x.1=f k))=(y8 es k).isSome) rfl fun e x es ks q ih z0=>by
  rw[List.any_cons,ih]
  by_cases h:e.1=k
  ·rw[zU (q.trans (congrArg f h)),show y8 (e::es) k=some e.2 from if_pos h]; rfl
  ·rw[decide_eq_false fun z=>h (hf (q.symm.trans z)),show y8 (e::es) k=y8 es k from if_neg h]; rfl
def kI(hf:∀{a b},f a=f b->a=b)(r:R v u){kvs:List (κ'×Value)}(q:y6 (fun (e:κ×V) (x:κ'×Value)=>x.1=f e.1/\R e.2 x.2) es kvs):
  y6 (fun (e:κ×V)(x:κ'×Value)=>x.1=f e.1/\R e.2 x.2) (xQ es k v) (stored kvs (f k) u):=by
 unfold xQ stored;rw[YE hf (q.mono fun z0 z0 z=>z.1)];cases (y8 es k).isSome with
 | true =>
  refine q.maps fun e x q=>?_
  by_cases z:e.1=k
  ·rw[if_pos z,if_pos (q.1.trans (congrArg f z))]; exact⟨q.1,r⟩
  ·rw[if_neg z,if_neg fun y=>z (hf (q.1.symm.trans y))]; exact q
 | false=>exact q.append ⟨⟨rfl,r⟩,trivial⟩
def YU{T:κ->Addr->Prop}{a:Addr}(t:T k a)(r:R v u){kvs:List (κ×Addr×Value)}(q:y6 (fun (e:κ×V) (x:κ×Addr×Value)=>x.1=e.1/\T e.1 x.2.1/\R e.2 x.2.2) es kvs):
  y6 (fun (e:κ×V)(x:κ×Addr×Value)=>x.1=e.1/\T e.1 x.2.1/\R e.2 x.2.2) (xQ es k v) (storedH kvs k a u):=by
 unfold xQ storedH atKey;rw[Option.isSome_map,List.isSome_find?,show(kvs.any fun x=>decide (x.1=k))=(y8 es k).isSome from YE (f:=id) id (q.mono fun z0 z0 z=>z.1)];cases (y8 es k).isSome with
 | true =>
  refine q.maps fun e x q=>?_;unfold putAt
  by_cases z:e.1=k
  ·rw[if_pos z,if_pos (q.1.trans z)]; exact⟨q.1,q.2.1,r⟩
  ·rw[if_neg z,if_neg fun y=>z (q.1.symm.trans y)]; exact q
 | false=>exact q.append ⟨⟨rfl,t,r⟩,trivial⟩
end
section
variable{c:Fx}{ρ:y5}{p:Mt}{C:yA}{x y z:V}{u v w:Value}{n:String}
def q77(c:Fx)(ρ:y5)(p:Mt)(K:St->Prop)(R:Shared->Prop):Prop:=∀p',At c ρ p'->yC c.own p p'->K p'.σ->R p'.s
def DM(h:gY x=true):∃g n,x=.ref g n:=by
 cases x <;> first | exact⟨_,_,rfl⟩ | exact ff h
def At.upd(h:At c ρ p){s:Shared}{a:Addr}{ob old:Ob}{g:Bool}{n:Nat}(e:p.σ.at g n=some old)(ho:old≠.dead)(em:p.m g n=some a)(sb:Heap.SameBut a p.s.heap s.heap)(there:∃o,s.heap.get? a=some o)(gn:s.gens=p.s.gens)(os:s.os=p.s.os)
  (r:(∀x v,c.V p x v->c.V ⟨p.m,p.σ.set ob g n,s⟩ x v)->wM c ⟨p.m,p.σ.set ob g n,s⟩ a ob):At c ρ ⟨p.m,p.σ.set ob g n,s⟩/\yC no p ⟨p.m,p.σ.set ob g n,s⟩ :=
 ⟨h.step (h.g.upd e ho em sb there gn os r).2 (h.g.upd e ho em sb there gn os r).1,(h.g.upd e ho em sb there gn os r).2⟩
def Y7{α β:Type}{R:α->β->Prop}{l:List α}{m:List β}(q:y6 R l m)(h:Nat.blt l.length lim=true):m.length<=sizeLine :=
 q.length▸qF (z9 (z8 h)) (by decide)
def eU{κ κ':Type}[DecidableEq κ][DecidableEq κ']{knd:PySem.KeyKind c.X.prog c.X.w κ'}{f:κ->κ'}{mk:List (κ×V)->Ob}(hf:∀{a b},f a=f b->a=b)(nd:∀es,mk es≠.dead)
  (hm:∀(p:Mt)a es,wM c p a (mk es)↔∃kvs,p.s.heap.DictOf knd a kvs/\y6 (fun (e:κ×V)(x:κ'×Value)=>x.1=f e.1/\c.V p e.2 x.2) es kvs)
  (h:At c ρ p) {g:Bool} {n:Nat} {a:Addr} {es:List (κ×V)} {i:κ} {K:St->Prop} {R:Unit->Shared->Prop} (e:p.σ.at g n=some (mk es)) (em:p.m g n=some a) (hk:knd.is (f i) v=true) (rv:c.V p z w) (k:q77 c ρ p K (R ()))
  (q:ck (Nat.blt es.length lim) (K (p.σ.set (mk (xQ es i z)) g n))):wA c (setItem (.ref a) v w) R p.s:=by
 refine qG fun ng=>?_;refine wI (h.g.rep g n _ e) fun b em' RR=>?_;refine ng ?_;cases em.symm.trans em';refine wI ((hm p a es).mp RR) fun kvs d rr=>?_;refine wpAny_setItem_pairs hk d (fun h' d' sb=>?_) (Y7 rr (bY q));exact k _ (h.upd (s:={p.s with heap:=h',toks:=p.s.toks+1}) (ob:=mk (xQ es i z)) e (nd _) em sb (d'.elim fun o d=>d.elim fun es d=>d.elim fun ep d=>⟨o,d.1⟩) rfl rfl fun f=>(hm _ a _).mpr ⟨_,d',kI hf (f _ _ rv) (rr.mono fun z0 z0 z=>⟨z.1,f _ _ z.2⟩)⟩).1 (h.upd (s:={p.s with heap:=h',toks:=p.s.toks+1}) (ob:=mk (xQ es i z)) e (nd _) em sb (d'.elim fun o d=>d.elim fun es d=>d.elim fun ep d=>⟨o,d.1⟩) rfl rfl fun f=>(hm _ a _).mpr ⟨_,d',kI hf (f _ _ rv) (rr.mono fun z0 z0 z=>⟨z.1,f _ _ z.2⟩)⟩).2.w (vF q)
def CB(S:yW c.X)(hr:wX c.A)(h:At c ρ p){K:St->Prop}{R:Unit->Shared->Prop}(q:AQ p.σ x y z K)(ro:y7 c p x u)(rk:y7 c p y v)(rv:y7 c p z w)(k:q77 c ρ p K (R ())):wA c (setItem u v w) R p.s:=by
 have rv:=rv.gv (bY q);obtain⟨g,n,rfl⟩:=DM (bY (vF q));have q:q45 (p.σ.at g n) y z (fun ob=>K (p.σ.set ob g n)):=vF (vF q);obtain⟨a,em,rfl⟩:=ro;cases y with
 | int i=>exact BI q fun es e q=>rk.elim fun t et=>eU (mk:=.dI) (f:=id) id (fun z0 z=>nomatch z) (fun z0 z0 z0=>Iff.rfl) h e em (et▸intKind_is _ _ i t) rv k q
 | str i=>exact BK q fun es e q=>rk.elim fun t et=>eU (mk:=.dS) (f:=fun i:List Nat=>(⟨i.toArray⟩:PySem.Str)) aP (fun z0 z=>nomatch z) (fun z0 z0 z0=>Iff.rfl) h e em (et▸strKind_is _ _ _ t) rv k q
 | tup i =>
  refine BM (vF q) fun es e q'=>?_;refine qG fun ng=>?_;obtain⟨xs,b,rfl,_,_⟩:=rk.tup;obtain⟨b',em',kvs,d,rr⟩:=h.g.rep g n _ e;refine ng ?_;cases em.symm.trans em';refine wpAny_setItem_heap (knd:=dF c.X) (qI (show c.A.units+1+10<=c.A.units+40 from qL (n:=11) (by decide) _) hr.2) ⟨(bY q),WQ 3 (bY q) rk⟩ d (fun h' d' sb=>?_) (Y7 rr (bY q'));have U:=fun t=>h.upd (s:={p.s with heap:=h',toks:=t}) (ob:=.dT (xQ es i z)) e (fun z=>nomatch z) em sb (gE d' fun o es ep d=>⟨o,d.1⟩) rfl rfl fun f=>⟨_,d',YU (T:=fun l a=>c.V ⟨p.m,p.σ.set (.dT (xQ es i z)) g n,{p.s with heap:=h',toks:=t}⟩ (.tup l) (.ref a)) (f _ _ rk) (f _ _ rv) (rr.mono fun z0 z0 z=>⟨z.1,f _ _ z.2.1,f _ _ z.2.2⟩)⟩;exact k _ (U _).1 (U _).2.w (vF q')
 | _=>exact q.elim
end
end
section
section
set_option genInjectivity true
inductive yD where
 | key (s:List Nat)
 | boo (a b:Int)
 | obj
 | uni (l:List Int)
 | str (s:List Nat) (f:Int)
 | num (n f:Int)
 | par (p:Int)
 | arr (e ro:Int)
 | tpl (l:List (Int×Int)) (ro:Int)
section
open Classical in
instance:DecidableEq yD:=fun a b=>Classical.propDecidable (a=b)
noncomputable def jA(x:Int×Int):V:=.tup [.int x.1,.int x.2]
noncomputable def yD.enc:yD->List V
 | .key s=>[.int 1,.str s]
 | .boo a b=>[.int 2,.int a,.int b]
 | .obj=>[.int 8,.tup [],.tup [],.tup [],.tup [],.tup [],.int 0]
 | .uni l=>[.int 6,.tup (vI l)]
 | .str s f=>[.int 3,.str s,.int f]
 | .num n f=>[.int 4,.int n,.int f]
 | .par p=>[.int 10,.int p]
 | .arr e ro=>[.int 11,.int e,.int ro]
 | .tpl l ro=>[.int 12,.tup (l.map jA),.int ro]
end
end
end
section
open PySem PyProof.Rows PySem.Spec
def eI{a:Bool}(h:(!a)=true):a=false:=by cases a <;> first | rfl | cases h
def xH(l:List Int):(sortI l).Perm l:=List.mergeSort_perm l _
def nY(l:List Int):(sortI l).Pairwise (·<=·):=(List.pairwise_mergeSort (le:=fun a b:Int=>decide (a<=b)) (fun a b c h h'=>zU (Int.le_trans (zT h) (zT h'))) (fun a b=>Bool.or_eq_true_iff.mpr ((Int.le_total a b).imp zU zU)) l).imp zT
def QE{l m:List Int}(p:m.Perm l)(s:m.Pairwise (·<=·)):m=sortI l :=
 List.Perm.eq_of_pairwise (fun a b z0 z0 h1 h2=>Int.le_antisymm h1 h2) s (nY l) (p.trans (xH l).symm)
def oS{a b:List Nat}(h:pJ a b=false):b<=a:=List.not_lt.mp (of_decide_eq_false h)
def WS{a b:List Nat}(h:b<=a):pJ a b=false:=decide_eq_false (List.not_lt.mpr h)
def HV(a:List Nat):pJ a a=false:=WS (List.le_refl a)
def VK(a b:List Nat)(h:pJ a b=false)(h':pJ b a=false):a=b:=List.le_antisymm (oS h') (oS h)
def fR(a b:List Nat)(h:pJ a b=true):pJ b a=false:=WS (List.le_of_lt (zT h))
def mX(a b c:List Nat)(h:pJ a b=false)(h':pJ b c=false):pJ a c=false:=WS (List.le_trans (oS h') (oS h))
def q7N(x y:List Nat):Prop:=pJ y x=false
def JB(l:List (List Nat)):(sortS l).Perm l:=List.mergeSort_perm l _
def nZ(l:List (List Nat)):(sortS l).Pairwise q7N:=(List.pairwise_mergeSort (fun a b c h h'=>congrArg not (mX c b a (eI h') (eI h))) (fun a b=>by
 show(!pJ b a||!pJ a b)=true;cases h:pJ b a with
 | false=>rfl
 | true=>exact(congrArg not (fR _ _ h):(!pJ a b)=true)) l).imp eI
def vN{l m:List (List Nat)}(p:m.Perm l)(s:m.Pairwise q7N):m=sortS l :=
 List.Perm.eq_of_pairwise (fun a b z0 z0 h1 h2=>VK a b h2 h1) s (nZ l) (p.trans (JB l).symm)
def HU:∀a b:List Nat,ltCps a b=pJ a b:=by
 intro a
 induction a with
 | nil=>intro b; cases b <;> rfl
 | cons x a ih =>
  intro b;cases b with
  | nil=>rfl
  | cons y b =>
   show(decide (x<y)||(x==y&&ltCps a b))=decide (x::a<y::b);rw[ih b,decide_eq_decide.mpr List.cons_lt_cons_iff,Bool.decide_or,Bool.decide_and];rfl
end
section
open PySem PySem.W PyProof.Rows PySem.SeqAt
section
variable{X:Cx}{m:Mp}{N:Addr->Prop}{h:Heap}
theorem Y3:∀{vs:List Value}{ns:List Int},IntsAre vs ns->y6 (yG X m N h) (vI ns) vs
 | _,_,.nil=>trivial
 | _,_,.cons n t r=>⟨⟨t,rfl⟩,Y3 r⟩
theorem XA:∀{vs:List Value}{ss:List PySem.Str},StrsAre vs ss->y6 (yG X m N h) (vS (ss.map fun x=>x.cps.toList)) vs
 | _,_,.nil=>trivial
 | _,_,.cons n t r=>⟨⟨t,rfl⟩,XA r⟩
theorem aO:∀{l:List (List Nat)}{xs:List Value},y6 (yG X m N h) (vS l) xs->StrsAre xs (l.map fun x=>⟨x.toArray⟩)
 | [],[],_=>.nil
 | _::_,_::_,a=>a.1.elim fun t e=>e▸.cons _ t (aO a.2)
end
theorem fY:∀(x:PySem.Str)(r:List PySem.Str),risingS x r=true->(x::r).Pairwise fun a b=>pJ b.cps.toList a.cps.toList=false
 | x,[],_=>by simp
 | x,y::r,h=>by
  simp only[risingS,Bool.and_eq_true,Bool.not_eq_true',HU]at h;refine List.pairwise_cons.mpr ⟨fun z hz=>?_,(fY y r h.2)⟩;rcases qV.mp hz with rfl | hz
  ·exact h.1
  ·exact mX _ _ _ ((List.pairwise_cons.mp (fY y r h.2)).1 z hz) h.1
def QF{l:List PySem.Str}(h:sortedS l=true):l.Pairwise fun a b=>pJ b.cps.toList a.cps.toList=false:=by
 cases l with
 | nil=>exact .nil
 | cons x r=>exact fY x r h
def QG{l:List (List Nat)}{ss:List PySem.Str}(p:ss.Perm (l.map fun x=>⟨x.toArray⟩))(h:sortedS ss=true):ss.map (fun x=>x.cps.toList)=sortS l:=by
 refine vN ?_ (List.pairwise_map.mpr (QF h))
 have:=p.map fun x=>x.cps.toList
 rw[qY]at this
 simpa [Function.comp_def] using this
inductive JY (z:List V) (vs:List Value):Prop
 | i ns (h:IntsAre vs ns) (e:z=vI (sortI ns))
 | s (ss:List (List Nat)) (h:StrsAre vs (ss.map fun x=>⟨x.toArray⟩)) (e:z=vS (sortS ss))
def q4U(z:List V)(out:List Value):Prop:=∀X m N h,y6 (yG X m N h) z out
section
variable{prog:Program}{w:World}{A:Around}{E:Value->Shared->Prop}{s:Shared}{z:List V}
def eW{D:Addr}{vs:List Value}{n:Nat}{P:PySem.Fin->Shared->Prop}(ho:s.heap.get? D=some (seqObj "list" vs.toArray n)) (h64:vs.length<64) (hv:JY z vs)
  (h:∀out:Array Value,q4U z out.toList->P (.done (.ret .none)) {s with heap:=sortedHeap s.heap D vs out}) :
  wpAny (model prog w) A (Builtin.«list.sort» ⟨[.ref D],[]⟩) P E s:=by
 refine qG fun ng=>?_;cases hv with
 | i ns a e=>exact ng (list_sort_tree ho a h64 fun out ns' h1 h2 h3=>h out fun X m N h=>e▸QE h2 h3▸Y3 h1)
 | s ss a e =>
  refine ng ?_;refine list_sort_treeK strKind_oneLt ho a.keysOf (fun v₁ v₂ rest e=>keyKind_strs ((e)▸a)) h64 fun st' hp hs=>?_;refine qG fun ng=>?_;refine gZ (sorted_out_str a hp hs) fun ss' h1 h2 h3=>?_;refine ng ?_;exact h _ fun X m N h=>e▸QG h2 h3▸XA h1
def X3{l:Addr}{vs:List Value}{Q:Value->Shared->Prop}(hl:s.heap.IsList l vs.toArray)(h64:vs.length<64)(hv:JY z vs)
  (h:∀out:Array Value,q4U z out.toList->Q (.ref (s.heap.objs.size+1)) {s with heap:=sortedAll s.heap vs out}) :
  wpAny (model prog w) A (call (.builtin "sorted") [.ref l]) Q E s:=by
 refine Calls.call_function_entry kind_sorted plain_sorted entry_sorted (args_sorted1 _) ?_;refine wpAny_bind (m:=checkCount "sorted" 1 1 _) (wpAny_pure ?_);refine wpAny_bind (collect_list hl ?_ (by rw[sizeLine_eq]; exact yX [_] (LF.c 1 (.a (.v 0) (.k 1)) (.k 64) .n) 0 (.v 0) (.k 16777216) rfl h64));refine wpAny_bind (wpAny_newList ?_ (by rw[sizeLine_eq]; exact yX [_] (LF.c 1 (.a (.v 0) (.k 1)) (.k 64) .n) 0 (.v 0) (.k 16777216) rfl h64));have hsz:((s.heap.push (seqObj "list" #[] 0)).update s.heap.objs.size (Obj.mapSeq (·++vs.toArray))).objs.size=s.heap.objs.size+1:=by
  rw[Heap.size_update,size_push']
 have hoL:(((s.heap.push (seqObj "list" #[] 0)).update s.heap.objs.size (Obj.mapSeq (·++vs.toArray))).push (seqObj "list" vs.toArray 0)).get? (s.heap.objs.size+1)=some (seqObj "list" vs.toArray 0):=by
  rw[<-hsz]; exact zY _ rfl
 show wpAny _ _ _ _ _ {s with heap:=((s.heap.push (seqObj "list" #[] 0)).update s.heap.objs.size (Obj.mapSeq (·++vs.toArray))).push (seqObj "list" vs.toArray 0)};rw[hsz];refine wpAny_bind (wpAny_holding (wpAny_call_entry slot_list_sort ⟨_,hoL,rfl⟩ entry_list_sort (eW hoL h64 hv fun out a1=>⟨_,rfl,?_⟩) (args_list_sort _)));exact wpAny_pure ⟨_,rfl,h out a1⟩
def rT{K:Type}[DecidableEq K]{knd:PySem.KeyKind prog w K}{kvs:List (K×Value)}{d:Addr}{Q:Value->Shared->Prop}(hr:A.handled=none)(lo:(d==sysModules)=false)(hd:s.heap.DictOf knd d kvs)(h64:kvs.length<64)
  (hv:∀vs:List Value,vs.length=kvs.length->(∀(j:Nat)(v:Value),vs[j]?=some v->∃k x,kvs[j]?=some (k,x)/\knd.is k v=true)->JY z vs)
  (h:∀h' tk D out,(∀b o,s.heap.get? b=some o->h'.get? b=some o)->s.heap.get? D=none->(∃e,h'.get? D=some (seqObj "list" out e))->q4U z out.toList->Q (.ref D) {s with heap:=h',toks:=tk}) :
  wpAny (model prog w) A (call (.builtin "sorted") [.ref d]) Q E s:=by
 refine(hd.dictAt).elim fun ep hat=>?_;refine Calls.call_function_entry kind_sorted plain_sorted entry_sorted (args_sorted1 _) ?_;refine wpAny_bind (m:=checkCount "sorted" 1 1 _) (wpAny_pure ?_);refine wpAny_bind (kdu_collect (A:=A.in1) (kdl_dict (knd:=knd) (kvs:=kvs) (ep:=ep) lo) hr hat (by rw[sizeLine_eq]; exact yX [_] (LF.c 1 (.a (.v 0) (.k 1)) (.k 64) .n) 0 (.v 0) (.k 16777216) rfl h64) fun h' tk acc hk hacc=>?_);have hl:acc.toList.length=kvs.length:=by rw[Array.length_toList]; exact hacc.1
 refine wpAny_bind (wpAny_newList ?_ (by rw[hl,sizeLine_eq]; exact yX [_] (LF.c 1 (.a (.v 0) (.k 1)) (.k 64) .n) 0 (.v 0) (.k 16777216) rfl h64));refine wpAny_bind (wpAny_holding (wpAny_call_entry slot_list_sort ⟨_,((zY _ rfl:(h'.push (seqObj "list" acc.toList.toArray 0)).get? h'.objs.size=some (seqObj "list" acc.toList.toArray 0))),rfl⟩ entry_list_sort (eW (s:={s with heap:=h'.push (seqObj "list" acc.toList.toArray 0),toks:=tk}) ((zY _ rfl:(h'.push (seqObj "list" acc.toList.toArray 0)).get? h'.objs.size=some (seqObj "list" acc.toList.toArray 0))) ((hl)▸h64) (hv _ hl fun j v e=>hacc.2 j v ((Array.getElem?_toList)▸e)) fun out a1=>⟨_,rfl,?_⟩) (args_list_sort _)));refine wpAny_pure ⟨_,rfl,h _ tk _ out (fun b o e=>?_) ?_ (sortedHeap_at ((zY _ rfl:(h'.push (seqObj "list" acc.toList.toArray 0)).get? h'.objs.size=some (seqObj "list" acc.toList.toArray 0)))) a1⟩
 ·exact(sortedHeap_old (Nat.ne_of_lt (Heap.lt_size (hk b o e))) (by rw[size_push']; exact Nat.lt_succ_of_lt (Heap.lt_size (hk b o e)))).trans ((Heap.get?_push_ne _ _ _ (Nat.ne_of_lt (Heap.lt_size (hk b o e)))).trans ((hk b o e)))
 ·cases q:s.heap.get? h'.objs.size with
  | none=>rfl
  | some o=>exact absurd (Heap.lt_size (hk _ _ q)) (Nat.lt_irrefl _)
end
section
variable{c:Fx}{ρ:y5}{p:Mt}{C:yA}{x y z:V}{u v w:Value}{n:String}{Q:Kv}{R:Value->Shared->Prop}
def Go.kept(k:Go c ρ p Q R)(h:At c ρ p){h':Heap}{tk:Nat}(kk:∀b o,p.s.heap.get? b=some o->h'.get? b=some o)(r:c.V ⟨p.m,p.σ,{p.s with heap:=h',toks:=tk}⟩ x v)(q:Q x p.σ):R v {p.s with heap:=h',toks:=tk} :=
 k _ x v (h.step (h.g.grow (s:={p.s with heap:=h',toks:=tk}) kk rfl rfl).2 (h.g.grow (s:={p.s with heap:=h',toks:=tk}) kk rfl rfl).1) (h.g.grow (s:={p.s with heap:=h',toks:=tk}) kk rfl rfl).2.w r.tt q
def Y8{κ κ':Type}{g:κ->V}{f:κ->κ'}{T:κ'->Value->Prop}{P:V->Value->Prop}{R:κ×V->κ'×Value->Prop}(hR:∀{e k},R e k->k.1=f e.1)(hT:∀{e v},T (f e) v->P (g e) v):∀{es:List (κ×V)}{kvs:List (κ'×Value)}{vs:List Value},y6 R es kvs->vs.length=kvs.length ->
  (∀(j:Nat)(v:Value),vs[j]?=some v->∃k x,kvs[j]?=some (k,x)/\T k v)->y6 P ((es.map (·.1)).map g) vs:=by
 intro es
 induction es with
 | nil=>intro kvs vs q l _; cases kvs with
  | nil=>cases vs with
   | nil=>trivial
   | cons _ _=>cases l
  | cons _ _=>exact q.elim
 | cons e es ih=>intro kvs vs q l h; cases kvs with
  | nil=>exact q.elim
  | cons k kvs=>cases vs with
   | nil=>cases l
   | cons v vs =>
    refine⟨?_,ih q.2 (Nat.succ.inj l) fun j w e=>h (j+1) w e⟩;refine v4 (h 0 v rfl) fun k' x zz=>?_;cases zz.1;exact hT (hR q.1▸zz.2)
def eX(S:yW c.X)(hr:wX c.A)(h:At c ρ p){K:List V->Prop}(q:q00 (obj p.σ x) K)(r:y7 c p x u)
  (f:∀l,K l->∃z,l.length<64/\Q (.lst z) p.σ/\((∃is,l=vI is/\z=vI (sortI is))\/∃ss,l=vS ss/\z=vS (sortS ss))) (k:Go c ρ p Q R):wA c (call (.builtin "sorted") [u]) R p.s:=by
 have fin:∀{D:Addr}{out:List Value}{z:List V}{h':Heap}{tk e:Nat},(∀b o,p.s.heap.get? b=some o->h'.get? b=some o)->p.s.heap.get? D=none->h'.get? D=some (seqObj "list" out.toArray e)->q4U z out->Q (.lst z) p.σ->R (.ref D) {p.s with heap:=h',toks:=tk} :=
  fun kk fD hD hz q=>k.kept h kk (x:=.lst _) ⟨_,dH (hz _ _ _ _),_,rfl,h.g.fresh fD,_,hD⟩ q
 have st:∀{l z:List V}{xs:List Value},((∃is,l=vI is/\z=vI (sortI is))\/∃ss,l=vS ss/\z=vS (sortS ss))->y6 (c.V p) l xs->JY z xs:=fun z3 rr=>by
  rcases z3 with⟨is,rfl,rfl⟩ | ⟨ss,rfl,rfl⟩
  ·exact .i is (fK rr) rfl
  ·exact .s ss (aO rr) rfl
 cases e:obj p.σ x with
 | none=>rw[e]at q; exact q.elim
 | some ob =>
  rw[e]at q;obtain⟨a,rfl,R,ns⟩:=vA S h.g e r;cases ob with
  | list l =>
   refine qG fun ng=>?_;refine mG (R) fun xs n t rr=>?_;refine gZ (f l q) fun z z1 z2 z3=>?_;refine ng ?_;refine X3 (il t) (rr.length▸z1) (st z3 rr) fun out hz=>?_;obtain⟨e,he⟩:=sortedAll_at p.s.heap xs out;exact fin (tk:=p.s.toks) (fun b o eb=>sortedAll_old eb) (by
    cases q:p.s.heap.get? (p.s.heap.objs.size+1)with
    | none=>rfl
    | some o=>exact absurd (Heap.lt_size q) (fun z=>Nat.lt_irrefl _ (Nat.lt_trans (Nat.lt_succ_self _) z))) (e:=e) he hz z2
  | dI es =>
   refine(R).elim fun kvs z=>z.elim fun d rr=>?_;obtain⟨o,d1,d2⟩:=tT d;obtain⟨z,z1,z2,z3⟩:=f _ q;rw[qH,qH]at z1;exact rT hr.1 (ns o d1 d2) d (rr.length▸z1) (fun vs hl hvs=>st z3 (Y8 (f:=id) (fun z=>z.1) (fun z=>Value.isInt_shape z) rr hl hvs)) fun h' tk D out hk fD hD hz=>hD.elim fun e he=>fin hk fD (e:=e) he hz z2
  | dS es =>
   refine(R).elim fun kvs z=>z.elim fun d rr=>?_;obtain⟨o,d1,d2⟩:=tT d;obtain⟨z,z1,z2,z3⟩:=f _ q;rw[qH,qH]at z1;exact rT hr.1 (ns o d1 d2) d (rr.length▸z1) (fun vs hl hvs=>st z3 (Y8 (f:=fun i:List Nat=>(⟨i.toArray⟩:PySem.Str)) (fun z=>z.1) (fun z=>Value.isStrOf_shape z) rr hl hvs)) fun h' tk D out hk fD hD hz=>hD.elim fun e he=>fin hk fD (e:=e) he hz z2
  | _=>exact q.elim
def IJ(S:yW c.X)(h:At c ρ p)(q:d4 p.σ x fun l=>v9 l (Q (.int l.length) p.σ))(r:y7 c p x u)(k:Go c ρ p Q R):wA c (call (.builtin "len") [u]) R p.s:=by
 refine wI (aK S h.g q r) fun l sq q=>?_;refine(wE q).elim fun hl q=>?_;cases sq with
 | tup a xs ex e t rr=>subst e; exact len_tuple t (zI.mpr (qI (qF (qK rr.length.symm) hl) (by decide:lim<2 ^ 63))) (k.here h (x:=.int l.length) ⟨_,by rw[zW,rr.length]⟩ q)
 | lst a xs n ex e t rr=>subst e; exact Calls.call_len_list (il t) (zI.mpr (qI (qF (qK rr.length.symm) hl) (by decide:lim<2 ^ 63))) (k.here h (x:=.int l.length) ⟨_,by rw[zW,rr.length]⟩ q)
end
noncomputable def hide(p:Mt):Mt:=⟨fun g n=>match g with | true=>p.m true n | false=>none,⟨p.σ.g,[]⟩,p.s⟩
def q4V(p:Mt)(a:Addr):Prop:=∃n ob,p.m false n=some a/\jM p.σ.l n=some ob/\ob≠.dead
noncomputable def Fx.hid(c:Fx)(p:Mt):Fx:=⟨c.X,c.A,c.env,fun a=>c.Pv a\/q4V p a,no⟩
def AX(c:Fx)(p:Mt)(n:String)(cap:List V)(f:Addr):Prop:=(cap=[]/\f=c.X.FA n/\n≠"roll")\/∃us,j8 c.X p.m (NN c.Pv p) p.s.heap cap us/\¬NN c.Pv p f/\UJ c.X (NN c.Pv p) p.s.heap n us f
def cW(p:Mt):Prop:=p.σ.l=[]/\∀n,p.m false n=none
def jJ(X:Cx)(A:Around)(C:yA):Prop:=∀(c:Fx)(p:Mt)n cap vs(Q:Kv)f args(R:Value->Shared->Prop),c.X=X->c.own=no->cW p->yJ c p->C n cap vs Q p.σ->AX c p n cap f->y6 (c.V p) vs args ->
 (∀p' x v,yJ c p'->cW p'->yC no p p'->c.V p' x v->Q x p'.σ->R v p'.s)->(∃o fd,p.s.heap.get? f=some o/\o.data=.func fd)/\codeAny (model X.prog X.w) A (.call (.ref f) ⟨args,[]⟩) (fun r s'=>∃v,r=.ok (.ret v)/\R v s') p.s
section
variable{c:Fx}{ρ:y5}{p p':Mt}{C:yA}{x y z:V}{u v w:Value}{n:String}{Q:Kv}{R:Value->Shared->Prop}{a:Addr}
def bL{g:Bool}{k:Nat}{ob:Ob}(e:(hide p).σ.at g k=some ob):g=true/\jM p.σ.g k=some ob:=by
 cases g with
 | true=>exact⟨rfl,e⟩
 | false=>cases e
def RF:NN (c.hid p).Pv (hide p) a↔NN c.Pv p a:=by
 constructor
 ·rintro(⟨g,k,ob,e,e2,h⟩ | h | ⟨k,ob,h⟩)
  ·obtain⟨rfl,e2⟩:=bL e2;exact .inl ⟨true,k,ob,e,e2,h⟩
  ·exact .inr h
  ·exact .inl ⟨false,k,ob,h⟩
 ·rintro(⟨g,k,ob,e,e2,h⟩ | h)
  ·cases g with
   | true=>exact .inl ⟨true,k,ob,e,e2,h⟩
   | false=>exact .inr (.inr ⟨k,ob,e,e2,h⟩)
  ·exact .inr (.inl h)
def q3S:NN (c.hid p).Pv (hide p)=NN c.Pv p:=funext fun z0=>propext RF
def aF(r:c.V p x v):(c.hid p).V (hide p) x v:=by
 show yG c.X (hide p).m (NN (c.hid p).Pv (hide p)) p.s.heap x v;exact(q3S).symm▸(yG.mono (m:=p.m) (m':=(Mine.hide p).m) (fun z0 z0 e=>e) (fun z0 z0 n e=>⟨n,e⟩) r)
def yJ.hide(G:yJ c p):yJ (c.hid p) (hide p):=by
 refine⟨G.base,fun g k ob e=>?_,fun g k e=>?_,fun g k g' k' a e e'=>?_,fun g k a e=>?_,fun a h=>h.elim (G.priv a) fun h=>⟨(((fun a ⟨k,ob,e,_⟩=>⟨(G.at_ _ _ _ e).1,(G.at_ _ _ _ e).2.1⟩:∀a,q4V p a->(∃o,p.s.heap.get? a=some o)/\c.X.H.get? a=none)) a h).2,(((fun a ⟨k,ob,e,_⟩=>⟨(G.at_ _ _ _ e).1,(G.at_ _ _ _ e).2.1⟩:∀a,q4V p a->(∃o,p.s.heap.get? a=some o)/\c.X.H.get? a=none)) a h).1⟩,fun a h=>h.elim,G.gens,G.os⟩
 ·obtain⟨rfl,e⟩:=bL e;refine(G.rep true k ob e).elim fun a zz=>?_;exact⟨a,zz.1,wM.to (c:=c) (p:=p) (p':=Mine.hide p) (fun z0 z0 e=>e) (fun z0 z0=>aF) (fun z0 e=>e) zz.2⟩
 ·cases g with
  | true=>exact G.non true k e
  | false=>rfl
 ·cases g with
  | true=>cases g' with
   | true=>exact G.inj true k true k' a e e'
   | false=>cases e'
  | false=>cases e
 ·refine qG fun ng=>?_;cases g with
  | true=>exact ng (⟨(G.at_ true k a e).1,(G.at_ true k a e).2.1,fun h=>h.elim (G.at_ true k a e).2.2 fun z=>mG z fun k' z0 e' z0=>nomatch (G.inj true k false k' a e e').1⟩)
  | false=>cases e
noncomputable def uC(p p':Mt):Mt:=⟨fun g n=>match g with | true=>p'.m true n | false=>p.m false n,⟨p'.σ.g,p.σ.l⟩,p'.s⟩
def At.call(h:At c ρ p)(G:yJ (c.hid p) p')(hb:cW p')(s:yC no (hide p) p'):At c ρ (uC p p')/\yC no p (uC p p')/\∀x v,(c.hid p).V p' x v->c.V (uC p p') x v:=by
 have mu':∀a,Mu (uC p p') a->Mu p' a\/q4V p a:=fun a ⟨g,k,ob,e,e2,z⟩=>by
  refine qG fun ng=>?_;cases g with
  | true=>exact ng (.inl ⟨true,k,ob,e,e2,z⟩)
  | false=>exact ng (.inr ⟨k,ob,e,e2,z⟩)
 have kv:∀x v,(c.hid p).V p' x v->c.V (uC p p') x v:=fun x v r=>yG.mono (m:=p'.m) (m':=(uC p p').m) (fun z0 z0 e=>e) (fun a o n e=>⟨fun z=>n (((fun a z=>z.elim (fun z=>(mu' a z).elim .inl fun z=>.inr (.inr z)) fun z=>.inr (.inl z):∀a,NN c.Pv (uC p p') a->NN (c.hid p).Pv p' a)) a z),e⟩) r;have muh:∀a,Mu (hide p) a->Mu p a:=fun a ⟨g,k,ob,e,e2,z⟩=>by
  obtain⟨rfl,e2⟩:=bL e2;exact⟨true,k,ob,e,e2,z⟩
 have ownh:∀a k,p.m false k=some a->¬Mu (hide p) a:=fun a k e ⟨g,k',ob,e',e2,_⟩=>by
  obtain⟨rfl,e2⟩:=bL e2;exact nomatch (h.g.inj false k true k' a e e').1
 have st:yC no p (uC p p'):=by
  refine⟨fun g k a e=>?_,fun a o n z0 e=>s.keep a o (fun z=>n (muh a z)) id e,fun a z=>(mu' a z).elim (fun z=>(s.new a z).elim (fun z=>.inl (muh a z)) .inr) fun z=>v4 z fun k ob z=>.inl ⟨false,k,ob,z⟩,fun g k a e=>?_,s.there⟩
  ·cases g with
   | true=>exact s.le true k a e
   | false=>exact e
  cases g with
  | true=>exact s.mnew true k a e
  | false=>exact .inl e
 have G2:yJ c (uC p p'):=by
  refine⟨G.base,fun g k ob e=>?_,fun g k e=>?_,fun g k g' k' a e e'=>?_,fun g k a e=>?_,fun a z=>G.priv a (.inl z),h.g.own,G.gens,G.os⟩
  ·cases g with
   | true =>
    refine wI (G.rep true k ob e) fun a e1 q=>?_;exact⟨a,e1,wM.to (c:=c.hid p) (p:=p') (p':=uC p p') (A':=c.A) (env':=c.env) (Pv':=c.Pv) (own':=c.own) (fun z0 z0 e=>e) kv (fun z0 e=>e) q⟩
   | false =>
    refine wI (h.g.rep false k ob e) fun a e1 q=>?_;exact⟨a,e1,q.mono st.le.g (h.g.keeps st.w) fun o z=>s.keep a o (ownh a k e1) id z⟩
  ·cases g with
   | true=>exact G.non true k e
   | false=>exact h.g.non false k e
  ·cases g with
   | true=>cases g' with
    | true=>exact G.inj true k true k' a e e'
    | false=>exact(((fun k k' a e e'=>(s.mnew true k a e).elim (fun q=>nomatch (h.g.inj true k false k' a q e').1) fun q=>(h.g.at_ false k' a e').1.elim fun o z=>gO q z:∀k k' a,p'.m true k=some a->p.m false k'=some a->False)) k k' a e e').elim
   | false=>cases g' with
    | true=>exact(((fun k k' a e e'=>(s.mnew true k a e).elim (fun q=>nomatch (h.g.inj true k false k' a q e').1) fun q=>(h.g.at_ false k' a e').1.elim fun o z=>gO q z:∀k k' a,p'.m true k=some a->p.m false k'=some a->False)) k' k a e' e).elim
    | false=>exact h.g.inj false k false k' a e e'
  ·cases g with
   | true=>exact⟨(G.at_ true k a e).1,(G.at_ true k a e).2.1,fun z=>(G.at_ true k a e).2.2 (.inl z)⟩
   | false=>exact⟨(h.g.at_ false k a e).1.elim fun o z=>s.there a o z,(h.g.at_ false k a e).2⟩
 exact⟨h.step st G2,st,kv⟩
end
section
variable{c:Fx}{ρ:y5}{p:Mt}{C:yA}{x y z:V}{u v w:Value}{n:String}{Q:Kv}{R:Value->Shared->Prop}{vs:List V}{args:List Value}{A':Around}{a:Addr}
def MB(h:Heap)(u:Value):Prop:=∃f,u=.ref f/\∃o fd,h.get? f=some o/\o.data=.func fd
def AV(c:Fx)(A':Around)(R:Value->Shared->Prop)(u:Value)(args:List Value)(s:Shared):Prop:=codeAny (model c.X.prog c.X.w) A' (.call u ⟨args,[]⟩) (fun r s'=>∃v,r=.ok (.ret v)/\R v s') s
def sK(h:AV c c.A R u args p.s):wA c (call u args) R p.s :=
 wpAny_call (codeAny_mono h fun r s' z=>by
  obtain⟨v,rfl,q⟩:=z;exact q)
def F5(hC:jJ c.X A' C)(h:At c ρ p){cap:List V}(q:C n cap vs (F2 p.σ.l Q) ⟨p.σ.g,[]⟩)(F:AX (c.hid p) (hide p) n cap a)(ra:y6 (c.V p) vs args)(k:Go c ρ p Q R):MB p.s.heap (.ref a)/\AV c A' R (.ref a) args p.s:=by
 refine qG fun ng=>?_;obtain⟨⟨o,fd,z⟩,w⟩:=hC (c.hid p) (hide p) n cap vs _ a args R rfl rfl ⟨rfl,fun z0=>rfl⟩ h.g.hide q F (ra.mono fun z0 z0 r=>aF r) fun p' x v G' b s r q=>by
  refine XQ (h.call G' b s) fun h' s' kv=>?_;have e:p'.σ.l=[]:=b.1;exact k (uC p p') x v h' s'.w (kv x v r).tt q
 refine ng ?_;exact⟨⟨a,rfl,o,fd,z⟩,w⟩
def HA(h:n≠"roll"):AX (c.hid p) (hide p) n [] (c.X.FA n):=.inl ⟨rfl,rfl,h⟩
def iW(hC:jJ c.X A' C)(h:At c ρ p)(q:sI C x vs Q p.σ)(rf:y7 c p x u)(ra:y6 (c.V p) vs args)(k:Go c ρ p Q R):MB p.s.heap u/\AV c A' R u args p.s:=by
 cases x with
 | fn n =>
  obtain⟨rfl,e⟩:=rf;exact F5 hC h q (HA e) ra k
 | clos n cap =>
  refine qG fun ng=>?_;obtain⟨us,r1,a,rfl,r2,r3⟩:=(aF (p:=p) rf);refine ng ?_;exact F5 hC h q (.inr ⟨us,r1,r2,r3⟩) ra k
 | _=>exact q.elim
def f6(c:Fx)(h:Heap)(f:Value):Prop:=∃k,(k=Keeper.frame\/k=Keeper.machine\/k=Keeper.boundFrame)/\Looks (model c.X.prog c.X.w) h (keeperOf f) k
def MB.keeps{h:Heap}(f:MB h u):f6 c h u:=by
 obtain⟨f,rfl,o,fd,ho,hd⟩:=f;refine⟨.frame,.inl rfl,(Looks.ld (part:=none) ho).andThen ?_⟩;exact(hd)▸(.now)
def bM{h:Heap}{i:String}:f6 c h (.builtin i):=⟨.machine,.inr (.inl rfl),Looks.of_pure rfl⟩
noncomputable def yQ:Expr->Bool
 | .Starred ..=>false
 | _=>true
def tG{e:Expr}{es:List Expr}{env:Env}(h:yQ e=true):starEach (e::es) env=(false,eval e env)::starEach es env:=by
 cases e <;> first | rfl | (cases h)
theorem tB{pos:Pos}{env:Env}:∀{es:List Expr},es.all yQ=true->(backTo pos (starEach es env)).any (·.1)=false/\(backTo pos (starEach es env)).length=es.length/\(backTo pos (starEach es env)).all (fun x=>!x.1)=true
 | [],_=>⟨rfl,rfl,rfl⟩
 | e::es,h=>by
  refine qG fun ng=>?_;refine(zE.mp ((h:(yQ e&&es.all yQ)=true))).elim fun h1 h2=>?_;refine XQ (tB (pos:=pos) (env:=env) h2) fun a b c=>?_;refine ng ?_;exact(tG h1)▸(⟨a,congrArg (·+1) b,c⟩)
def UP{f:Value}{ts:List (Bool×Sem Value)}{R:Args->Shared->Prop}{s:Shared}(hp:ts.any (·.1)=false)(H:wA c (spliced ts) (fun v s=>R ⟨v,[]⟩ s) s):wA c (evalArgs f true ts []) R s:=by
 cases ts with
 | nil =>
  unfold evalArgs;exact wpAny_bind (wpAny_mono H (fun v s r=>wpAny_bind (wpAny_pure (wpAny_holding (wpAny_bind (wpAny_pure (wpAny_bind (wpAny_pure (wpAny_pure r)))))))) fun z0 z0 z=>z)
 | cons t ts =>
  obtain⟨b,t⟩:=t;have hb:b=false:=(Bool.or_eq_false_iff.mp hp).1;subst hb;exact Calls.evalArgs_plain H
def kR{pos:Pos}{u:Value}{first:List Value}{ts:List (Bool×Sem Value)}{s:Shared}(hp:ts.any (·.1)=false)(H:wA c (spliced ts) (fun v s=>f6 c s.heap u/\wA c (call u (first++v)) R s) s):wA c (callWith pos u first ts []) R s :=
 callWith_of (P:=fun h=>f6 c h u) (by rw[hp]; rfl) (fun h z=>z) (UP hp H)
def VX(hC:jJ c.X c.A C){id:PySem.Str}{pp pos:Pos}{es:List Expr}{fx:Ex}{pH:List Ex}(hs:es.all yQ=true)
  (Hf:SE c ρ (eval (.Name id pp) c.env) (we C fx ρ)) (Ha:GG c ρ (backTo pos (starEach es c.env)) (aX C pH ρ)) :
  SE c ρ (eval (.Call (.Name id pp) es [] pos) c.env) (we C (.call fx pH) ρ):=fun p Q R h q k=>by
 rw[arm_eval_Call_Name'];refine wpAny_bind (Hf p _ _ h q fun p1 x u h1 s1 r1 q1=>kR (tB hs).1 (Ha p1 _ _ h1 q1 fun p2 vs args l h2 s2 r2 q2=>?_));refine(iW hC h2 q2 (r1.step h1.g s2) r2 (k.on (s1.trans s2))).elim fun z1 z2=>?_;exact⟨z1.keeps,sK z2⟩
end
section
variable{c:Fx}{ρ:y5}{p:Mt}{C:yA}{x y z:V}{u v w:Value}{n:String}{Q:Kv}{R:Value->Shared->Prop}{vs:List V}{args:List Value}{A':Around}{a:Addr}
def UK(c:Fx)(u:Value)(n:String)(fn:Value)(s:Shared):Prop:=∀pl(Q:Value×List Value->Shared->Prop),Q (fn,[u]) s->wA c (getMethod u (tx n) pl) Q s
def nO{o:Expr}{ox:Ex}{apos pos:Pos}{es:List Expr}(hb:wT o=true)(hl:(apos.endLine==pos.line)=true)(hs:es.all yQ=true)(hn:es.length<30){Q0:Kv}(Ho:SE c ρ (eval o c.env) (we C ox ρ))(h:At c ρ p)(q:we C ox ρ Q0 p.σ)
  (k:∀p1 x u,At c ρ p1->yC c.own p p1->y7 c p1 x u->Q0 x p1.σ->∃fn,UK c u n fn p1.s/\wA c (spliced (backTo pos (starEach es c.env))) (fun args s=>f6 c s.heap fn/\wA c (call fn (u::args)) R s) p1.s) :
  wA c (eval (.Call (.Attribute o (tx n) apos) es [] pos) c.env) R p.s:=by
 refine XQ (tB (env:=c.env) (pos:=pos) hs) fun p1 p2 p3=>?_;rw[arm_eval_Call,dM hb];refine wpAny_bind (Ho p _ _ h q fun p1 x u h1 s1 r1 q1=>?_);refine(k p1 x u h1 s1 r1 q1).elim fun fn zz=>?_;refine wpAny_bind (wpAny_standAt ?_);unfold methodCall;rw[show methodCallForm (es.length+([]:List Keyword).length) (backTo pos (starEach es c.env)) (backToKw pos (keywordEach [] c.env))=true from by
  unfold methodCallForm;rw[p3];exact zU hn]
 refine wpAny_bind (wpAny_holding (zz.1 _ _ ?_));rw[show methodCallPos true o c.env apos pos=pure pos from by
  unfold methodCallPos;rw[hl]; rfl]
 exact wpAny_bind (wpAny_pure (kR (first:=[u]) ‹_› zz.2))
theorem IL{x y:String}{K:String->Prop}:∀{l:List (String×String×String)},lm l x y K->∃f,(x,y,f)∈l/\K f
 | [],h=>h.elim
 | (c,n,f)::r,h=>by
  unfold lm at h
  by_cases e:c=x
  ·by_cases e2:n=y
   ·rw[if_pos e,if_pos e2]at h; exact⟨f,e▸e2▸.head _,h⟩
   ·rw[if_pos e,if_neg e2]at h; exact(IL h).elim fun g z=>⟨g,.tail _ z.1,z.2⟩
  ·rw[if_neg e]at h; exact(IL h).elim fun g z=>⟨g,.tail _ z.1,z.2⟩
def gM{α:Type}{x:Option α}(h:ET x=true):x=none:=by
 cases x <;> first | rfl | cases h
def RG:∀p∈cN,p.2.2≠"roll":=by decide +kernel
def C6(S:yW c.X)(hC:jJ c.X c.A C){o:Expr}{n:String}{apos pos:Pos}{es:List Expr}{ox:Ex}{pH:List Ex}(hb:wT o=true)(hl:(apos.endLine==pos.line)=true)(hs:es.all yQ=true)(hn:es.length<30)
  (Ho:SE c ρ (eval o c.env) (we C ox ρ)) (Ha:GG c ρ (backTo pos (starEach es c.env)) (aX C pH ρ)) :
  SE c ρ (eval (.Call (.Attribute o (tx n) apos) es [] pos) c.env) (we C (.meth ox n pH) ρ):=fun p Q R h q k =>
 nO hb hl hs hn Ho h q fun p1 x u h1 s1 r1 q1=>by
  refine qG fun ng=>?_;refine(xY q1).elim fun ho q1=>?_;refine uN (nF S h1.g q1 r1) fun kk d fs a z=>uM z fun b es' m I q1=>?_;refine(xY q1).elim fun e q1=>?_;refine(IL q1).elim fun f zz=>?_;refine ng ?_;refine⟨.ref (c.X.FA f),fun pl Q z=>?_,Ha p1 _ _ h1 zz.2 fun p2 vs args l h2 s2 r2 q2=>?_⟩
  ·refine(S.meth _ zz.1).elim fun f1 f2=>?_;rw[I.eq]at z ⊢;refine method_fn (h1.g.kin S) I.inst (S.cls kk I.cls).ga (S.cls kk I.cls).gd f1 f2 ?_ z;show(lookIn (tx n) (dictOf es' m)).map _=_;rw[lookIn_dict,T0 I.q (gM e)]; rfl
  ·refine(iW hC h2 (args:=u::args) q2 (x:=.fn f) ⟨rfl,RG _ zz.1⟩ ⟨(r1.gv ho).step h1.g s2,r2⟩ (k.on (s1.trans s2))).elim fun z1 z2=>?_;exact⟨z1.keeps,sK z2⟩
end
def QD{h:Heap}{l:Addr}{xs:Array Value}{ys:List Value}{n:Nat}{f:Array Value->Array Value}(ho:h.get? l=some (seqObj "list" xs n)) (e:f xs=ys.toArray):∃n',(h.update l (Obj.mapSeq f)).get? l=some (seqObj "list" ys.toArray n') :=
 ⟨_,by rw[Heap.get?_update_self _ ho rfl]; simp only[Obj.mapSeq,e]; rfl⟩
def pN{prog:Program}{w:World}{A:Around}{s:Shared}{E:Value->Shared->Prop}{l:Addr}{xs:List Value}{n:Nat}{x:Value}{Q:Value->Shared->Prop}(ho:s.heap.get? l=some (seqObj "list" xs.toArray n)) (hsz:xs.length<=lim)
  (hQ:∀h' n',h'.get? l=some (seqObj "list" (xs++[x]).toArray n')->Heap.SameBut l s.heap h'->Q .none {s with heap:=h'}) :
  wpAny (model prog w) A (call (.builtin "list.append") [.ref l,x]) Q E s:=by
 refine call_meets F.slot_list_append ⟨_,ho,rfl⟩ F.entry_list_append (F.args_list_append_2 _ _) (AutoListH.list_append_list_val_0 l xs.toArray n x (by rw[zW,sizeLine_eq]; exact qF hsz (by decide))) ⟨ho,?_⟩;exact(QD ho (List.push_toArray ..)).elim fun n' e=>hQ _ n' e (Heap.SameBut.update ..)
section
variable{c:Fx}{ρ:y5}{p:Mt}{C:yA}{x y z:V}{u v w:Value}{n:String}{Q:Kv}{R:Value->Shared->Prop}{a:Addr}{ob:Ob}
set_option genCtorIdx false in
structure LO (c:Fx) (p:Mt) (x:V) (u:Value) (ob:Ob) (g:Bool) (n:Nat) (a:Addr):Prop where
 ex:x=.ref g n
 eu:u=.ref a
 em:p.m g n=some a
 at_:p.σ.at g n=some ob
 rep:wM c p a ob
def lZ(G:yJ c p)(m:gY x=true)(e:obj p.σ x=some ob)(r:y7 c p x u):∃g n a,LO c p x u ob g n a:=by
 refine qG fun ng=>?_;obtain⟨g,n,rfl⟩:=DM m;obtain⟨a,e1,rfl⟩:=r;refine(G.rep g n ob e).elim fun b zz=>?_;refine ng ?_;cases e1.symm.trans zz.1;exact⟨g,n,a,rfl,rfl,e1,e,zz.2⟩
def Go.lst(k:Go c ρ p Q R)(h:At c ρ p){l l':List V}{g:Bool}{n n':Nat}(M:LO c p x u (.list l) g n a){h':Heap}{xs':List Value}(he:h'.get? a=some (seqObj "list" xs'.toArray n')) (sb:Heap.SameBut a p.s.heap h')
  (rr:∀p':Mt,(∀x v,c.V p x v->c.V p' x v)->y6 (c.V p') l' xs') (rz:∀p':Mt,(∀x v,c.V p x v->c.V p' x v)->y7 c p' z v) (q:Q z (p.σ.put (.list l') x)):R v {p.s with heap:=h'}:=by
 have U:=h.upd (s:={p.s with heap:=h'}) (ob:=.list l') M.at_ (fun z=>nomatch z) M.em sb ⟨_,he⟩ rfl rfl fun f=>⟨xs',n',he,rr _ f⟩;exact k _ z _ U.1 U.2.w (rz _ fun z0 z0 r=>yG.step h.g U.2.w r) (by rw[M.ex]at q; exact q)
def UN(h:At c ρ p)(q:q3J p.σ .append x y Q)(ro:y7 c p x u)(ra:y7 c p y v)(k:Go c ρ p Q R):wA c (call (.builtin "list.append") [u,v]) R p.s:=by
 refine qG fun ng=>?_;refine(xY q).elim fun e1 q=>?_;refine(xY q).elim fun e2 q=>?_;refine wI (wY q) fun l e q=>?_;refine(wE q).elim fun hl q=>?_;refine gE (lZ h.g e1 e ro) fun g n a M=>?_;refine mG (M.rep) fun xs m t rr=>?_;refine ng ?_;exact(M.eu)▸(pN t (rr.length▸qF (qM (as:=l) (bs:=[y])▸qJ _ _) hl) fun h' n' he sb=>k.lst h M he sb (fun p' f=>(rr.mono f).snoc (f _ _ (ra.gv e2))) (z:=.none) (fun z0 z0=>rfl) q)
def UX(S:yW c.X)(h:At c ρ p)(q:q3J p.σ .extend x y Q)(ro:y7 c p x u)(ra:y7 c p y v)(k:Go c ρ p Q R):wA c (call (.builtin "list.extend") [u,v]) R p.s:=by
 refine qG fun ng=>?_;refine(xY q).elim fun e1 q=>?_;refine wI (wY q) fun l e q=>?_;obtain⟨m,b,ys,n2,rfl,t2,rr2,q⟩:=bN S h.g q ra;refine gE (lZ h.g e1 e ro) fun g n a M=>?_;refine mG (M.rep) fun xs n1 t rr=>?_;refine ng ?_;rw[M.eu];refine call_meets F.slot_list_extend ⟨_,t,rfl⟩ F.entry_list_extend (F.args_list_extend_2 _ _) (AutoSeq1.list_extend_list_list_0 _ xs.toArray n1 b ys.toArray n2 (extend_door (by rw[zW,zW,sizeLine_eq]; exact qF ((by rw[<-rr.length,<-rr2.length,<-qM]; exact(wE q).1:xs.length+ys.length<=lim)) (by decide))) (by rw[zW,sizeLine_eq]; exact qF (qJ _ _) (qF ((by rw[<-rr.length,<-rr2.length,<-qM]; exact(wE q).1:xs.length+ys.length<=lim)) (by decide))) (by rw[zW,zW,sizeLine_eq]; exact qF ((by rw[<-rr.length,<-rr2.length,<-qM]; exact(wE q).1:xs.length+ys.length<=lim)) (by decide))) ⟨t,t2,?_⟩;exact(QD t (by simp only[List.append_toArray])).elim fun n' he=>k.lst h M (l':=l++m) he (Heap.SameBut.update ..) (fun p' f=>(rr.mono f).append (rr2.mono f)) (z:=.none) (fun z0 z0=>rfl) (wE q).2
def OA(h:At c ρ p){l:List V}(e1:gY x=true)(e:obj p.σ x=some (.list (l++[y])))(hl:(l++[y]).length<=lim)(q:Q y (p.σ.put (.list l) x))(ro:y7 c p x u)(k:Go c ρ p Q R):wA c (call (.builtin "list.pop") [u]) R p.s:=by
 refine qG fun ng=>?_;obtain⟨g,n,a,M⟩:=lZ h.g e1 e ro;refine mG (M.rep) fun xs n1 t rr=>?_;refine ng ?_;rw[M.eu];refine qG fun ng=>?_;obtain⟨ys,w,rfl,r1,r2⟩:∃ys w,xs=ys++[w]/\y6 (c.V p) l ys/\c.V p y w:=by
  clear M e hl q t
  induction l generalizing xs with
  | nil=>cases xs with
   | nil=>exact rr.elim
   | cons w ws=>cases ws with
    | nil=>exact⟨[],w,rfl,trivial,rr.1⟩
    | cons _ _=>exact rr.2.elim
  | cons z l ih=>cases xs with
   | nil=>exact rr.elim
   | cons w ws=>obtain⟨ys,w',rfl,r1,r2⟩:=ih ws rr.2; exact⟨w::ys,w',rfl,⟨rr.1,r1⟩,r2⟩
 refine ng ?_;refine call_meets F.slot_list_pop ⟨_,t,rfl⟩ F.entry_list_pop (F.args_list_pop_1 _) (MeetsSeq.list_pop_last _ (ys++[w]).toArray n1 w (by simp) (by rw[zW,sizeLine_eq,<-rr.length]; exact qF hl (by decide))) ⟨t,?_⟩;exact(QD t (by simp only[List.eraseIdxIfInBounds_toArray,zW,List.eraseIdx_length_sub_one,List.dropLast_concat])).elim fun n' he=>k.lst h M (l':=l) he (Heap.SameBut.update ..) (fun p' f=>r1.mono f) (z:=y) (fun z0 f=>(f _ _ r2).tt) q
end
theorem X8(x:List Nat):∀l:List (List Nat),PySem.Str.join ⟨x.toArray⟩ (l.map fun y=>⟨y.toArray⟩)=⟨(lN x l).toArray⟩
 | []=>rfl
 | [a]=>rfl
 | a::b::r=>by
  show PySem.Str.append (PySem.Str.append ⟨a.toArray⟩ ⟨x.toArray⟩) (PySem.Str.join ⟨x.toArray⟩ ((b::r).map fun y=>⟨y.toArray⟩))=_;rw[(X8 x (b::r))];simp only[PySem.Str.append,lN,List.append_toArray]
theorem X9:∀l:List (List Nat),((l.map fun y=>(⟨y.toArray⟩:PySem.Str)).map (·.length))=l.map List.length
 | []=>rfl
 | x::l=>congrArg (_::·) (X9 l)
noncomputable def DG:M1->String
 | .append=>"append"
 | .extend=>"extend"
 | .join=>"join"
noncomputable def q7O:M1->String
 | .append=>"list.append"
 | .extend=>"list.extend"
 | .join=>"str.join"
section
variable{c:Fx}{ρ:y5}{p:Mt}{C:yA}{x y z:V}{u v w:Value}{n:String}{Q:Kv}{R:Value->Shared->Prop}{a:Addr}{ob:Ob}
def HJ(S:yW c.X)(h:At c ρ p)(q:q3J p.σ .join x y Q)(ro:y7 c p x u)(ra:y7 c p y v)(k:Go c ρ p Q R):wA c (call (.builtin "str.join") [u,v]) R p.s:=by
 refine qG fun ng=>?_;obtain⟨s,rfl,q⟩:=K5 q;obtain⟨t,rfl⟩:=ro.str;obtain⟨l,a,xs,n,rfl,e,rr,ts,rfl,hl,q⟩:=bN S h.g q ra;refine ng ?_;refine join_list (il e) (ys:=ts.map fun x=>⟨x.toArray⟩) (aO rr) ?_ fun t' m=>?_
 ·rw[X9,qH];exact qF hl (by decide)
 ·exact(show Txt.join ⟨s.toArray⟩ (ts.map fun y=>(⟨y.toArray⟩:PySem.Str))=_ from(StrLaws.glued_eq_join _ _).trans (X8 s ts))▸(k.here h (x:=.str _) ⟨_,rfl⟩ q)
def q3K(S:yW c.X)(h:At c ρ p){m:M1}(q:q3J p.σ m x y Q)(ro:y7 c p x u)(ra:y7 c p y v)(k:Go c ρ p Q R):wA c (call (.builtin (q7O m)) [u,v]) R p.s:=by
 cases m
 ·exact UN h q ro ra k
 ·exact UX S h q ro ra k
 ·exact HJ S h q ro ra k
def mR{l:List V}{f:String}(S:yW c.X)(G:yJ c p)(e:obj p.σ x=some (.list l))(r:y7 c p x u)(sl:Slot "list" (tx n) f) (ty:typeOf (.builtin f)=pure (.type "method_descriptor")):UK c u n (.builtin f) p.s:=fun pl Q z=>by
 refine qG fun ng=>?_;obtain⟨a,rfl,⟨xs,m,t,rr⟩,_⟩:=vA S G e r;refine ng ?_;exact getMethod_builtin ⟨_,t,rfl⟩ F.plainAttrs_list sl ty (fun b e=>by cases e; exact⟨_,t,rfl⟩) z
def PF(S:yW c.X)(G:yJ c p){m:M1}{X:Prop}(q:q41 p.σ m x X)(r:y7 c p x u):X/\UK c u (DG m) (.builtin (q7O m)) p.s:=by
 cases m
 ·refine wI (wY q) fun l e q=>?_;exact⟨q,(mR S G e r F.slot_list_append F.type_list_append:UK c u "append" (.builtin "list.append") p.s)⟩
 ·obtain⟨l,e,q⟩:=wY q;exact⟨q,(mR S G e r F.slot_list_extend F.type_list_extend:UK c u "extend" (.builtin "list.extend") p.s)⟩
 ·obtain⟨s,rfl,q⟩:=K5 q;obtain⟨t,rfl⟩:=r.str;exact⟨q,(fun pl Q z=>GM.of _ (typeIs_str _ _ _) F.slot_str_join F.type_str_join GM.noRef z:UK c (.str ⟨s.toArray⟩ t) "join" (.builtin "str.join") p.s)⟩
def J1{e:Expr}{pos:Pos}{R:List Value->Shared->Prop}{s:Shared}(he:yQ e=true)(H:wA c (eval e c.env) (fun v s=>R [v] s) s):wA c (spliced (backTo pos (starEach [e] c.env))) R s:=by
 rw[tG he];exact Calls.spliced_cons (wpAny_mono H (fun v s z=>Calls.spliced_nil z) fun z0 z0 z=>z)
def QU{e e':Expr}{pos:Pos}{R:List Value->Shared->Prop}{s:Shared}(he:yQ e=true)(he':yQ e'=true)(H:wA c (eval e c.env) (fun v s=>wA c (eval e' c.env) (fun w s=>R [v,w] s) s) s):wA c (spliced (backTo pos (starEach [e,e'] c.env))) R s:=by
 rw[tG he,tG he'];exact Calls.spliced_cons (wpAny_mono H (fun v s z=>Calls.spliced_cons (wpAny_mono z (fun v s z=>Calls.spliced_nil z) fun z0 z0 z=>z)) fun z0 z0 z=>z)
def iS{a b:Bool}(h:a=true)(h':b=true):(a&&(b&&true))=true:=by cases h; cases h'; rfl
def q4C(S:yW c.X){m:M1}{o e:Expr}{ox ex:Ex}{apos pos:Pos}(hb:wT o=true)(hl:(apos.endLine==pos.line)=true)(he:yQ e=true)(Ho:SE c ρ (eval o c.env) (we C ox ρ))(He:SE c ρ (eval e c.env) (we C ex ρ)):
  SE c ρ (eval (.Call (.Attribute o (tx (DG m)) apos) [e] [] pos) c.env) (we C (.m1 m ox ex) ρ):=fun p Q R h q k =>
 nO hb hl (by show(yQ e&&true)=true; rw[he]; rfl) (Nat.lt_of_sub_eq_succ rfl) Ho h q fun p1 x u h1 s1 r1 q1=>by
  exact⟨_,(PF S h1.g q1 r1).2,J1 he (He p1 _ _ h1 (PF S h1.g q1 r1).1 fun p2 y v h2 s2 r2 q2=>⟨bM,q3K S h2 q2 (r1.step h1.g s2) r2 (k.on (s1.trans s2))⟩)⟩
def OU(S:yW c.X){o:Expr}{ox:Ex}{apos pos:Pos}(hb:wT o=true)(hl:(apos.endLine==pos.line)=true)(Ho:SE c ρ (eval o c.env) (we C ox ρ)):
  SE c ρ (eval (.Call (.Attribute o (tx "pop") apos) [] [] pos) c.env) (we C (.pop ox) ρ):=fun p Q R h q k =>
 nO hb hl rfl (Nat.lt_of_sub_eq_succ rfl) Ho h q fun p1 x u h1 s1 r1 q1=>by
  refine qG fun ng=>?_;refine(xY q1).elim fun e1 q1=>?_;obtain⟨l,e,l',y,rfl,q1⟩:=wY q1;refine ng ?_;have zz:=wE q1;exact⟨_,mR S h1.g e r1 F.slot_list_pop F.type_list_pop,Calls.spliced_nil ⟨bM,OA h1 e1 e zz.1 zz.2 r1 (k.on s1)⟩⟩
end
section
variable{c:Fx}{ρ:y5}{p:Mt}{C:yA}{x y z:V}{u v w:Value}{n:String}{Q:Kv}{R:Value->Shared->Prop}{a:Addr}{ob:Ob}
def Go.tokT{t:Nat}(k:Go c ρ p Q R)(h:At c ρ p)(r:y7 c p x v)(q:Q x p.σ):R v {p.s with toks:=t}:=k (p.tok t) x v h.tok .tok (r.step h.g .tok) q
def ES{o:Option Ob}{X:Prop}(h:q37 o X):∃es,o=some (.dT es)/\X:=by
 cases o with
 | none=>exact h.elim
 | some ob=>cases ob <;> first | exact h.elim | exact⟨_,rfl,h⟩
def BJ{o:Option Ob}{X:List (Int×V)->Prop}(h:WO o X):∃es,o=some (.dI es)/\X es:=by
 cases o with
 | none=>exact h.elim
 | some ob=>cases ob <;> first | exact h.elim | exact⟨_,rfl,h⟩
def OM(S:yW c.X)(hr:wX c.A){o e f:Expr}{ox ex fx:Ex}{apos pos:Pos}(hb:wT o=true)(hl:(apos.endLine==pos.line)=true)(he:yQ e=true)(hf:yQ f=true)(Ho:SE c ρ (eval o c.env) (we C ox ρ))(He:SE c ρ (eval e c.env) (we C ex ρ))(Hf:SE c ρ (eval f c.env) (we C fx ρ)):
  SE c ρ (eval (.Call (.Attribute o (tx "get") apos) [e,f] [] pos) c.env) (we C (.get ox ex fx) ρ):=fun p Q R h q k =>
 nO hb hl (iS he hf) (Nat.lt_of_sub_eq_succ rfl) Ho h q fun p1 x u h1 s1 r1 q1=>by
  refine qG fun ng=>?_;refine(ES q1).elim fun es zz=>?_;obtain⟨a,rfl,⟨xs,d,rr⟩,_⟩:=vA S h1.g zz.1 r1;refine ng ?_;refine⟨_,fun pl Q z=>getMethod_builtin d.typeIs F.plainAttrs_dict F.slot_dict_get F.type_dict_get (dictOfH_noDict d) z,QU he hf (He p1 _ _ h1 zz.2 fun p2 y v h2 s2 r2 q2=>Hf p2 _ _ h2 q2 fun p3 z w h3 s3 r3 q3=>⟨bM,?_⟩)⟩;refine qG fun ng=>?_;obtain⟨i,rfl,q4⟩:=K6 q3;obtain⟨a',o,ea,ns,H,q5⟩:=WM S h3.g q4 (r1.step h1.g (s2.trans s3)) (r2.step h2.g s3);refine ng ?_;cases ea;cases H with
  | int i t kvs ek=>cases ek
  | str i t kvs ek=>cases ek
  | tup i b ys ek e hk d r =>
   subst e;refine call_meetsIn F.slot_dict_get d.typeIs F.entry_dict_get (F.args_dict_get_3 _ _ _) (meetsH_dict_get_default (dF c.X) _ b ns w) ⟨(qI (show c.A.units+1+10<=c.A.units+40 from qL (n:=11) (by decide) _) hr.2),i,ys,hk,d,?_⟩;cases e:(atKey ys i).map (·.2)with
   | none=>rw[e]at r; cases o with
    | none=>exact(k.on (s1.trans (s2.trans s3))).tokT h3 r3 q5
    | some _=>exact r.elim
   | some y=>rw[e]at r; cases o with
    | none=>exact r.elim
    | some _=>exact(k.on (s1.trans (s2.trans s3))).here h3 r q5
def PU(S:yW c.X)(h:At c ρ p){es:List (Int×V)}{i:Int}{t:Tok}(m:gY x=true)(e:obj p.σ x=some (.dI es))(hz:Nat.blt es.length lim=true)(ro:y7 c p x u)
  (q1:∀v,y8 es i=some v->Q v p.σ) (q2:y8 es i=none->c.V p z w/\Q z (p.σ.put (.dI (xQ es i z)) x)) (k:Go c ρ p Q R):wA c (call (.builtin "dict.setdefault") [u,.int i t,w]) R p.s:=by
 refine qG fun ng=>?_;refine gE (lZ h.g m e ro) fun g n a M=>?_;refine(M.rep).elim fun kvs zz=>?_;refine ng ?_;rw[M.eu];have L:=RL (f:=id) (g:=id) (R:=c.V p) id i zz.2;refine call_meetsIn F.slot_dict_setdefault zz.1.typeIs F.entry_dict_setdefault (F.args_dict_setdefault_3 _ _ _) (kt_meets_setdefault (intKind c.X.prog c.X.w) _ (intKind_is _ _ i t) ((zV.mpr fun y=>S.sys.elim fun o w=>gO (h.g.at_ g n a M.em).2.1 (y▸w):(a==sysModules)=false)) w) ⟨kvs,zz.1,by rw[<-zz.2.length]; exact qF (z9 (z8 hz)) (by decide),fun v hv=>?_,fun hv h' d' sb=>?_⟩
 ·rw[show(kvs.find? fun x=>decide (x.1=id i)).map (fun x=>id x.2)=some v from hv]at L;cases el:y8 es i with
  | none=>rw[el]at L; exact L.elim
  | some z=>rw[el]at L; exact k.here h L (q1 z el)
 ·rw[show(kvs.find? fun x=>decide (x.1=id i)).map (fun x=>id x.2)=none from hv]at L;cases el:y8 es i with
  | some z=>rw[el]at L; exact L.elim
  | none =>
   refine(q2 el).elim fun rz q=>?_;exact k _ z _ (h.upd (s:={p.s with heap:=h',toks:=p.s.toks+1}) (ob:=.dI (xQ es i z)) M.at_ (fun z=>nomatch z) M.em sb (tT (c:=c) (p:=⟨p.m,p.σ,{p.s with heap:=h'}⟩) d' |>.elim fun o z=>⟨o,z.1⟩) rfl rfl fun f=>⟨_,d',kI (f:=id) id (f _ _ rz) (zz.2.mono fun z0 z0 z=>⟨z.1,f _ _ z.2⟩)⟩).1 (h.upd (s:={p.s with heap:=h',toks:=p.s.toks+1}) (ob:=.dI (xQ es i z)) M.at_ (fun z=>nomatch z) M.em sb (tT (c:=c) (p:=⟨p.m,p.σ,{p.s with heap:=h'}⟩) d' |>.elim fun o z=>⟨o,z.1⟩) rfl rfl fun f=>⟨_,d',kI (f:=id) id (f _ _ rz) (zz.2.mono fun z0 z0 z=>⟨z.1,f _ _ z.2⟩)⟩).2.w (yG.tt (yG.step h.g (h.upd (s:={p.s with heap:=h',toks:=p.s.toks+1}) (ob:=.dI (xQ es i z)) M.at_ (fun z=>nomatch z) M.em sb (tT (c:=c) (p:=⟨p.m,p.σ,{p.s with heap:=h'}⟩) d' |>.elim fun o z=>⟨o,z.1⟩) rfl rfl fun f=>⟨_,d',kI (f:=id) id (f _ _ rz) (zz.2.mono fun z0 z0 z=>⟨z.1,f _ _ z.2⟩)⟩).2.w rz)) (by rw[M.ex]at q; exact q)
def eF{g:Bool}{Q':Kv}{σ:St}(h:t8 g ob Q σ)(f:∀k,σ.at g k=none->Q (.ref g k) (σ.set ob g k)->Q' (.ref g k) (σ.set ob g k)):t8 g ob Q' σ:=by
 cases g with
 | false=>exact f _ (oB _) h
 | true =>
  refine(h).elim fun k q=>?_;refine(xY q).elim fun e q=>?_;exact⟨k,by rw[e]; exact f k (gM e) q⟩
def OW(S:yW c.X){o e:Expr}{ox ex:Ex}{apos pos lp:Pos}(hb:wT o=true)(hl:(apos.endLine==pos.line)=true)(he:yQ e=true)(Ho:SE c ρ (eval o c.env) (we C ox ρ))(He:SE c ρ (eval e c.env) (we C ex ρ)):
  SE c ρ (eval (.Call (.Attribute o (tx "setdefault") apos) [e,.List [] lp] [] pos) c.env) (we C (.sdl ox ex) ρ):=fun p Q R h q k =>
 nO hb hl (iS he rfl) (Nat.lt_of_sub_eq_succ rfl) Ho h q fun p1 x u h1 s1 r1 q1=>by
  refine qG fun ng=>?_;refine(BJ q1).elim fun es zz=>?_;obtain⟨a,rfl,⟨xs,d,rr⟩,_⟩:=vA S h1.g zz.1 r1;refine ng ?_;refine⟨_,fun pl Q z=>getMethod_builtin d.typeIs F.plainAttrs_dict F.slot_dict_setdefault F.type_dict_setdefault d.mapOf.noDict z,QU he rfl (He p1 _ _ h1 zz.2 fun p2 y v h2 s2 r2 q2=>?_)⟩;refine qG fun ng=>?_;refine(xY q2).elim fun em q2=>?_;obtain⟨i,rfl,q3⟩:=j5 q2;obtain⟨t,rfl⟩:=r2.int;refine wI (BJ q3) fun es' eo' q4=>?_;refine(xY q4).elim fun hz q5=>?_;refine ng ?_;have s:=s1.trans s2;refine PyProof.Rows.List_ (Calls.spliced_nil (wpAny_newObj_type ?_ (zA _)));cases el:y8 es' i with
  | some v =>
   rw[el]at q5;have g:=h2.push {cls:=.type "list",data:=.seq #[]};exact⟨bM,PU S g.1 em eo' hz ((r1.step h1.g s2).step h2.g g.2.w) (fun v' e=>by cases el.symm.trans e; exact q5) (fun e=>(gO e el).elim) (z:=.none) (k.on (s.trans g.2.w))⟩
  | none =>
   rw[el]at q5;refine qG fun ng=>?_;obtain⟨g,n,rfl⟩:=DM em;refine ng ?_;refine Go.new (c:=c) (ρ:=ρ) (p:=p2) (Q:=fun v σ'=>obj σ' (.ref g n)=some (.dI es')/\g9 v=true/\Q v (σ'.put (.dI (xQ es' i v)) (.ref g n))) (R:=fun w s=>f6 c s.heap (.builtin "dict.setdefault")/\wA c (call (.builtin "dict.setdefault") [.ref a,.int i t,w]) R s) ?_ h2 (eF q5 fun k e z=>⟨(d5 fun y=>?_).trans eo',rfl,z⟩) rfl fun m σ f=>⟨[],0,zY _ rfl,trivial⟩
   ·exact fun p3 z w h3 s3 r3 q=>⟨bM,PU S h3 em q.1 hz ((r1.step h1.g s2).step h2.g s3) (fun v e=>(gO el e).elim) (fun z0=>⟨r3.gv q.2.1,q.2.2⟩) (k.on (s.trans s3))⟩
   ·rw[y.1,y.2]at eo';exact gO e eo'
end
noncomputable def f9:B1->String
 | .len=>"len"
 | .range=>"range"
 | .tuple=>"tuple"
 | .str=>"str"
 | .sortI=>"sorted"
 | .sortS=>"sorted"
 | .any=>"any"
 | _=>"len"
noncomputable def SF:B1->Value
 | .len=>.builtin "len"
 | .range=>.type "range"
 | .tuple=>.type "tuple"
 | .str=>.type "str"
 | .sortI=>.builtin "sorted"
 | .sortS=>.builtin "sorted"
 | .any=>.builtin "any"
 | _=>.builtin "len"
noncomputable def K9:B1->Bool
 | .strip=>false
 | .rev=>false
 | .any=>false
 | _=>true
section
variable{c:Fx}{ρ:y5}{p:Mt}{C:yA}{x y z:V}{u v w:Value}{n:String}{Q:Kv}{R:Value->Shared->Prop}{a:Addr}{ob:Ob}
def Go.walked(k:Go c ρ p Q R)(h:At c ρ p){o:Obj}{h':Heap}{tk:Nat}(hk:∀b x,b∉[p.s.heap.objs.size]->(p.s.heap.push o).get? b=some x->h'.get? b=some x)(r:∀p':Mt,c.V p' x v)(q:Q x p.σ):R v {p.s with heap:=h',toks:=tk} :=
 k.kept h (fun b x e=>hk b x (fun z=>Nat.lt_irrefl _ (qO.mp z▸Heap.lt_size e)) (zX _ e)) (r _) q
def NO(S:yW c.X)(h:At c ρ p)(q:d4 p.σ x fun l=>v9 l (Q (.tup l) p.σ))(r:y7 c p x u)(k:Go c ρ p Q R):wA c (call (.type "tuple") [u]) R p.s:=by
 refine wI (aK S h.g q r) fun l sq z=>?_;obtain⟨hl,z⟩:=wE z;cases sq with
 | tup a xs ex e t rr=>subst e; subst ex; exact call_tuple_same t (k.hereT h r z)
 | lst a xs n ex e t rr =>
  subst e;refine call_tuple_list (il t) (fun h' hk=>?_) (by rw[zW,<-rr.length,sizeLine_eq]; exact qF hl (by decide));refine k.kept h (tk:=p.s.toks) (x:=.tup l) (fun b o e=>zX _ (hk b o e)) ?_ z;refine⟨xs,dH (rr.mono fun x v r=>yG.step h.g (h.g.grow (s:={p.s with heap:=h'.push {cls:=.type "tuple",data:=.seq xs.toArray}}) (fun b o e=>zX _ (hk b o e)) rfl rfl).2.w r),_,rfl,h.g.fresh ?_,_,zY _ rfl,rfl,0,rfl⟩;cases y:p.s.heap.get? h'.objs.size with
  | none=>rfl
  | some o=>exact absurd (Heap.lt_size (hk _ _ y)) (Nat.lt_irrefl _)
def VV{i:Nat}{n:Nat}(hi:i<=1)(h:n<=1000000000):Z3 ((i:Int)+n):=⟨Int.le_trans (by decide) (zD (i+n)),Int.lt_of_le_of_lt (Int.ofNat_le.mpr (Nat.add_le_add hi h)) (by decide)⟩
def q1O(S:yW c.X)(hr:wX c.A)(h:At c ρ p){m:B1}(hm:K9 m=true)(q:q7A p.σ m x (kq Q p.σ))(r:y7 c p x u)(k:Go c ρ p Q R):wA c (call (SF m) [u]) R p.s:=by
 cases m with
 | len=>exact IJ S h q r k
 | range =>
  obtain⟨i,rfl,q⟩:=j5 q;obtain⟨t,rfl⟩:=r.int;cases i with
  | negSucc n=>exact q.elim
  | ofNat n =>
  obtain⟨hn,q⟩:=xY q;have hn:=z8 hn;refine call_range_1 ?_;have G:=h.push {cls:=.type "range",data:=.fields #[.int 0 p.s.toks,.int n t,.int 1 (p.s.toks+1)]};refine(k.on G.2.w).here G.1 (x:=.rng 0 n) ⟨_,rfl,h.g.fresh (yI _),⟨⟨by decide,by decide⟩,VV (by decide) (z9 hn)⟩,p.s.toks,t,p.s.toks+1,?_⟩ q;exact(Int.zero_add (n:Int)).symm▸IsRange.new ..
 | tuple=>exact NO S h q r k
 | str =>
  obtain⟨i,rfl,hs,q⟩:=j5 q;obtain⟨t,rfl⟩:=r.int;refine P.str_of_int (qI (WT hs) (by decide)) ?_;exact k.here h (x:=.str (jH i)) ⟨p.s.toks,congrArg (Value.str · _) (PySem.Str.ofString_eq_toList _)⟩ q
 | sortI=>exact eX S hr h q r (fun l z=>z.elim fun is z=>⟨vI (sortI is),by rw[z.1,qH]; exact z.2.1,z.2.2,.inl ⟨is,z.1,rfl⟩⟩) k
 | sortS=>exact eX S hr h q r (fun l z=>z.elim fun is z=>⟨vS (sortS is),by rw[z.1,qH]; exact z.2.1,z.2.2,.inr ⟨is,z.1,rfl⟩⟩) k
 | _=>cases hm
end
def MR{m:B1}(h:K9 m=true):fA (f9 m)=SF m:=by
 cases m <;> first | (cases h; done) | exact if_pos (by decide) | exact if_neg (by decide)
section
variable{c:Fx}{ρ:y5}{p:Mt}{C:yA}{x y z:V}{u v w:Value}{n:String}{Q:Kv}{R:Value->Shared->Prop}{a:Addr}{ob:Ob}{vs:List V}{args:List Value}
def BW{h:Heap}{m:B1}:f6 c h (SF m):=by
 cases m <;> exact⟨.machine,.inr (.inl rfl),Looks.of_pure rfl⟩
def pO{id:String}{pp pos:Pos}{es:List Expr}(hs:es.all yQ=true)(Hf:SE c ρ (eval (.Name (tx id) pp) c.env) (we C (.g id (.blt id)) ρ))(h:At c ρ p){P:St->Prop}(q:P p.σ)
  (k:∀p1,At c ρ p1->yC c.own p p1->P p1.σ->wA c (spliced (backTo pos (starEach es c.env))) (fun args s=>f6 c s.heap (fA id)/\wA c (call (fA id) args) R s) p1.s) :
  wA c (eval (.Call (.Name (tx id) pp) es [] pos) c.env) R p.s:=by
 rw[arm_eval_Call_Name'];refine wpAny_bind (Hf p (fun f σ=>f=.blt id/\P σ) _ h ⟨rfl,q⟩ fun p1 x u h1 s1 r1 q1=>?_);refine qG fun ng=>?_;obtain⟨rfl,q1⟩:=q1;refine ng ?_;rw[r1.1];exact kR (first:=[]) (tB hs).1 (k p1 h1 s1 q1)
def q4A(S:yW c.X)(hr:wX c.A){m:B1}(hm:K9 m=true){e:Expr}{ex:Ex}{pp pos:Pos}(he:yQ e=true)(Hf:SE c ρ (eval (.Name (tx (f9 m)) pp) c.env) (we C (.g (f9 m) (.blt (f9 m))) ρ))(He:SE c ρ (eval e c.env) (we C ex ρ)):
  SE c ρ (eval (.Call (.Name (tx (f9 m)) pp) [e] [] pos) c.env) (we C (.b1 m ex) ρ):=fun p Q R h q k =>
 pO (by show(yQ e&&true)=true; rw[he]; rfl) Hf h (P:=we C ex ρ (q4Z m Q)) q fun p1 h1 s1 q1=>J1 he (He p1 _ _ h1 q1 fun p2 x u h2 s2 r2 q2=>MR hm▸⟨BW,q1O S hr h2 hm q2 r2 (k.on (s1.trans s2))⟩)
def OH(h:At c ρ p)(q:q1P p.σ .range x y (kq Q p.σ))(r:y7 c p x u)(r':y7 c p y v)(k:Go c ρ p Q R):wA c (call (.type "range") [u,v]) R p.s:=by
 obtain⟨i,rfl,q⟩:=j5 q;obtain⟨j,rfl,q⟩:=j5 q;obtain⟨t,rfl⟩:=r.int;obtain⟨t',rfl⟩:=r'.int;obtain⟨e,q1⟩:=xY q;clear q;cases zT e;cases j with
 | negSucc n=>exact q1.elim
 | ofNat n =>
 cases n with
 | zero=>exact q1.elim
 | succ n =>
 obtain⟨hn,q⟩:=xY q1;have hn:=z8 hn;refine call_range_2 ?_;have G:=h.push {cls:=.type "range",data:=.fields #[.int 1 t,.int (n+1) t',.int 1 p.s.toks]};refine(k.on G.2.w).here G.1 (x:=.rng 1 n) ⟨_,rfl,h.g.fresh (yI _),⟨⟨by decide,by decide⟩,VV (i:=1) (by decide) (z9 hn)⟩,t,t',p.s.toks,?_⟩ q;exact Int.add_comm (n:Int) 1▸IsRange.new ..
def IR(hr:wX c.A)(h:At c ρ p)(q:q1P p.σ .min x y (kq Q p.σ))(r:y7 c p x u)(r':y7 c p y v)(k:Go c ρ p Q R):wA c (call (.builtin "min") [u,v]) R p.s:=by
 obtain⟨i,rfl,q⟩:=j5 q;obtain⟨j,rfl,q⟩:=j5 q;obtain⟨t,rfl⟩:=r.int;obtain⟨t',rfl⟩:=r'.int;refine min_two_ints hr.1 fun h' tk hk=>?_
 by_cases e:j<i
 ·rw[if_pos e];exact k.kept h hk (x:=.int (min i j)) ⟨t',congrArg (Value.int · t') (Int.min_eq_right (Int.le_of_lt e)).symm⟩ q
 ·rw[if_neg e];exact k.kept h hk (x:=.int (min i j)) ⟨t,congrArg (Value.int · t) (Int.min_eq_left (Int.not_lt.mp e)).symm⟩ q
def TO{e e':Expr}{ex ex':Ex}{pp pos:Pos}(he:yQ e=true)(he':yQ e'=true)(Hf:SE c ρ (eval (.Name (tx "range") pp) c.env) (we C (.g "range" (.blt "range")) ρ)) (He:SE c ρ (eval e c.env) (we C ex ρ)) (He':SE c ρ (eval e' c.env) (we C ex' ρ)) :
  SE c ρ (eval (.Call (.Name (tx "range") pp) [e,e'] [] pos) c.env) (we C (.b2 .range ex ex') ρ):=fun p Q R h q k =>
 pO (iS he he') Hf h (P:=we C ex ρ (jZ (we C ex' ρ) (q50 .range Q))) q fun p1 h1 s1 q1=>QU he he' (He p1 _ _ h1 q1 fun p2 x u h2 s2 r2 q2=>He' p2 _ _ h2 q2 fun p3 y v h3 s3 r3 q3 =>
  ⟨⟨.machine,.inr (.inl rfl),Looks.of_pure rfl⟩,OH h3 q3 (r2.step h2.g s3) r3 (k.on (s1.trans (s2.trans s3)))⟩)
def OR(hr:wX c.A){e e':Expr}{ex ex':Ex}{pp pos:Pos}(he:yQ e=true)(he':yQ e'=true)(Hf:SE c ρ (eval (.Name (tx "min") pp) c.env) (we C (.g "min" (.blt "min")) ρ)) (He:SE c ρ (eval e c.env) (we C ex ρ)) (He':SE c ρ (eval e' c.env) (we C ex' ρ)) :
  SE c ρ (eval (.Call (.Name (tx "min") pp) [e,e'] [] pos) c.env) (we C (.b2 .min ex ex') ρ):=fun p Q R h q k =>
 pO (iS he he') Hf h (P:=we C ex ρ (jZ (we C ex' ρ) (q50 .min Q))) q fun p1 h1 s1 q1=>QU he he' (He p1 _ _ h1 q1 fun p2 x u h2 s2 r2 q2=>He' p2 _ _ h2 q2 fun p3 y v h3 s3 r3 q3 =>
  ⟨⟨.machine,.inr (.inl rfl),Looks.of_pure rfl⟩,IR hr h3 q3 (r2.step h2.g s3) r3 (k.on (s1.trans (s2.trans s3)))⟩)
end
section
variable{c:Fx}{ρ:y5}{p:Mt}{C:yA}{x y z:V}{u v w:Value}{n:String}{Q:Kv}{R:Value->Shared->Prop}{a:Addr}{ob:Ob}{vs:List V}{args:List Value}
def TW(l:List Nat):(Txt.replace ⟨l.toArray⟩ ⟨#[33]⟩ ⟨#[]⟩:PySem.Str)=⟨(l.filter (· != 33)).toArray⟩:=by
 have e:=replace_strikes ⟨l.toArray⟩ 33;generalize Txt.replace ⟨l.toArray⟩ ⟨#[33]⟩ ⟨#[]⟩=z at e;cases z;exact congrArg _ (Array.toList_inj.mp e)
def PW(S:yW c.X)(hr:wX c.A){o:Expr}{ox:Ex}{k1 k2 k3:Nat}{p0 p2 p3 p4 apos pos:Pos}(hl:(apos.endLine==pos.line)=true)(Ho:SE c ρ (eval o c.env) (we C ox ρ)):
  SE c ρ (eval (.Call (.Attribute (.Subscript o (.Constant (.int 1) k1 p0) p2) (tx "replace") apos) [.Constant (.str ⟨#[33]⟩) k2 p3,.Constant (.str ⟨#[]⟩) k3 p4] [] pos) c.env) (we C (.b1 .strip ox) ρ):=fun p Q R h q k=>by
 rw[arm_eval_Call,dM rfl];refine wpAny_bind (Subscript_ (Ho p _ _ h q fun p1 x u h1 s1 r1 q1=>wpAny_Constant_int ?_));refine qG fun ng=>?_;obtain⟨y,s,rfl,hz,q1⟩:=q1;obtain⟨xs,a,rfl,_,t,rr⟩:=r1.tup;obtain⟨w0,t',rfl⟩:∃w0 t',xs=[w0,.str ⟨s.toArray⟩ t']:=by
  cases xs with
  | nil=>exact rr.elim
  | cons w0 xs=>cases xs with
   | nil=>exact rr.2.elim
   | cons w1 xs=>cases xs with
    | nil=>exact rr.2.1.elim fun t' e=>⟨w0,t',e▸rfl⟩
    | cons _ _=>exact rr.2.2.elim
 refine ng ?_;refine tail_any (t.elim fun o z=>⟨o,z.1,z.2.1⟩) slot_tuple_getitem.lookup (getItem_tuple (s:={p1.s with toks:=p1.s.toks+1}) t (by decide) (by decide) (j:=1) rfl (show #[w0,Value.str ⟨s.toArray⟩ t'][1]?=some (Value.str ⟨s.toArray⟩ t')from rfl) ?_) rfl;refine wpAny_bind (wpAny_standAt ?_);unfold methodCall;have hf:∀n,n<30->methodCallForm n (backTo pos (starEach [.Constant (.str ⟨#[33]⟩) k2 p3,.Constant (.str ⟨#[]⟩) k3 p4] c.env)) (backToKw pos (keywordEach [] c.env))=true:=fun n h=>zU h;rw[hf _ (Nat.lt_of_sub_eq_succ rfl)];refine wpAny_bind (wpAny_holding (GM.replace ?_));rw[show methodCallPos true (.Subscript o (.Constant (.int 1) k1 p0) p2) c.env apos pos=pure pos from by
  unfold methodCallPos;rw[hl]; rfl]
 refine wpAny_bind (wpAny_pure (kR (first:=[_]) rfl (Calls.spliced_cons (wpAny_Constant_str (k:=k2) (pos:=p3) (Calls.spliced_cons (wpAny_Constant_str (k:=k3) (pos:=p4) (Calls.spliced_nil ⟨bM,?_⟩)))))));refine SC.replace (Nat.succ_ne_zero _) (Nat.succ_ne_zero _) (Nat.ne_of_lt (Nat.lt_succ_self _)) (by decide) (qF (qF (qK (congrArg (s.length+·) (Nat.mul_zero _))) hz) (by decide)) fun t' m=>?_;rw[TW];exact(k.on s1).here h1 (x:=.str _) ⟨t',rfl⟩ q1
end
section
variable{c:Fx}{ρ:y5}{p:Mt}{C:yA}{x y z:V}{u v w:Value}{n:String}{Q:Kv}{R:Value->Shared->Prop}{a:Addr}{ob:Ob}{vs:List V}{args:List Value}
def oX:∀n∈LJ,n++".__init__"≠"roll":=by decide +kernel
def q4Y{σ:St}{g:Bool}{k:Nat}(h:ET (σ.at g k)=true):σ.at g k=none:=gM h
def new_at(S:yW c.X)(hC:∀args,jJ c.X (c.A.under (.builtin "type.__call__" args)) C) (h:At c ρ p) (hn:n∈LJ) (q:IY C n vs Q p.σ) (ra:y6 (c.V p) vs args) (k:Go c ρ p Q R):wA c (call (.ref (c.X.FA n)) args) R p.s:=by
 refine v4 (q) fun a d q=>?_;refine(xY q).elim fun e1 q=>?_;refine(xY q).elim fun e2 q=>?_;have st:=(h.g.new_at (g:=true) (n:=d) (ob:=.ns []) (s:={p.s with heap:=p.s.heap.push emptyDict}) (gM e1) (yI _) (fun z0 z0 e=>zX _ e) ⟨_,zY _ rfl⟩ rfl rfl fun f=>⟨[],0,zY _ rfl,trivial⟩).2.trans ((h.g.new_at (g:=true) (n:=d) (ob:=.ns []) (s:={p.s with heap:=p.s.heap.push emptyDict}) (gM e1) (yI _) (fun z0 z0 e=>zX _ e) ⟨_,zY _ rfl⟩ rfl rfl fun f=>⟨[],0,zY _ rfl,trivial⟩).1.new_at (g:=true) (n:=a) (ob:=.inst n d) (a:=p.s.heap.objs.size+1) (s:={p.s with heap:=(p.s.heap.push emptyDict).push (instObj (c.X.FA n) p.s.heap.objs.size)}) (gM e2) ((((Heap.size_push ..:(p.s.heap.push emptyDict).objs.size=p.s.heap.objs.size+1))▸yI _:(p.s.heap.push emptyDict).get? (p.s.heap.objs.size+1)=none)) (fun z0 z0 e=>zX _ e) ⟨_,((((Heap.size_push ..:(p.s.heap.push emptyDict).objs.size=p.s.heap.objs.size+1))▸zY _ rfl:((p.s.heap.push emptyDict).push (instObj (c.X.FA n) p.s.heap.objs.size)).get? (p.s.heap.objs.size+1)=some (instObj (c.X.FA n) p.s.heap.objs.size)))⟩ rfl rfl fun f=>⟨qX.mpr hn,p.s.heap.objs.size,(if_neg ((fun z=>gO (gM e2) ((congrArg (jM _) z.2.symm).trans (bT _ _)):¬(true=true/\d=a)))).trans (if_pos ⟨rfl,rfl⟩),((((Heap.size_push ..:(p.s.heap.push emptyDict).objs.size=p.s.heap.objs.size+1))▸zY _ rfl:((p.s.heap.push emptyDict).push (instObj (c.X.FA n) p.s.heap.objs.size)).get? (p.s.heap.objs.size+1)=some (instObj (c.X.FA n) p.s.heap.objs.size)))⟩).2;have z:=(iW (hC ⟨.ref (c.X.FA n)::args,[]⟩) (h.step st ((h.g.new_at (g:=true) (n:=d) (ob:=.ns []) (s:={p.s with heap:=p.s.heap.push emptyDict}) (gM e1) (yI _) (fun z0 z0 e=>zX _ e) ⟨_,zY _ rfl⟩ rfl rfl fun f=>⟨[],0,zY _ rfl,trivial⟩).1.new_at (g:=true) (n:=a) (ob:=.inst n d) (a:=p.s.heap.objs.size+1) (s:={p.s with heap:=(p.s.heap.push emptyDict).push (instObj (c.X.FA n) p.s.heap.objs.size)}) (gM e2) ((((Heap.size_push ..:(p.s.heap.push emptyDict).objs.size=p.s.heap.objs.size+1))▸yI _:(p.s.heap.push emptyDict).get? (p.s.heap.objs.size+1)=none)) (fun z0 z0 e=>zX _ e) ⟨_,((((Heap.size_push ..:(p.s.heap.push emptyDict).objs.size=p.s.heap.objs.size+1))▸zY _ rfl:((p.s.heap.push emptyDict).push (instObj (c.X.FA n) p.s.heap.objs.size)).get? (p.s.heap.objs.size+1)=some (instObj (c.X.FA n) p.s.heap.objs.size)))⟩ rfl rfl fun f=>⟨qX.mpr hn,p.s.heap.objs.size,(if_neg ((fun z=>gO (gM e2) ((congrArg (jM _) z.2.symm).trans (bT _ _)):¬(true=true/\d=a)))).trans (if_pos ⟨rfl,rfl⟩),((((Heap.size_push ..:(p.s.heap.push emptyDict).objs.size=p.s.heap.objs.size+1))▸zY _ rfl:((p.s.heap.push emptyDict).push (instObj (c.X.FA n) p.s.heap.objs.size)).get? (p.s.heap.objs.size+1)=some (instObj (c.X.FA n) p.s.heap.objs.size)))⟩).1) (args:=.ref (p.s.heap.objs.size+1)::args) (x:=.fn (n++".__init__")) q ⟨rfl,oX n hn⟩ ⟨⟨rfl,_,if_pos ⟨rfl,rfl⟩,rfl⟩,ra.mono fun x v r=>yG.step h.g st.w r⟩ (R:=fun v s'=>v=.none/\R (.ref (p.s.heap.objs.size+1)) s') fun p3 x v h3 s3 r3 q3=>by
  refine(xY q3).elim fun e q3=>?_;cases x <;> first | (cases e; done) | exact⟨r3,k p3 (.ref true a) _ h3 (st.w.trans s3) ⟨_,s3.le _ _ _ (if_pos ⟨rfl,rfl⟩),rfl⟩ q3⟩).2
 refine wpAny_call ?_;obtain⟨m,σ,⟨hp,g,d,t,os⟩⟩:=p;refine make_core (makes_of (h.g.kin S) (S.cls n hn).makes) (looks_findIn (h.g.kin S) (S.cls n hn).init) (fun self=>bind_fn (h.g.kin S) self (S.cls n hn).initF) (.inl rfl) ?_;refine codeAny_mono z fun r s' z=>?_;obtain⟨v,rfl,rfl,q⟩:=z;exact⟨rfl,q⟩
def OT(S:yW c.X)(hC:∀args,jJ c.X (c.A.under (.builtin "type.__call__" args)) C) {pp pos:Pos} {es:List Expr} {pH:List Ex} (hn:n∈LJ) (hs:es.all yQ=true)
  (Hf:SE c ρ (eval (.Name (tx n) pp) c.env) (we C (.g n (.fn n)) ρ)) (Ha:GG c ρ (backTo pos (starEach es c.env)) (aX C pH ρ)) :
  SE c ρ (eval (.Call (.Name (tx n) pp) es [] pos) c.env) (we C (.new n pH) ρ):=fun p Q R h q k=>by
 rw[arm_eval_Call_Name'];refine wpAny_bind (Hf p (fun f σ=>f=.fn n/\aX C pH ρ (fun vs σ=>IY C n vs Q σ) σ) _ h ⟨rfl,q⟩ fun p1 x u h1 s1 r1 q1=>?_);obtain⟨rfl,q1⟩:=q1;rw[r1.1];refine kR (first:=[]) (tB hs).1 (Ha p1 _ _ h1 q1 fun p2 vs args l h2 s2 r2 q2=>⟨?_,new_at S hC h2 hn q2 r2 (k.on (s1.trans s2))⟩);refine wI (looks_keep (M:=model c.X.prog c.X.w) (S.cls n hn).keep (h2.g.kin S)) fun k h1 h2=>?_;exact⟨k,h1.elim .inl fun e=>.inr (.inl e),h2⟩
end
set_option genCtorIdx false in
structure rV (c:Fx) (Wr:List String):Prop where
 privL:c.own c.env.locals
 wr:∀x∈Wr,∀a,c.env.cells.lookup (tx x)=some a->c.own a
 apart:∀x∈Wr,∀y a,c.env.cells.lookup (tx x)=some a->c.env.cells.lookup y=some a->y=tx x
 neL:∀x a,c.env.cells.lookup x=some a->a≠c.env.locals
def wH(env:Env)(Wr:List String)(x:String):Prop:=env.kindOf (tx x)=some .local\/(x∈Wr/\env.kindOf (tx x)=some .cell)
section
variable{c:Fx}{ρ:y5}{p p':Mt}{C:yA}{x y z:V}{u v w:Value}{n:String}{R:Value->Shared->Prop}{a:Addr}{ob:Ob}{Wr:List String}
noncomputable def Mt.heap(p:Mt)(h:Heap)(t:Nat):Mt:=⟨p.m,p.σ,{p.s with heap:=h,toks:=t}⟩
def yJ.priv1(G:yJ c p)(pv:c.Pv a){h':Heap}{t:Nat}(sb:Heap.SameBut a p.s.heap h')(e:∃o,h'.get? a=some o):yJ c (p.heap h' t)/\yC (fun b=>b=a) p (p.heap h' t):=by
 have st:yC (fun b=>b=a) p (p.heap h' t):=⟨fun z0 z0 z0 e=>e,fun b o z0 n q=>(sb.2 b n).trans q,fun z0 z=>.inl z,fun z0 z0 z0 e=>.inl e,fun b o q=>?_⟩
 ·have kk:iJ (NN c.Pv p) (NN c.Pv (p.heap h' t)) p.s.heap h':=fun b o n q=>⟨n,(sb.2 b fun z=>n (.inr (z▸pv))).trans q⟩;refine⟨⟨fun b o q=>(sb.2 b fun z=>gO (G.priv a pv).1 (z▸q)).trans (G.base b o q),fun g n ob q=>?_,G.non,G.inj,fun g n b q=>⟨(G.at_ g n b q).1.elim fun o z=>st.there b o z,(G.at_ g n b q).2⟩,fun b z=>⟨(G.priv b z).1,(G.priv b z).2.elim fun o q=>st.there b o q⟩,G.own,G.gens,G.os⟩,st⟩;refine(G.rep g n ob q).elim fun b zz=>?_;exact⟨b,zz.1,zz.2.mono st.le.g kk fun o z=>(sb.2 b fun y=>(G.at_ g n b zz.1).2.2 (y▸pv)).trans z⟩
 ·by_cases y:b=a
  ·exact y▸e
  ·exact⟨o,(sb.2 b y).trans q⟩
def yC.wk{U U':Addr->Prop}(s:yC U p p')(f:∀a,U a->U' a):yC U' p p':=⟨s.le,fun a o n n' e=>s.keep a o n (fun z=>n' (f a z)) e,s.new,s.mnew,s.there⟩
def yC.one{U:Addr->Prop}(s:yC (fun b=>b=a) p p')(u:U a):yC U p p':=s.wk fun z0 z=>z▸u
def q4T(c:Fx)(ρ:y5)(p:Mt)(R:Shared->Prop):Prop:=∀p',At c ρ p'->yC c.own p p'->p'.σ=p.σ->R p'.s
def aL{x y:String}{v z:V}(h:y5.set ρ x v y=some z):(y=x/\z=v)\/(y≠x/\ρ y=some z):=by
 unfold y5.set at h
 by_cases e:y=x
 ·rw[if_pos e]at h; exact .inl ⟨e,(qN h).symm⟩
 ·rw[if_neg e]at h; exact .inr ⟨e,h⟩
def kX(W:rV c Wr){x:String}{v:V}{R:Unit->Shared->Prop}(h:At c ρ p)(hx:wH c.env Wr x)(r:y7 c p v u)(k:q4T c (y5.set ρ x v) p (R ())):wA c (storeName c.env (tx x) u) R p.s:=by
 rcases hx with hx | ⟨hw,hx⟩
 ·refine(h.ns).elim fun m zz=>?_;refine wpAny_storeName_local hx zz.1 (fun h' hn' sb=>?_) (by rw[h.e.kind]; rfl);have P:=h.g.priv1 (t:=p.s.toks+1) (h.g.own _ W.privL) sb (kT hn');have P:yJ c _/\yC c.own p _:=⟨P.1,P.2.one W.privL⟩;refine k (p.heap h' _) ⟨P.1,h.e,⟨_,hn',fun y z e h0 hl=>?_⟩,fun y z e hk=>?_,h.noL,fun y b e=>⟨(h.noC y b e).1,(h.noC y b e).2.elim fun v q=>⟨v,kN (fun o z=>(sb.2 b (W.neL _ _ e)).trans z) q⟩⟩⟩ P.2 rfl
  ·rcases aL e with⟨rfl,rfl⟩ | ⟨ne,e⟩
   ·exact⟨u,if_pos rfl,r.step h.g P.2⟩
   ·exact(zz.2 y z e h0 hl).elim fun w q=>⟨w,(if_neg fun t=>ne (aS t)).trans q.1,q.2.step h.g P.2⟩
  ·rcases aL e with⟨rfl,rfl⟩ | ⟨ne,e⟩
   ·exact hk.elim (fun hk=>nomatch hx.symm.trans hk) fun hk=>nomatch hx.symm.trans hk
   ·exact v4 (h.cells y z e hk) fun b w q=>⟨b,w,q.1,kN (fun o z=>(sb.2 b (W.neL _ _ q.1)).trans z) q.2.1,q.2.2.step h.g P.2⟩
 ·refine(h.e.hasC _ (.inl hx)).elim fun b hb=>?_;refine q5G (h.noC _ b hb) fun n v0 hv0=>?_;refine wpAny_storeName_cell h.e.kind hx hb hv0 fun h' hc' sb=>?_;have P:=h.g.priv1 (t:=p.s.toks) (h.g.own _ (W.wr x hw b hb)) sb (hc'.elim fun o q=>⟨o,q.1⟩);have P:yJ c _/\yC c.own p _:=⟨P.1,P.2.one (W.wr x hw b hb)⟩;refine k (p.heap h' _) ⟨P.1,h.e,?_,fun y z e hk=>?_,h.noL,fun y d e=>⟨(h.noC y d e).1,?_⟩⟩ P.2 rfl
  ·refine h.ns.elim fun m q=>⟨m,dC (fun o z=>(sb.2 _ (Ne.symm (W.neL _ _ hb))).trans z) q.1,fun y z e h0 hl=>?_⟩;rcases aL e with⟨rfl,rfl⟩ | ⟨ne,e⟩
   ·exact nomatch hx.symm.trans hl
   ·exact(q.2 y z e h0 hl).elim fun w q=>⟨w,q.1,q.2.step h.g P.2⟩
  ·rcases aL e with⟨rfl,rfl⟩ | ⟨ne,e⟩
   ·exact⟨b,u,hb,hc',r.step h.g P.2⟩
   ·exact v4 (h.cells y z e hk) fun d w q=>⟨d,w,q.1,kN (fun o z=>(sb.2 d fun t=>ne (aS (W.apart x hw _ b hb (t▸q.1)))).trans z) q.2.1,q.2.2.step h.g P.2⟩
  ·by_cases q:d=b
   ·exact q▸⟨_,hc'⟩
   ·exact(h.noC y d e).2.elim fun v t=>⟨v,kN (fun o z=>(sb.2 d q).trans z) t⟩
end
def q5A(c:Fx)(p:Mt):Fl->Flow->Prop
 | .next,f=>f=.next
 | .cont,f=>f=.cont
 | .ret v,f=>∃u,f=.ret u/\y7 c p v u
def q0M(c:Fx)(p:Mt)(Q:Kf)(R:Flow->Shared->Prop):Prop:=∀ρ p' fl f,At c ρ p'->yC c.own p p'->q5A c p' fl f->Q fl ρ p'.σ->R f p'.s
def SX(c:Fx)(t:Sem Flow)(P:y5->Kf->St->Prop):Prop:=∀ρ p Q R,At c ρ p->P ρ Q p.σ->q0M c p Q R->wA c t R p.s
noncomputable def pC:Expr->Bool
 | .Tuple ..=>false
 | .ListComp ..=>false
 | .SetComp ..=>false
 | .DictComp ..=>false
 | _=>true
section
variable{c:Fx}{ρ:y5}{p p':Mt}{C:yA}{x y z:V}{u v w:Value}{n:String}{R:Flow->Shared->Prop}{a:Addr}{ob:Ob}{Wr:List String}{Q:Kf}
def bU{t:Option Expr}{e:Expr}{l:Nat}{env:Env}(h:pC e=true):swapsWith e t l env=pure false:=by
 cases e <;> first | rfl | (cases h)
def QM{es:List Expr}{k:Nat}{tp:Pos}{e:Expr}{env:Env}(h:pC e=true):swappedStores [.Tuple es k tp] e env=pure none:=by
 cases e <;> first | rfl | (cases h)
def q0M.on(k:q0M c p Q R)(s:yC c.own p p'):q0M c p' Q R:=fun ρ p2 fl f h t=>k ρ p2 fl f h (s.trans t)
def q0M.next(k:q0M c p Q R)(h:At c ρ p')(s:yC c.own p p')(q:Q .next ρ p'.σ):R .next p'.s:=k ρ p' .next .next h s rfl q
def NF{x:String}{e:Expr}{ex:Ex}{pp pos:Pos}(W:rV c Wr)(hx:wH c.env Wr x)(hs:swapsWith e (some (.Name (tx x) pp)) pos.line c.env=pure false)(H:∀ρ,SE c ρ (eval e c.env) (we C ex ρ)):
  SX c (exec (.Assign [.Name (tx x) pp] e pos) c.env) (ws C (.asg x ex)):=fun ρ p Q R h q k =>
 wpAny_Assign_Name (H ρ p _ _ h q fun p1 x u h1 s1 r1 q1=>kX (R:=fun z0=>R .next) W h1 hx r1 fun p2 h2 s2 e=>k.next h2 (s1.trans s2) ((e)▸q1)) hs
def CQ(S:yW c.X){o e:Expr}{oe ex:Ex}{n:String}{pp pos:Pos}(hn:n∈pK)(ht:pC e=true)(Ho:∀ρ,SE c ρ (eval o c.env) (we C oe ρ))(H:∀ρ,SE c ρ (eval e c.env) (we C ex ρ)):
  SX c (exec (.Assign [.Attribute o (tx n) pp] e pos) c.env) (ws C (.asgA oe n ex)):=fun ρ p Q R h q k =>
 plainObj_wpAny_Assign_Attribute (H ρ p _ _ h q fun p1 x u h1 s1 r1 q1=>Ho ρ p1 _ _ h1 q1 fun p2 y v h2 s2 r2 q2=>by
  refine qG fun ng=>?_;refine(xY q2).elim fun e1 q2=>?_;refine uN (nF S h2.g q2 r2) fun kk d fs a z=>uM z fun b es m I q2=>?_;refine(xY q2).elim fun hl q2=>?_;refine ng ?_;exact U1 S h2.g hn I (z8 hl) ((r1.gv e1).step h1.g s2) fun p3 G3 s3 e=>k.next (h2.step s3 G3) ((s1.trans s2).trans s3.w) ((e)▸q2)) (bU ht)
def CR(S:yW c.X)(hr:wX c.A){o i e:Expr}{oe ie ex:Ex}{pp pos:Pos}(ht:pC e=true)(H:∀ρ,SE c ρ (eval e c.env) (we C ex ρ))(Ho:∀ρ,SE c ρ (eval o c.env) (we C oe ρ))(Hi:∀ρ,SE c ρ (eval i c.env) (we C ie ρ)):
  SX c (exec (.Assign [.Subscript o i pp] e pos) c.env) (ws C (.asgS oe ie ex)):=fun ρ p Q R h q k =>
 wpAny_Assign_Subscript (H ρ p _ _ h q fun p1 x u h1 s1 r1 q1=>Ho ρ p1 _ _ h1 q1 fun p2 y v h2 s2 r2 q2=>Hi ρ p2 _ _ h2 q2 fun p3 z w h3 s3 r3 q3 =>
  CB S hr h3 q3 (r2.step h2.g s3) r3 (r1.step h1.g (s2.trans s3)) fun p4 h4 s4 q4=>k.next h4 ((s1.trans (s2.trans s3)).trans s4) q4) (bU ht)
def q4H{e:Expr}{ex:Ex}{pos:Pos}(hi:interactive c.env=false)(ht:pC e=true)(H:∀ρ,SE c ρ (eval e c.env) (we C ex ρ)):SX c (exec (.Expr e pos) c.env) (ws C (.ex ex)):=fun ρ p Q R h q k =>
 wpAny_Expr (H ρ p _ _ h q fun p1 x u h1 s1 r1 q1=>by
  refine(xY q1).elim fun e q1=>?_;cases x with
  | none=>cases r1; exact(k.next h1 s1 q1)
  | int i=>obtain⟨t,rfl⟩:=r1; exact(k.next h1 s1 q1)
  | _=>cases e) hi (bU ht)
def q08{e:Expr}{ex:Ex}{pos:Pos}(H:∀ρ,SE c ρ (eval e c.env) (we C ex ρ)):SX c (exec (.Return (some e) pos) c.env) (ws C (.ret ex)):=fun ρ p Q R h q k =>
 wpAny_Return_some (H ρ p _ _ h q fun p1 x u h1 s1 r1 q1=>k ρ p1 (.ret x) (.ret u) h1 s1 ⟨u,rfl,r1⟩ q1)
def CW{pos:Pos}:SX c (exec (.Continue pos) c.env) (ws C .cont):=fun ρ p Q R h q k=>by
 exact wpAny_bind (wpAny_standAt (wpAny_pure (k ρ p .cont .cont h .refl rfl q)))
def NG{t:Expr}{te:Ex}{b d:List Stmt}{bx dx:List Sx}{pos:Pos}(Ht:∀ρ,ST c ρ (isTrue t c.env (eval t c.env)) (wt C te ρ))(Hb:SX c (execs b c.env) (xA C bx))(Hc:SX c (execs d c.env) (xA C dx)):
  SX c (exec (.If t b d pos) c.env) (ws C (.iff te bx dx)):=fun ρ p Q R h q k =>
 wpAny_If (Ht ρ p _ _ h q fun p1 v h1 s1 q1=>by
  cases v
  ·exact Hc ρ p1 Q R h1 q1 (k.on s1)
  ·exact Hb ρ p1 Q R h1 q1 (k.on s1))
def q07:SX c (execs [] c.env) (xA C []):=fun ρ p Q R h q k=>wpAny_execs_nil (k.next h .refl q)
def QO{a:Stmt}{r:List Stmt}{ax:Sx}{rx:List Sx}(H:SX c (exec a c.env) (ws C ax))(Hr:SX c (execs r c.env) (xA C rx)):SX c (execs (a::r) c.env) (xA C (ax::rx)):=fun ρ p Q R h q k =>
 wpAny_execs_cons (H ρ p _ _ h q fun ρ1 p1 fl f h1 s1 r1 q1=>by
  cases fl with
  | next=>cases r1; exact Hr ρ1 p1 Q R h1 q1 (k.on s1)
  | cont=>cases r1; exact k ρ1 p1 .cont .cont h1 s1 rfl q1
  | ret v=>obtain⟨u,rfl,r1⟩:=r1; exact k ρ1 p1 (.ret v) (.ret u) h1 s1 ⟨u,rfl,r1⟩ q1)
end
def q0O(es:List Expr)(xs:List String):Prop:=y6 (fun e x=>∃q,e=.Name (tx x) q) es xs
section
variable{c:Fx}{ρ ρ':y5}{p p':Mt}{C:yA}{x y z:V}{u v w:Value}{n:String}{R:Flow->Shared->Prop}{a:Addr}{ob:Ob}{Wr:List String}{Q:Kf}{xs:List String}{es:List Expr}
def FI:∀{es:List Expr}{xs:List String},q0O es xs->(assignEach es c.env).length=xs.length/\(assignEach es c.env).findIdx? (·.1)=none:=by
 intro es
 induction es with
 | nil=>intro xs t; cases xs with
  | nil=>exact⟨rfl,rfl⟩
  | cons _ _=>exact t.elim
 | cons e es ih=>intro xs t; cases xs with
  | nil=>exact t.elim
  | cons x xs =>
   obtain⟨⟨q,rfl⟩,t⟩:=t;refine(ih t).elim fun a b=>?_;refine⟨congrArg (·+1) a,?_⟩;show List.findIdx? _ ((false,assign (.Name (tx x) q) c.env)::assignEach es c.env)=none;rw[List.findIdx?_cons,b]; rfl
def TV(W:rV c Wr){R:Unit->Shared->Prop}:∀{es:List Expr}{xs:List String}{vs:List V}{us:List Value}{ρ:y5}{p:Mt},q0O es xs->(∀x∈xs,wH c.env Wr x)->y5.sets ρ xs vs=some ρ'->At c ρ p->y6 (c.V p) vs us->q4T c ρ' p (R ()) ->
  wA c (assignInOrder ((assignEach es c.env).map (·.2)) us) R p.s:=by
 intro es
 induction es with
 | nil=>intro xs vs us ρ p t _ e h r k; cases xs with
  | cons _ _=>exact t.elim
  | nil=>cases vs with
   | cons _ _=>cases e
   | nil=>cases us with
    | cons _ _=>exact r.elim
    | nil=>cases e; exact wpAny_pure (k p h .refl rfl)
 | cons g es ih=>intro xs vs us ρ p t hx e h r k; cases xs with
  | nil=>exact t.elim
  | cons x xs=>cases vs with
   | nil=>cases e
   | cons v vs=>cases us with
    | nil=>exact r.elim
    | cons u us =>
     obtain⟨⟨q,rfl⟩,t⟩:=t;refine wpAny_bind (wpAny_holding (PyProof.Rows.assign_Name (kX (R:=fun z0 s=>wA c (assignInOrder ((assignEach es c.env).map (·.2)) us) R s) W h (hx x (.head _)) r.1.tt fun p1 h1 s1 e1=>?_)));exact ih t (fun y hy=>hx y (.tail _ hy)) e h1 (r.2.mono fun z0 z0 z=>yG.step h.g s1 z) fun p2 h2 s2 e2=>k p2 h2 (s1.trans s2) (e2.trans e1)
def X2:∀{xs:List String}{vs:List V}{ρ:y5},y5.sets ρ xs vs=some ρ'->vs.length=xs.length:=by
 intro xs
 induction xs with
 | nil=>intro vs ρ e; cases vs with
  | nil=>rfl
  | cons _ _=>cases e
 | cons x xs ih=>intro vs ρ e; cases vs with
  | nil=>cases e
  | cons v vs=>exact congrArg (·+1) (ih e)
def IM{x:Option y5}{W:y5->Prop}(h:lr x W):∃ρ,x=some ρ/\W ρ:=by
 cases x with
 | none=>exact h.elim
 | some ρ=>exact⟨ρ,rfl,h⟩
def i9(hr:wX c.A)(W:rV c Wr){k:Nat}{tp:Pos}{R:Unit->Shared->Prop}(t:q0O es xs)(hx:∀x∈xs,wH c.env Wr x)(e:y5.bind ρ (.tp xs) x=some ρ')(h:At c ρ p)(r:y7 c p x u)(kk:q4T c ρ' p (R ())):
  wA c (assign (.Tuple es k tp) c.env u) R p.s:=by
 have g:∃l,x=.tup l/\y5.sets ρ xs l=some ρ':=by
  cases x <;> first | exact⟨_,rfl,e⟩ | cases e
 refine qG fun ng=>?_;obtain⟨l,rfl,e⟩:=g;obtain⟨us,a,rfl,_,t',rr⟩:=r.tup;refine(FI (c:=c) t).elim fun l1 l2=>?_;refine ng ?_;refine wpAny_assign_Tuple hr.1 t' (by rw[l1,zW,<-rr.length,X2 e]) l2 fun h' he=>?_;have G:=h.g.grow (s:={p.s with heap:=h'}) (fun b o q=>he b o (Nat.ne_of_lt (Heap.lt_size q)) q) rfl rfl;exact TV W (p:=⟨p.m,p.σ,{p.s with heap:=h'}⟩) t hx e (h.step G.2 G.1) (rr.mono fun z0 z0 z=>yG.step h.g G.2.w z) fun p2 h2 s2 e2=>kk p2 h2 (G.2.w.trans s2) e2
def CS(hr:wX c.A){e:Expr}{ex:Ex}{k:Nat}{tp pos:Pos}(W:rV c Wr)(t:q0O es xs)(hx:∀x∈xs,wH c.env Wr x)(hn:pC e=true)(H:∀ρ,SE c ρ (eval e c.env) (we C ex ρ)):
  SX c (exec (.Assign [.Tuple es k tp] e pos) c.env) (ws C (.asgT xs ex)):=fun ρ p Q R h q k =>
 Assign_Tuple (H ρ p _ _ h q fun p1 x u h1 s1 r1 q1=>by
  refine(IM q1).elim fun ρ' zz=>?_;exact i9 (R:=fun z0=>R .next) hr W t hx zz.1 h1 r1 fun p2 h2 s2 e2=>k.next h2 (s1.trans s2) (by rw[e2]; exact zz.2)) (by unfold swapsWithSole; exact bU hn) (QM hn)
end
section
variable{c:Fx}{ρ ρ':y5}{p p':Mt}{C:yA}{x y z:V}{u v w:Value}{n:String}{R:Flow->Shared->Prop}{a:Addr}{ob:Ob}{Wr:List String}{Q:Kf}{op:Op}
def oI(ho:op=.add\/op=.sub){K:V->Prop}{R:Value->Shared->Prop}(h:At c ρ p)(q:ZE op x y K)(r:y7 c p x u)(s:y7 c p y v)(k:∀w u p',K w->At c ρ p'->yC c.own p p'->p'.σ=p.σ->y7 c p' w u->R u p'.s):wA c (inplaceOp (Q2 op) u v) R p.s:=by
 rcases ho with rfl | rfl
 ·obtain⟨i,rfl,q⟩:=j5 q;obtain⟨j,rfl,q⟩:=j5 q;obtain⟨t,rfl⟩:=r.int;obtain⟨t',rfl⟩:=s.int;exact AutoIntOps.iadd_0 (k (.int (i+j)) _ (p.tok _) q h.tok .tok rfl ⟨_,rfl⟩)
 ·obtain⟨i,rfl,q⟩:=j5 q;obtain⟨j,rfl,q⟩:=j5 q;obtain⟨t,rfl⟩:=r.int;obtain⟨t',rfl⟩:=s.int;exact AutoIntOps.isub_0 (k (.int (i-j)) _ (p.tok _) q h.tok .tok rfl ⟨_,rfl⟩)
def CU{x:String}{e:Expr}{ex:Ex}{pp pos:Pos}(ho:op=.add\/op=.sub)(W:rV c Wr)(hx:wH c.env Wr x)(h0:x≠".0") (H:∀ρ,SE c ρ (eval e c.env) (we C ex ρ)) :
  SX c (exec (.AugAssign (.Name (tx x) pp) (Q2 op) e pos) c.env) (ws C (.augN x op ex)):=fun ρ p Q R h q k=>by
 refine qG fun ng=>?_;refine wI (oR q) fun old e0 q=>?_;refine ng ?_;refine wpAny_AugAssign_Name ?_;have L:∀u,y7 c p old u->wA c (eval e c.env) (fun v s₂=>wA c (inplaceOp (Q2 op) u v) (fun r s₃=>wA c (storeName c.env (tx x) r) (fun z0=>R .next) s₃) s₂) p.s:=fun u r =>
  H ρ p _ _ h q fun p1 y v h1 s1 r1 q1=>oI ho h1 q1 (r.step h.g s1) r1 fun w u p2 q2 h2 s2 e2 r2=>kX (R:=fun z0=>R .next) W h2 hx r2 fun p3 h3 s3 e3=>k.next h3 ((s1.trans s2).trans s3) ((e3)▸((e2)▸q2))
 rcases hx with z | ⟨_,z⟩
 ·exact h.ns.elim fun m hn=>(hn.2 x old e0 h0 z).elim fun u q=>wpAny_loadName_local h.e.kind z hn.1 q.1 (L u q.2)
 ·exact v4 (h.cells x old e0 (.inl z)) fun b u q=>wpAny_loadName_cell h.e.kind z q.1 q.2.1 (L u q.2.2)
def CT(S:yW c.X){o e:Expr}{oe ex:Ex}{pp pos:Pos}(ho:op=.add\/op=.sub)(hn:n∈pK)(Ho:∀ρ,SE c ρ (eval o c.env) (we C oe ρ))(H:∀ρ,SE c ρ (eval e c.env) (we C ex ρ)):
  SX c (exec (.AugAssign (.Attribute o (tx n) pp) (Q2 op) e pos) c.env) (ws C (.augA oe n op ex)):=fun ρ p Q R h q k =>
 wpAny_AugAssign_AttributeAny (Ho ρ p _ _ h q fun p1 x u h1 s1 r1 q1=>by
  refine qG fun ng=>?_;refine uN (nF S h1.g q1 r1) fun kk d fs a z=>uM z fun b es m I q1=>?_;refine wI (NE q1) fun old e0 q1=>?_;refine ng ?_;refine K7 S h1.g hn I e0 fun w t hw=>?_;refine H ρ (p1.tok t) _ _ h1.tok q1 fun p2 y v h2 s2 r2 q2=>?_;refine oI ho h2 q2 (yG.tt (yG.step h1.tok.g s2 hw)) r2 fun w u2 p3 q3 h3 s3 e3 r3=>?_;refine qG fun ng=>?_;refine(xY q3).elim fun e1 q3=>?_;rw[<-e3]at q3;refine uN (nF S h3.g q3 ((r1.step h1.g (yC.trans .tok s2)).step h2.g s3)) fun kk d fs a z=>uM z fun b es m I q3=>?_;refine(xY q3).elim fun hl q3=>?_;refine ng ?_;exact U1 S h3.g hn I (z8 hl) (r3.gv e1) fun p4 G4 s4 e=>k.next (h3.step s4 G4) (((s1.trans (yC.trans .tok s2)).trans s3).trans s4.w) (by rw[e]; exact q3))
def CV(S:yW c.X)(hr:wX c.A){o i e:Expr}{oe ie ex:Ex}{pp pos:Pos}(ho:op=.add\/op=.sub)(hp:bG i)(hs:∀ov iv new:Value,augStore i ov iv new=(holding [new,ov,iv] (setItem ov iv new) >>= fun z0=>release [new,ov,iv] [] >>= fun z0=>pure Flow.next))(Ho:∀ρ,SE c ρ (eval o c.env) (we C oe ρ))(Hi:∀ρ,SE c ρ (eval i c.env) (we C ie ρ))(H:∀ρ,SE c ρ (eval e c.env) (we C ex ρ)):
  SX c (exec (.AugAssign (.Subscript o i pp) (Q2 op) e pos) c.env) (ws C (.augS oe ie op ex)):=fun ρ p Q R h q k' =>
 wpAny_AugAssign_SubscriptAny (Ho ρ p _ _ h q fun p1 x u h1 s1 r1 q1=>Hi ρ p1 _ _ h1 q1 fun p2 y v h2 s2 r2 q2=>by
  obtain⟨j,rfl,q3⟩:=j5 q2;obtain⟨t,rfl⟩:=r2.int;refine(aK S h2.g q3 (r1.step h1.g s2)).elim fun l zz=>?_;refine wI (BD zz.2) fun z ix q5=>?_;refine(VF (value:=o) zz.1 ix (fun w0 r=>?_) hp).1;refine H ρ p2 _ _ h2 q5 fun p3 y v h3 s3 r3 q6=>oI ho h3 q6 (y7.step h2.g s3 r.tt) r3 fun w u2 p4 q7 h4 s4 e4 r4=>?_;cases j with
  | negSucc k=>exact False.elim q7
  | ofNat k =>
   have s:=(s1.trans s2).trans (s3.trans s4);refine qG fun ng=>?_;refine(xY (b:=g9 w) q7).elim fun e1 q7=>?_;refine(xY q7).elim fun e2 q7=>?_;rw[<-e4]at q7;refine wI (wY q7) fun l el q7=>?_;refine(xY q7).elim fun lt q7=>?_;refine(wE q7).elim fun hl q7=>?_;refine gE (lZ h4.g e2 el ((r1.step h1.g s2).step h2.g (s3.trans s4))) fun g n a M=>?_;refine mG (M.rep) fun xs m t rr=>?_;refine ng ?_;rw[M.eu];refine sC t (zD k) (zI.mpr (qQ (z8 lt) (qF hl (by decide:lim<=2 ^ 63)))) (zI.mpr (rr.length▸(z8 lt))) fun h' n' he sb=>?_;exact k'.next (h4.upd (s:={p4.s with heap:=h'}) (ob:=.list (l.set k w)) M.at_ (fun z=>nomatch z) M.em sb ⟨_,he⟩ rfl rfl fun f=>⟨_,n',he,y6.set (f _ _ (r4.gv e1)) k (rr.mono f)⟩).1 (s.trans (h4.upd (s:={p4.s with heap:=h'}) (ob:=.list (l.set k w)) M.at_ (fun z=>nomatch z) M.em sb ⟨_,he⟩ rfl rfl fun f=>⟨_,n',he,y6.set (f _ _ (r4.gv e1)) k (rr.mono f)⟩).2.w) (by rw[M.ex]at q7; exact q7)) hs
end
section
variable{c:Fx}{ρ ρ':y5}{p p':Mt}{C:yA}{x y z:V}{u v w:Value}{n:String}{R:Flow->Shared->Prop}{a:Addr}{ob:Ob}{Wr:List String}{Q:Kf}{op:Op}{k:Nat}
def At.tell(h:At c ρ p){x:String}{old w:V}(e:ρ x=some old)(f:∀u,y7 c p old u->y7 c p w u):At c (y5.set ρ x w) p :=
 ⟨h.g,h.e,h.ns.elim fun m q=>⟨m,q.1,fun y z e' h0 hl=>by
  rcases aL e' with⟨rfl,rfl⟩ | ⟨ne,e'⟩
  ·exact(q.2 y old e h0 hl).elim fun u r=>⟨u,r.1,f u r.2⟩
  ·exact q.2 y z e' h0 hl⟩,fun y z e' hk=>by
  rcases aL e' with⟨rfl,rfl⟩ | ⟨ne,e'⟩
  ·exact v4 (h.cells y old e hk) fun b u r=>⟨b,u,r.1,r.2.1,f u r.2.2⟩
  ·exact h.cells y z e' hk,h.noL,h.noC⟩
theorem A7{m:Mp}{N:Addr->Prop}{h:Heap}:∀{l:List Int}{kvs:List (Int×Value)},y6 (fun (e:Int×V)(k:Int×Value)=>k.1=e.1/\yG c.X m N h e.2 k.2) (vL l) kvs->y6 (fun (i:Int)(k:Int×Value)=>k.1=i/\∃t,k.2=.int 1 t) l kvs
 | [],[],_=>trivial
 | _::_,_::_,a=>⟨⟨a.1.1,a.1.2⟩,A7 a.2⟩
def At.dead{g:Bool}(S:yW c.X)(h:At c ρ p)(e:p.σ.at g k=some ob)(ho:ob≠.dead)(hw:(∃l,ob=.list l/\x=.lst l)\/∃l,ob=.dI (vL l)/\x=.iset l):
  At c ρ ⟨p.m,p.σ.set .dead g k,p.s⟩/\yC no p ⟨p.m,p.σ.set .dead g k,p.s⟩/\∀u,y7 c p (.ref g k) u->y7 c ⟨p.m,p.σ.set .dead g k,p.s⟩ x u:=by
 refine wI (h.g.rep g k ob e) fun a em r=>?_;have U:=h.upd (s:=p.s) (ob:=.dead) (g:=g) (n:=k) e ho em ⟨rfl,fun z0 z0=>rfl⟩ (h.g.at_ g k a em).1 rfl rfl fun z0=>trivial;refine⟨U.1,U.2,fun u r'=>?_⟩;obtain⟨b,em',rfl⟩:=r';cases em.symm.trans em';have nn:¬NN c.Pv ⟨p.m,p.σ.set .dead g k,p.s⟩ a:=fun z=>z.elim (fun z=>uM z fun g' n ob' e1 z=>z.elim fun e2 nd=>by
  obtain⟨rfl,rfl⟩:=h.g.inj _ _ _ _ _ e1 em;cases dK.symm.trans ((e2:(p.σ.set .dead g' n).at g' n=some ob'));exact nd rfl) (h.g.at_ g k a em).2.2
 rcases hw with⟨l,rfl,rfl⟩ | ⟨l,rfl,rfl⟩
 ·refine qG fun ng=>?_;refine v4 (r) fun xs n zz=>?_;refine ng ?_;exact⟨xs,dH (zz.2.mono (fun z0 z0 z=>yG.step h.g U.2.w z:∀x v,c.V p x v->c.V ⟨p.m,p.σ.set .dead g k,p.s⟩ x v)),a,rfl,nn,n,zz.1⟩
 ·refine(r).elim fun kvs zz=>?_;exact⟨a,rfl,nn,zV.mpr fun y=>S.sys.elim fun o w=>gO (h.g.at_ g k a em).2.1 (y▸w),kvs,zz.1,A7 zz.2⟩
def q4B{t:Sem Value}{W:Kv->St->Prop}(S:yW c.X)(H:SE c ρ t W):SE c ρ t fun Q=>W (q51 Q):=fun p Q R h q k=>H p (q51 Q) R h q fun p1 v u h1 s1 r1 q1=>by
 refine(xY q1).elim fun hm q1=>?_;cases v with
 | ref g n =>
  refine(wY q1).elim fun l z=>z.elim fun e q1=>?_;refine XQ (h1.dead S e (fun z=>nomatch z) (.inl ⟨l,rfl,rfl⟩)) fun h2 s2 f=>?_;exact k ⟨p1.m,p1.σ.set .dead g n,p1.s⟩ (.lst l) u h2 (s1.trans s2.w) (f u r1) q1
 | _=>cases hm
def q06(S:yW c.X){x:String}{b:List Stmt}{bx:List Sx}(H:SX c (execs b c.env) (xA C bx)):SX c (execs b c.env) (xA C (.frz x::bx)):=fun ρ p Q R h q k=>by
 refine qG fun ng=>?_;refine wI (oR q) fun v e q=>?_;refine ng ?_;cases v with
 | ref g n=>cases g with
  | true=>exact False.elim q
  | false =>
   have q:q2W (jM p.σ.l n) fun w=>xA C bx (y5.set ρ x w) Q (p.σ.set .dead false n):=q;cases eo:jM p.σ.l n with
   | none=>rw[eo]at q; exact False.elim q
   | some ob=>rw[eo]at q; cases ob with
    | list l =>
     refine XQ (h.dead (g:=false) S eo (fun z=>nomatch z) (.inl ⟨l,rfl,rfl⟩)) fun h1 s1 f=>?_;exact H _ ⟨p.m,p.σ.set .dead false n,p.s⟩ Q R (h1.tell e f) q (k.on s1.w)
    | dI es =>
     refine qG fun ng=>?_;obtain⟨l,rfl,q⟩:=q;refine ng ?_;exact H _ ⟨p.m,p.σ.set .dead false n,p.s⟩ Q R ((h.dead (g:=false) S eo (fun z=>nomatch z) (.inr ⟨l,rfl,rfl⟩)).1.tell e (h.dead (g:=false) S eo (fun z=>nomatch z) (.inr ⟨l,rfl,rfl⟩)).2.2) q (k.on (h.dead (g:=false) S eo (fun z=>nomatch z) (.inr ⟨l,rfl,rfl⟩)).2.1.w)
    | _=>exact False.elim q
 | _=>exact False.elim q
end
noncomputable def Fx.keepI(c:Fx)(I:Addr):Fx:=⟨c.X,c.A,c.env,fun a=>c.Pv a\/a=I,c.own⟩
noncomputable def Fx.it(c:Fx)(I:Addr):Fx:=⟨c.X,c.A,c.env,fun a=>c.Pv a\/a=I,fun a=>c.own a\/a=I⟩
def vR(c:Fx)(p:Mt)(I:Addr)(i:Nat):V->Prop
 | .tup l=>∃t,p.s.heap.IsTupleIter I t i/\c.V p (.tup l) (.ref t)
 | .lst l=>∃t,p.s.heap.IsListIter I t i/\c.V p (.lst l) (.ref t)
 | .ref g n=>∃t,p.s.heap.IsListIter I t i/\p.m g n=some t
 | .rng lo n=>IsRangeIter p.s.heap I (lo+i) ((n:Int)-i) 1
 | _=>False
section
variable{c:Fx}{ρ ρ':y5}{p p':Mt}{C:yA}{x y z iv:V}{u v w:Value}{n:String}{a I:Addr}{ob:Ob}{Wr:List String}{Q:Kf}{i:Nat}{l:List V}{K:List V->Prop}
def At.keepI(h:At (c.it I) ρ p)(o:∀a,c.own a->c.Pv a):At (c.keepI I) ρ p:=⟨⟨h.g.base,h.g.rep,h.g.non,h.g.inj,h.g.at_,h.g.priv,fun a z=>.inl (o a z),h.g.gens,h.g.os⟩,h.e,h.ns,h.cells,h.noL,h.noC⟩
def At.itI(h:At (c.keepI I) ρ p):At (c.it I) ρ p:=⟨⟨h.g.base,h.g.rep,h.g.non,h.g.inj,h.g.at_,h.g.priv,fun a z=>z.elim (h.g.own a) .inr,h.g.gens,h.g.os⟩,h.e,h.ns,h.cells,h.noL,h.noC⟩
def yC.out(s:yC (c.it I).own p p')(f:p.s.heap.get? I=none):yC c.own p p':=⟨s.le,fun a o n n' e=>s.keep a o n (fun z=>z.elim n' fun z=>gO f (z▸e)) e,s.new,s.mnew,s.there⟩
def At.newI(h:At c ρ p){o:Obj}(ho:o.isFreed=false):At (c.it p.s.heap.objs.size) ρ ⟨p.m,p.σ,{p.s with heap:=p.s.heap.push o}⟩/\yC no p ⟨p.m,p.σ,{p.s with heap:=p.s.heap.push o}⟩/\∀x v,c.V p x v->(c.it p.s.heap.objs.size).V ⟨p.m,p.σ,{p.s with heap:=p.s.heap.push o}⟩ x v:=by
 have k:∀b q,p.s.heap.get? b=some q->(p.s.heap.push o).get? b=some q:=fun z0 z0 e=>zX _ e;have kv:∀x v,c.V p x v->(c.it p.s.heap.objs.size).V ⟨p.m,p.σ,{p.s with heap:=p.s.heap.push o}⟩ x v:=fun x v r=>yG.mono (m:=p.m) (m':=p.m) (fun z0 z0 e=>e) (fun a q n e=>⟨fun z=>z.elim (fun z=>n (.inl z)) fun z=>z.elim (fun z=>n (.inr z)) fun z=>gO (yI p.s.heap) (z▸e),k a q e⟩) r;have nI:c.X.H.get? p.s.heap.objs.size=none:=by
  cases e:c.X.H.get? p.s.heap.objs.size with
  | none=>rfl
  | some o=>exact nomatch (yI p.s.heap).symm.trans (h.g.base _ o e)
 refine⟨At.to (A':=c.A) h ⟨fun b q e=>k b q (h.g.base b q e),fun g n ob e=>(h.g.rep g n ob e).elim fun a q=>⟨a,q.1,wM.to (c:=c) (p:=p) (fun z0 z0 e=>e) kv (k a) q.2⟩,h.g.non,h.g.inj,fun g n a e=>⟨(h.g.at_ g n a e).1.elim fun q z=>⟨q,k _ _ z⟩,(h.g.at_ g n a e).2.1,fun z=>z.elim (h.g.at_ g n a e).2.2 fun z=>(h.g.at_ g n a e).1.elim fun q y=>gO (yI p.s.heap) (z▸y)⟩,
  fun a z=>z.elim (fun z=>⟨(h.g.priv a z).1,(h.g.priv a z).2.elim fun q y=>⟨q,k _ _ y⟩⟩) fun z=>by subst z; exact⟨nI,_,zY _ ho⟩,fun a z=>z.elim (fun z=>.inl (h.g.own a z)) .inr,h.g.gens,h.g.os⟩ (fun z0 z0 z0 e=>e) kv (fun o e=>k _ _ e) (fun x b z0 o e=>k _ _ e) (fun a z=>.inl z),((h.g.grow (s:={p.s with heap:=p.s.heap.push o}) k rfl rfl).2),kv⟩
def o6{x:Int}(h:-4611686018427387904<=x)(h':x<9223372036854775808):Builtin.Range.rangeFitsLong x=true:=zE.mpr ⟨zU (Int.le_trans (by decide) h),zU h'⟩
def X0{lo:Int}:∀n:Nat,Builtin.Range.rangeSize lo (lo+n) 1=(n:Int)
 | 0=>(if_pos (by decide)).trans (if_neg ((Int.add_zero lo).symm▸Int.lt_irrefl lo))
 | n+1=>(if_pos (by decide)).trans ((if_pos (Int.lt_add_of_pos_right lo (zI.mpr (Nat.succ_pos n)))).trans ((congrArg (·+1) ((Int.ediv_one _).trans (congrArg (·-1) ((congrArg (·-lo) (Int.add_comm ..)).trans (Int.add_sub_cancel ..))))).trans (Int.sub_add_cancel ..)))
def TM{lo:Int}{n:Nat}(h1:Z3 lo)(h2:Z3 (lo+n)):Builtin.Range.small lo (lo+n) 1=true/\Builtin.Range.rangeSize lo (lo+n) 1=(n:Int):=by
 refine⟨?_,X0 n⟩;have a:=o6 h2.1 (Int.lt_trans h2.2 (by decide:(4611686018427387904:Int)<9223372036854775808));unfold Builtin.Range.small;rw[X0,o6 h1.1 (Int.lt_trans h1.2 (by decide)),a,o6 (x:=n) (Int.le_trans (by decide) (zD n)) (Int.lt_of_add_lt_add_left (a:=lo) (Int.lt_of_lt_of_le h2.2 (Int.add_le_add_right h1.1 9223372036854775808))),if_pos (by decide),Int.sub_self,Int.add_zero,a];exact zE.mpr ⟨rfl,Bool.or_true _⟩
def XO(σ:St)(iv:V)(l:List V):Prop:=match iv with
 | .rng lo n=>l=(List.range n).map fun (i:Nat)=>.int (lo+i)
 | .tup l'=>l=l'
 | .lst l'=>l=l'
 | .ref g n=>σ.at g n=some (.list l)
 | _=>False
def N4{σ:St}(h:pA σ iv K):∃l,XO σ iv l/\K l:=by
 cases iv with
 | rng lo n=>exact⟨_,rfl,h⟩
 | tup l=>exact⟨_,rfl,h⟩
 | lst l=>exact⟨_,rfl,h⟩
 | ref g n=>exact(wY (o:=σ.at g n) h).elim fun l z=>⟨l,z.1,z.2⟩
 | _=>exact False.elim h
end
section
variable{c:Fx}{ρ ρ' ρ0:y5}{p p' p0:Mt}{C:yA}{x y z iv:V}{u v w:Value}{n:String}{a I:Addr}{ob:Ob}{Wr:List String}{Q:Kf}{i:Nat}{l:List V}{K:List V->Prop}
def oL{R:Value->Shared->Prop}(h:At c ρ p)(sq:XO p.σ iv l)(r:y7 c p iv u)(k:∀I p',At (c.it I) ρ p'->yC no p p'->p'.σ=p.σ->p.s.heap.get? I=none->vR (c.it I) p' I 0 iv->R (.ref I) p'.s):wA c (pyIter u) R p.s:=by
 cases iv with
 | tup l' =>
  refine qG fun ng=>?_;obtain⟨xs,a,rfl,_,t,_⟩:=r.tup;refine ng ?_;exact wpAny_pyIter_tuple t (k _ ⟨p.m,p.σ,_⟩ ((fun o ho=>h.newI (o:=o) ho) _ rfl).1 ((fun o ho=>h.newI (o:=o) ho) _ rfl).2.1 rfl (yI _) ⟨a,⟨_,zY _ rfl,rfl,rfl⟩,((fun o ho=>h.newI (o:=o) ho) _ rfl).2.2 (.tup l') _ r⟩)
 | lst l' =>
  obtain⟨xs,a,n,rfl,_,t,_⟩:=r.lst;exact wpAny_pyIter_list (il t) (k _ ⟨p.m,p.σ,_⟩ ((fun o ho=>h.newI (o:=o) ho) _ rfl).1 ((fun o ho=>h.newI (o:=o) ho) _ rfl).2.1 rfl (yI _) ⟨a,⟨_,zY _ rfl,rfl,rfl⟩,((fun o ho=>h.newI (o:=o) ho) _ rfl).2.2 (.lst l') _ r⟩)
 | ref g n =>
  obtain⟨a,em,rfl⟩:=r;obtain⟨b,em',xs,n',t,rr⟩:=h.g.rep g n _ sq;cases em.symm.trans em';exact wpAny_pyIter_list (il t) (k _ ⟨p.m,p.σ,_⟩ ((fun o ho=>h.newI (o:=o) ho) _ rfl).1 ((fun o ho=>h.newI (o:=o) ho) _ rfl).2.1 rfl (yI _) ⟨a,⟨_,zY _ rfl,rfl,rfl⟩,em⟩)
 | rng lo n =>
  refine qG fun ng=>?_;obtain⟨a,rfl,_,⟨s1,s2⟩,t,t',t2,hr⟩:=r;refine(TM s1 s2).elim fun q1 q2=>?_;refine ng ?_;refine wpAny_pyIter_range hr q1 (k _ ⟨p.m,p.σ,_⟩ ((fun o ho=>h.newI (o:=o) ho) _ rfl).1 ((fun o ho=>h.newI (o:=o) ho) _ rfl).2.1 rfl (yI _) ?_);show IsRangeIter _ _ _ _ _;rw[q2];unfold IsRangeIter;rw[zY _ rfl,Int.natCast_zero,Int.sub_zero,Int.add_zero]
 | _=>exact False.elim sq
set_option genCtorIdx false in
structure UI (c:Fx) (I:Addr):Prop where
 loc:c.env.locals≠I
 cel:∀x b,c.env.cells.lookup x=some b->b≠I
 pv:¬c.Pv I
 own:∀a,c.own a->c.Pv a
def At.apart(h0:At c ρ0 p0)(f0:p0.s.heap.get? I=none):UI c I :=
 ⟨fun e=>h0.ns.elim fun m n=>(kT n.1).elim fun o q=>gO f0 (e▸q),fun x b e y=>(h0.noC x b e).2.elim fun v q=>q.elim fun o q=>gO f0 (y▸q.1),fun z=>(h0.g.priv I z).2.elim fun o q=>gO f0 q,h0.g.own⟩
def At.touch(h:At c ρ p)(pa:c.own a)(nl:c.env.locals≠a)(nc:∀x b,c.env.cells.lookup x=some b->b≠a){h':Heap}{t:Nat}(sb:Heap.SameBut a p.s.heap h')(e:∃o,h'.get? a=some o):At c ρ (p.heap h' t)/\yC (fun b=>b=a) p (p.heap h' t)/\∀x v,c.V p x v->c.V (p.heap h' t) x v:=by
 exact⟨At.to (p':=p.heap h' t) (A':=c.A) (Pv':=c.Pv) (own':=c.own) h (h.g.priv1 (t:=t) (h.g.own _ pa) sb e).1 (fun z0 z0 z0 e=>e) ((fun z0 z0 r=>yG.step h.g ((h.g.priv1 (t:=t) (h.g.own _ pa) sb e).2.one pa) r:∀x v,c.V p x v->c.V (p.heap h' t) x v)) (fun o e=>(sb.2 _ nl).trans e) (fun x b eb o e=>(sb.2 _ (nc x b eb)).trans e) fun a z=>.inl z,(h.g.priv1 (t:=t) (h.g.own _ pa) sb e).2,((fun z0 z0 r=>yG.step h.g ((h.g.priv1 (t:=t) (h.g.own _ pa) sb e).2.one pa) r:∀x v,c.V p x v->c.V (p.heap h' t) x v))⟩
def At.endI(N:UI c I)(h:At (c.it I) ρ p){h':Heap}{t:Nat}(e:Heap.ExtBut I p.s.heap h'):At c ρ (p.heap h' t)/\(∀p0,p0.s.heap.get? I=none->yC (c.it I).own p0 p->yC c.own p0 (p.heap h' t))/\∀x v,(c.it I).V p x v->c.V (p.heap h' t) x v:=by
 have kv:∀x v,(c.it I).V p x v->c.V (p.heap h' t) x v:=fun x v r=>yG.mono (m:=p.m) (m':=p.m) (fun z0 z0 e=>e) (fun a o n q=>⟨fun z=>n (z.elim .inl fun z=>.inr (.inl z)),e a o (fun y=>n (.inr (.inr y))) q⟩) r;have G:yJ c (p.heap h' t):=by
  refine⟨fun b o q=>e b o (fun y=>?_) (h.g.base b o q),fun g n ob q=>(h.g.rep g n ob q).elim fun a z=>⟨a,z.1,wM.to (c:=c.it I) (p:=p) (p':=p.heap h' t) (A':=c.A) (env':=c.env) (Pv':=c.Pv) (own':=c.own) (fun z0 z0 e=>e) kv (fun o q=>e a o (fun y=>(h.g.at_ g n a z.1).2.2 (.inr y)) q) z.2⟩,h.g.non,h.g.inj,
   fun g n a q=>⟨(h.g.at_ g n a q).1.elim fun o z=>⟨o,e a o (fun y=>(h.g.at_ g n a q).2.2 (.inr y)) z⟩,(h.g.at_ g n a q).2.1,fun z=>(h.g.at_ g n a q).2.2 (.inl z)⟩,
   fun a z=>⟨(h.g.priv a (.inl z)).1,(h.g.priv a (.inl z)).2.elim fun o q=>⟨o,e a o (fun y=>N.pv (y▸z)) q⟩⟩,N.own,h.g.gens,h.g.os⟩
  exact gO (h.g.priv I (.inr rfl)).1 (y▸q)
 refine⟨At.to (c:=c.it I) (A':=c.A) (Pv':=c.Pv) (own':=c.own) h G (fun z0 z0 z0 e=>e) kv (fun o q=>e _ o N.loc q) (fun x b eb o q=>e b o (N.cel x b eb) q) fun a z=>.inl z,fun p0 f0 s0=>⟨s0.le,fun a o n n' q=>?_,s0.new,s0.mnew,fun a o q=>?_⟩,kv⟩
 ·exact e a o (fun y=>gO f0 (y▸q)) (s0.keep a o n (fun z=>z.elim n' fun y=>gO f0 (y▸q)) q)
 ·exact(s0.there a o q).elim fun o' z=>⟨o',e a o' (fun y=>gO f0 (y▸q)) z⟩
end
section
variable{c:Fx}{ρ ρ' ρ0:y5}{p p' p0:Mt}{C:yA}{x y z iv:V}{u v w:Value}{n:String}{a I:Addr}{ob:Ob}{Wr:List String}{Q:Kf}{i:Nat}{l:List V}{K:List V->Prop}
def ZZ{T:V->Value->Prop}{l:List V}{xs:List Value}(r:y6 T l xs)(h:l[i]?=none):xs.toArray[i]?=none:=by
 rw[List.getElem?_toArray];exact List.getElem?_eq_none (r.length▸List.getElem?_eq_none_iff.mp h)
def Y0{T:V->Value->Prop}{l:List V}{xs:List Value}(r:y6 T l xs)(h:l[i]?=some x):∃u,xs.toArray[i]?=some u/\T x u:=by
 rw[List.getElem?_toArray];exact r.get h
def c9(hr:c.A.handled=none)(N:UI c I)(h:At (c.it I) ρ p)(sq:XO p.σ iv l)(it:vR (c.it I) p I i iv){R:Option Value->Shared->Prop}
  (k1:∀x u p',l[i]?=some x->At (c.it I) ρ p'->yC (fun b=>b=I) p p'->p'.σ=p.σ->(c.it I).V p' x u->vR (c.it I) p' I (i+1) iv->R (some u) p'.s)
  (k2:l[i]?=none->∀h':Heap,Heap.ExtBut I p.s.heap h'->R none {p.s with heap:=h'}):wA c (pyNext (.ref I)) R p.s:=by
 have lst:∀(t:Addr)(xs:List Value)(n:Nat),p.s.heap.IsListIter I t i->p.s.heap.get? t=some (seqObj "list" xs.toArray n)->y6 ((c.it I).V p) l xs ->
   (∀p',p'.m=p.m->yC (c.it I).own p p'->p'.s.heap.IsListIter I t (i+1)->vR (c.it I) p' I (i+1) iv)->wA c (pyNext (.ref I)) R p.s:=fun t xs n hi ht rr f=>by
  refine qG fun ng=>?_;cases hx:l[i]? with
  | some x =>
   refine ng ?_;refine qG fun ng=>?_;obtain⟨u,hu,ru⟩:=Y0 rr hx;refine ng ?_;refine wpAny_pyNext_list_item hi (il ht) hu fun h' hi' sb=>?_;have T:=h.touch (t:=p.s.toks) (.inr rfl) N.loc N.cel sb (hi'.elim fun o z=>⟨o,z.1⟩);exact k1 x u (p.heap h' p.s.toks) hx T.1 T.2.1 rfl (T.2.2 _ _ ru) (f _ rfl (T.2.1.one (.inr rfl)) hi')
  | none=>exact ng (wpAny_pyNext_list_end hr hi (il ht) (ZZ rr hx) fun h' e=>k2 hx h' e)
 cases iv with
 | tup l' =>
  cases sq;obtain⟨t,hi,r⟩:=it;obtain⟨xs,a,ea,_,ht,rr⟩:=y7.tup (c:=c.it I) r;cases ea;refine qG fun ng=>?_;cases hx:l[i]? with
  | some x =>
   refine ng ?_;refine qG fun ng=>?_;obtain⟨u,hu,ru⟩:=Y0 rr hx;refine ng ?_;refine wpAny_pyNext_tuple_item hi ht hu fun h' hi' sb=>?_;have T:=h.touch (t:=p.s.toks) (.inr rfl) N.loc N.cel sb (hi'.elim fun o z=>⟨o,z.1⟩);exact k1 x u (p.heap h' p.s.toks) hx T.1 T.2.1 rfl (T.2.2 _ _ ru) ⟨t,hi',T.2.2 (.tup l) _ r⟩
  | none=>exact ng (wpAny_pyNext_tuple_end hr hi ht (ZZ rr hx) fun h' e=>k2 hx h' e)
 | lst l' =>
  cases sq;obtain⟨t,hi,r⟩:=it;obtain⟨xs,a,n,ea,_,ht,rr⟩:=y7.lst (c:=c.it I) r;cases ea;exact lst t xs n hi ht rr fun p' em s z=>⟨t,z,yG.step h.g s r⟩
 | ref g n =>
  refine wI (it) fun t hi em=>?_;obtain⟨b,em',xs,n',ht,rr⟩:=h.g.rep g n _ sq;cases em.symm.trans em';exact lst t xs n' hi ht rr fun p' e s z=>⟨t,z,e▸em⟩
 | rng lo n =>
  cases sq;have it':IsRangeIter p.s.heap I (lo+i) ((n:Int)-i) 1:=it
  by_cases hx:i<n
  ·refine wpAny_pyNext_range_item it' (Int.sub_pos_of_lt (zI.mpr hx)) fun h' hi' sb=>?_;have T:=h.touch (t:=p.s.toks+1) (.inr rfl) N.loc N.cel sb ⟨_,hi'⟩;refine k1 (.int (lo+i)) _ (p.heap h' (p.s.toks+1)) (by rw[List.getElem?_map,List.getElem?_range hx]; rfl) T.1 T.2.1 rfl ⟨_,rfl⟩ ?_;show IsRangeIter _ _ _ _ _;have e1:lo+i+1=lo+(i+1:Nat):=Int.add_assoc ..;have e2:((n:Int)-i-1)=(n:Int)-(i+1:Nat):=Int.sub_sub ..;rw[<-e1,<-e2];exact hi'
  ·exact wpAny_pyNext_range_end hr it' (Int.sub_nonpos_of_le (Int.ofNat_le.mpr (Nat.le_of_not_lt hx))) fun h' e=>k2 (by rw[List.getElem?_map,List.getElem?_eq_none (by rw[List.length_range]; exact Nat.le_of_not_lt hx)]; rfl) h' e
 | _=>exact False.elim sq
end
section
set_option backward.match.sparseCases true
noncomputable def Fx.ar(c:Fx)(A:Around):Fx:=⟨c.X,A,c.env,c.Pv,c.own⟩
section
variable{c:Fx}{ρ:y5}{p p0:Mt}{C:yA}{x iv:V}{u:Value}{I:Addr}{Q:Kv}{R:Value->Shared->Prop}{l:List V}
def At.ar(A:Around)(h:At c ρ p):At (c.ar A) ρ p:=⟨⟨h.g.base,h.g.rep,h.g.non,h.g.inj,h.g.at_,h.g.priv,h.g.own,h.g.gens,h.g.os⟩,h.e,h.ns,h.cells,h.noL,h.noC⟩
def N6{σ:St}(h:obj σ x=some (.list l)):XO σ x l:=by
 cases x with
 | lst l=>cases h; rfl
 | ref g n=>exact h
 | _=>cases h
def GT(hA:c.A.handled=none)(N:UI c I)(sq:XO p0.σ iv l)(ht:l.all WP=true)(fI:p0.s.heap.get? I=none)(k:∀p,At c ρ p->yC c.own p0 p->p.σ=p0.σ->R (.bool false) p.s):
  ∀(n i:Nat)(p:Mt),l.length-i=n->At (c.it I) ρ p->yC (c.it I).own p0 p->p.σ=p0.σ->vR (c.it I) p I i iv->codeAny (model c.X.prog c.X.w) c.A (.builtin "any.loop" ⟨[.ref I],[]⟩) (fun r s'=>match r with | .ok (.ret v)=>R v s' | .ok _=>False | .error e=>False) p.s:=by
 intro n
 induction n with
 | zero =>
  intro i p hn h st eσ it;refine codeAny_builtin F.entry_any_loop ?_;rw[Around.under_plainId F.plain_any_loop _];refine wpAny_bind (c9 (c:=c.ar c.A.in1) ((hA:(c.ar c.A.in1).A.handled=none)) ⟨N.loc,N.cel,N.pv,N.own⟩ (h.ar c.A.in1) (eσ.symm▸sq) it (fun x u p' hx=>?_) fun hx h' e=>?_)
  ·exact nomatch (List.getElem?_eq_none (Nat.le_of_sub_eq_zero hn)).symm.trans hx
  ·exact wpAny_bind (wpAny_rule (wpAny_pure (k _ (At.endI (t:=p.s.toks) N h e).1 ((At.endI (t:=p.s.toks) N h e).2.1 p0 fI st) eσ)))
 | succ n ih =>
  intro i p hn h st eσ it;refine codeAny_builtin F.entry_any_loop ?_;rw[Around.under_plainId F.plain_any_loop _];refine wpAny_bind (c9 (c:=c.ar c.A.in1) ((hA:(c.ar c.A.in1).A.handled=none)) ⟨N.loc,N.cel,N.pv,N.own⟩ (h.ar c.A.in1) (eσ.symm▸sq) it (fun x u p' hx h1 s1 e1 r1 it1=>?_) fun hx h' e=>?_)
  ·have hx:=z6.mp ht x (List.mem_of_getElem? hx);cases x with
   | tup l'=>cases l' with
    | nil =>
     obtain⟨xs,a,rfl,_,t,rr⟩:=y7.tup (c:=c.it I) r1;cases (List.eq_nil_of_length_eq_zero rr.length.symm:xs=[]);refine wpAny_bind (wpAny_holding (truthy_tuple t (by decide) (wpAny_bind (wpAny_letGo ?_))));exact wpAny_pure ⟨plainId_quiet F.plain_any_loop _,ih (i+1) (p'.tok (p'.s.toks+1+1)) (congrArg Nat.pred hn) (((h1.ar c.A:At (c.it I) ρ p')).tok (t:=p'.s.toks+1+1)) ((st.trans (s1.one (.inr rfl))).trans .tok) (e1.trans eσ) it1⟩
    | cons _ _=>exact ff hx
   | _=>exact ff hx
  ·exact absurd (List.getElem?_eq_none_iff.mp hx) (fun z=>by rw[Nat.sub_eq_zero_of_le z]at hn; cases hn)
def S8(S:yW c.X)(hr:wX c.A)(h:At c ρ p)(q:xK (obj p.σ x) fun l=>ck (l.all WP) (Q (.bool false) p.σ))(r:y7 c p x u)(k:Go c ρ p Q R):wA c (call (.builtin "any") [u]) R p.s:=by
 refine qG fun ng=>?_;refine wI (wY q) fun l e q=>?_;refine ng ?_;refine call_function_tree F.kind_any F.plain_any F.entry_any (F.args_any1 _) ?_;refine wpAny_bind (m:=oneArg "any" _) (wpAny_pure (wpAny_bind (oL (c:=c.ar c.A.in1) (h.ar _) (N6 e) r fun I p' h' s' e' f it=>?_)));exact wpAny_pure ⟨plainId_quiet F.plain_any_loop _,GT (p0:=p) hr.1 (h.apart f) (N6 e) (bY q) f (fun p'' h'' s'' e''=>k p'' (.bool false) _ h'' s'' rfl (e''.symm▸vF q)) _ 0 p' rfl (h'.ar c.A) s'.w e' it⟩
def OJ(S:yW c.X)(hr:wX c.A){e:Expr}{ex:Ex}{pp pos:Pos}(he:yQ e=true)(Hf:SE c ρ (eval (.Name (tx "any") pp) c.env) (we C (.g "any" (.blt "any")) ρ)) (He:SE c ρ (eval e c.env) (we C ex ρ)) :
  SE c ρ (eval (.Call (.Name (tx "any") pp) [e] [] pos) c.env) (we C (.b1 .any ex) ρ):=fun p Q R h q k =>
 pO (by show(yQ e&&true)=true; rw[he]; rfl) Hf h (P:=we C ex ρ (q4Z .any Q)) q fun p1 h1 s1 q1=>J1 he (He p1 _ _ h1 q1 fun p2 x u h2 s2 r2 q2=>⟨⟨.machine,.inr (.inl rfl),Looks.of_pure rfl⟩,S8 S hr h2 q2 r2 (k.on (s1.trans s2))⟩)
end
end
section
set_option tactic.hygienic true
set_option backward.match.sparseCases true
section
variable{c:Fx}{ρ ρ' ρ0:y5}{p p' p0:Mt}{C:yA}{x y z iv:V}{u v w:Value}{n:String}{a I:Addr}{ob:Ob}{Wr:List String}{Q:Kf}{i:Nat}{l:List V}{K:List V->Prop}
def wA.any{α:Type}{t:Sem α}{R:α->Shared->Prop}{E:Value->Shared->Prop}{s:Shared}(h:wA c t R s):wpAny (model c.X.prog c.X.w) c.A t R E s:=wpAny_mono h (fun z0 z0 z=>z) fun z0 z0 z=>z.elim
def vR.obj(it:vR c p I i iv):∃o,p.s.heap.get? I=some o/\∃T∈["tuple_iterator","list_iterator","range_iterator"],o.cls=.type T:=by
 cases iv with
 | tup l=>exact it.elim fun t z=>z.1.elim fun o z=>⟨o,z.1,_,.head _,z.2.1⟩
 | lst l=>exact it.elim fun t z=>z.1.elim fun o z=>⟨o,z.1,_,.tail _ (.head _),z.2.1⟩
 | ref g n=>exact it.elim fun t z=>z.1.elim fun o z=>⟨o,z.1,_,.tail _ (.head _),z.2.1⟩
 | rng lo n=>exact⟨_,it,_,.tail _ (.tail _ (.head _)),rfl⟩
 | _=>exact False.elim it
def J2{M:Model}{A:Around}{E:Value->Shared->Prop}{qD:Expr}{Q:Unit->Shared->Prop}(it:vR c p I i iv)(q:Q () p.s):wpAny M A (letOwnedTupleGo qD (.ref I) v) Q E p.s:=by
 obtain⟨o,ho,T,hT,hc⟩:=it.obj;have key:wpAny M A (do
  let (.ref r,.ref a):=((.ref I:Value),v) | return
  let o <-load r
  match o.cls,o.data with
  | .type n,.fields vs =>
   if ["enumerate","zip","dict_itemiterator","dict_reverseitemiterator","odict_iterator","itertools.zip_longest","itertools.pairwise"].contains n&&vs[0]?==some (rawInt a)then
    rule "for.unpacks-the-owned-tuple"
    updateField r 0 .none
  | _,_=>pure ()) Q E p.s:=by
  cases v <;> try exact wpAny_pure q
  rename_i a
  refine wpAny_bind (wpAny_load ho ?_);rw[hc];cases o.data <;> try exact wpAny_pure q
  dsimp only;rw[if_neg (by
   simp only[qV,qW,or_false]at hT;rcases hT with rfl | rfl | rfl <;> simp)]
  exact wpAny_pure q
 cases qD <;> first | exact wpAny_pure q | exact key
def CI{σ σ':St}(hm:gY iv=false)(h:XO σ iv l):XO σ' iv l:=by
 cases iv <;> first | exact h | cases hm
def tW(h:l[i]?=some x):l.drop i=x::l.drop (i+1)/\i<l.length:=by
 refine(List.getElem?_eq_some_iff.mp h).elim fun hi e=>?_;exact⟨e▸List.drop_eq_getElem_cons hi,hi⟩
def y7.outI(r:y7 (c.it I) p x v):y7 c p x v:=y7.to (c:=c.it I) (fun z0 z0 z0 e=>e) (fun x v r=>yG.mono (m:=p.m) (m':=p.m) (fun z0 z0 e=>e) (fun a o n e=>⟨fun z=>n (z.elim .inl fun z=>.inr (.inl z)),e⟩) r) r
def vR.step(h:At (c.it I) ρ p)(nI:¬c.own I)(s:yC c.own p p')(it:vR (c.it I) p I i iv):vR (c.it I) p' I i iv:=by
 have k:∀o,p.s.heap.get? I=some o->p'.s.heap.get? I=some o:=fun o e=>s.keep I o (fun z=>uM z fun g n z0 z z0=>(h.g.at_ g n I z).2.2 (.inr rfl)) nI e;cases iv with
 | tup l=>exact it.elim fun t z=>⟨t,z.1.elim fun o z=>⟨o,k o z.1,z.2⟩,yG.step h.g ((s.wk fun z0=>.inl:yC (c.it I).own p p')) z.2⟩
 | lst l=>exact it.elim fun t z=>⟨t,z.1.elim fun o z=>⟨o,k o z.1,z.2⟩,yG.step h.g ((s.wk fun z0=>.inl:yC (c.it I).own p p')) z.2⟩
 | ref g n=>exact it.elim fun t z=>⟨t,z.1.elim fun o z=>⟨o,k o z.1,z.2⟩,s.le _ _ _ z.2⟩
 | rng lo n=>exact k _ it
 | _=>exact False.elim it
def q05(hr:wX c.A){x:String}{pp pos:Pos}{it:Expr}{b:List Stmt}{ie:Ex}{bx:List Sx}(W:rV c Wr)(hx:wH c.env Wr x)(hs:∀x,foldedSetIterable it c.env x=pure x)
  (Hi:∀ρ,SE c ρ (eval it c.env) (we C ie ρ)) (Hb:∀I,SX (c.keepI I) (execs b c.env) (xA C bx)) :
  SX c (exec (.For (.Name (tx x) pp) it b [] pos) c.env) (ws C (.for_ (.nm x) ie bx)):=fun ρ p Q R h q k =>
 wpAny_For (Hi ρ p _ _ h q fun p1 iv u h1 s1 r1 q1=>by
  refine qG fun ng=>?_;refine(xY q1).elim fun hm q1=>?_;have hm:gY iv=false:=by cases z:gY iv with
   | true=>rw[z]at hm; cases hm
   | false=>rfl
  refine wI (N4 q1) fun l sq q1=>?_;refine ng ?_;refine oL h1 sq r1 fun I p2 h2 s2 e2 f0 it2=>?_;have nI:=h1.apart f0;refine codeAny_forLoop_any (fun n s=>∃i ρ p',s=p'.s/\n=l.length-i/\At (c.it I) ρ p'/\yC (c.it I).own p1 p'/\vR (c.it I) p' I i iv/\r9 (.nm x) (xA C bx) Q (l.drop i) ρ p'.σ) ?_ l.length ⟨0,ρ,p2,rfl,rfl,h2,s2.w,it2,by rw[e2]; exact q1⟩
  rintro n s ⟨i,ρ3,p3,rfl,rfl,h3,s3,q39,q3⟩
  refine wA.any (c9 hr.1 nI h3 (CI hm sq) q39 (fun y u p4 hy h4 s4 e4 ru it4=>?_) fun hy h' he=>?_)
  ·rw[(tW hy).1]at q3;refine J2 it4 (PyProof.Rows.assign_Name (wA.any (kX (c:=c.keepI I) ⟨W.privL,W.wr,W.apart,W.neL⟩ (h4.keepI h1.g.own) hx ru.tt fun p5 h5 s5 e5=>?_)));refine wA.any (c:=c) (Hb I _ p5 _ _ h5 ((e5)▸((e4)▸q3)) fun ρ6 p6 fl f h6 s6 r6 q6=>?_);have st:=(s3.trans (s4.one (.inr rfl))).trans ((s5.trans s6).wk fun z0=>.inl);have uC:r9 (.nm x) (xA C bx) Q (l.drop (i+1)) ρ6 p6.σ->∃m,m<l.length-i/\∃i ρ p',p6.s=p'.s/\m=l.length-i/\At (c.it I) ρ p'/\yC (c.it I).own p1 p'/\vR (c.it I) p' I i iv/\r9 (.nm x) (xA C bx) Q (l.drop i) ρ p'.σ:=fun q =>
    ⟨l.length-(i+1),Nat.sub_lt_sub_left (tW hy).2 (Nat.lt_succ_self i),i+1,ρ6,p6,rfl,rfl,h6.itI,st,(it4.step h4 ((fun z=>nI.pv (h1.g.own I z):¬c.own I)) (s5.trans s6)),q⟩
   cases fl with
   | next=>cases r6; exact uC q6
   | cont=>cases r6; exact uC q6
   | ret v=>obtain⟨u,rfl,r6⟩:=r6; exact((fun fl f r q=>k ρ6 p6 fl f (At.endI nI h6.itI (h':=p6.s.heap) (t:=p6.s.toks) fun z0 z0 z0 e=>e).1 (s1.trans ((At.endI nI h6.itI (h':=p6.s.heap) (t:=p6.s.toks) fun z0 z0 z0 e=>e).2.1 p1 f0 st)) r q:∀fl f,q5A c p6 fl f->Q fl ρ6 p6.σ->R f p6.s)) (.ret v) _ ⟨u,rfl,y7.outI r6⟩ q6
  ·rw[List.drop_eq_nil_of_le (List.getElem?_eq_none_iff.mp hy)]at q3;exact wpAny_execs_nil (k ρ3 (p3.heap h' p3.s.toks) .next .next (At.endI nI h3 (t:=p3.s.toks) he).1 (s1.trans ((At.endI nI h3 (t:=p3.s.toks) he).2.1 p1 f0 s3)) rfl q3)) hs
end
end
section
variable{c:Fx}{ρ:y5}{p:Mt}{C:yA}
def q09{t:Expr}{te:Ex}{b:List Stmt}{bx:List Sx}{pos:Pos}(Ht:∀ρ,ST c ρ (isTrue t c.env (eval t c.env)) (wt C te ρ))(Hb:SX c (execs b c.env) (xA C bx)):
  SX c (exec (.While t b [] pos) c.env) (ws C (.whl te bx)):=fun ρ p Q R h q k=>by
 refine wpAny_While (codeAny_whileLoop (fun n s=>∃ρ p',s=p'.s/\At c ρ p'/\yC c.own p p'/\G8 (wt C te) (xA C bx) Q n ρ p'.σ) ?_ 10000 ⟨ρ,p,rfl,h,.refl,q⟩)
 rintro n s1 ⟨ρ1,p1,rfl,h1,s1,hI⟩
 cases n with
 | zero=>exact hI.elim
 | succ n =>
 refine wA.any (Ht ρ1 p1 _ _ h1 hI fun p2 v h2 s2 q2=>?_);cases v with
 | true =>
  rw[if_pos rfl];refine wA.any (Hb ρ1 p2 _ _ h2 q2 fun ρ3 p3 fl f h3 s3 r3 q3=>?_);cases fl with
  | next=>cases r3; exact⟨n,Nat.lt_succ_self n,ρ3,p3,rfl,h3,((s1.trans s2).trans s3),q3⟩
  | cont=>cases r3; exact⟨n,Nat.lt_succ_self n,ρ3,p3,rfl,h3,((s1.trans s2).trans s3),q3⟩
  | ret v=>obtain⟨u,rfl,r3⟩:=r3; exact k ρ3 p3 (.ret v) _ h3 ((s1.trans s2).trans s3) ⟨u,rfl,r3⟩ q3
 | false =>
  rw[if_neg (by decide)];exact wpAny_execs_nil (k ρ1 p2 .next .next h2 (s1.trans s2) rfl q2)
end
section
variable{env:Env}{s:Shared}{A:Around}
def xI{α:Type}{M:Model}{t:Sem α}{Q Q':α->Shared->Prop}(h:wpAny M A t Q (fun z0 z0=>False) s)(k:∀a s',Q a s'->Q' a s'){E:Value->Shared->Prop}:wpAny M A t Q' E s :=
 wpAny_mono h k fun z0 z0 h=>h.elim
theorem mN(f:PySem.Str×NameKind->List (PySem.Str×Addr)->Sem (ForInStep (List (PySem.Str×Addr))))
  (hf:∀n k cs,f (n,k) cs=if (k==NameKind.free)=true then(do let a <-cellOf env n; pure (.yield ((n,a)::cs)))else pure (.yield cs)) :
  ∀(names:List (PySem.Str×NameKind))(acc:List (PySem.Str×Addr)),(∀y c,acc.lookup y=some c->env.cells.lookup y=some c)->(∀x∈names,x.2=.free->∃c,env.cells.lookup x.1=some c) ->
   ∃cl,forIn names acc f=pure cl/\(∀y c,cl.lookup y=some c->env.cells.lookup y=some c)/\(∀y,(y,NameKind.free)∈names->∃c,cl.lookup y=some c)/\∀y c,acc.lookup y=some c->∃c,cl.lookup y=some c
 | [],acc,h1,_=>⟨acc,by rw[List.forIn_nil],h1,fun y m=>(by cases m),fun y c e=>⟨c,e⟩⟩
 | (n,k)::r,acc,h1,h2=>by
  rw[List.forIn_cons,hf]
  by_cases hk:k=.free
  ·subst hk;obtain⟨c,hc⟩:=h2 (n,.free) (by simp) rfl;have e:cellOf env n=pure c:=by unfold cellOf; rw[hc]
   obtain⟨cl,a1,a2,a3,a4⟩:=mN f hf r ((n,c)::acc) (fun y d e=>by
    rw[List.lookup_cons]at e
    by_cases z:y=n
    ·subst z; simp only[beq_self_eq_true]at e; cases e; exact hc
    ·rw[zV.mpr z]at e; exact h1 y d e) (fun x hx=>h2 x (List.mem_cons_of_mem _ hx))
   have here:∃d,cl.lookup n=some d:=a4 n c (by simp);refine⟨cl,by simp only[beq_self_eq_true,if_true,e,pure_bind]; exact a1,a2,fun y m=>?_,fun y d e=>?_⟩
   ·refine(qV.mp m).elim (fun z=>?_) fun z=>?_
    ·cases z; exact here
    ·exact a3 y z
   ·by_cases z:y=n
    ·subst z; exact here
    ·exact a4 y d (by rw[List.lookup_cons,zV.mpr z]; exact e)
  ·refine qG fun ng=>?_;refine XN (mN f hf r acc h1 (fun x hx=>h2 x (List.mem_cons_of_mem _ hx))) fun cl a1 a2 a3 a4=>?_;refine ng ?_;refine⟨cl,by simp only[((zV.mpr hk:(k==NameKind.free)=false)),Bool.false_eq_true,if_false,pure_bind]; exact a1,a2,fun y m=>?_,a4⟩;refine(qV.mp m).elim (fun z=>?_) fun z=>?_
   ·cases z; exact absurd rfl hk
   ·exact a3 y z
def W0{scope:Scope}(h:∀x∈scope.names,x.2=.free->∃c,env.cells.lookup x.1=some c):
  ∃cl,closureFor scope env=pure cl/\(∀y c,cl.lookup y=some c->env.cells.lookup y=some c)/\∀y,(y,NameKind.free)∈scope.names->∃c,cl.lookup y=some c:=by
 refine qG fun ng=>?_;refine XN (mN (env:=env) (fun x cs=>if (x.2==NameKind.free)=true then(do let a <-cellOf env x.1; pure (.yield ((x.1,a)::cs)))else pure (.yield cs)) (fun n k cs=>rfl) scope.names [] (fun y c e=>by simp at e) h) fun cl a1 a2 a3 z0=>?_;refine ng ?_;refine⟨cl,?_,a2,a3⟩;have e:closureFor scope env=(forIn scope.names ([]:List (PySem.Str×Addr)) (fun x cs=>if (x.2==NameKind.free)=true then(do let a <-cellOf env x.1; pure (.yield ((x.1,a)::cs)))else pure (.yield cs)) >>= fun cs=>pure cs):=rfl;rw[e,a1,pure_bind]
noncomputable def q0T:Tg->List String
 | .nm x=>[x]
 | .tp xs=>xs
def CZ(tg:Tg)(t:Expr):Prop:=match tg with
 | .nm x=>∃p,t=.Name (tx x) p
 | .tp xs=>∃es k p,q0O es xs/\t=.Tuple es k p
set_option genCtorIdx false in
structure k5 (env:Env) (scope:Scope) (tg:Tg):Prop where
 kind:scope.kind=.function
 nocell:∀y∈scope.names,y.2≠.cell
 names:∀y∈scope.names,y.2=.local->scope.names.lookup y.1=some .local
 tgt:∀x∈q0T tg,scope.names.lookup (tx x)=some .local
 loc:∀x:String,scope.names.lookup (tx x)=some .local->x=".0"\/x∈q0T tg
 free:∀y∈scope.names,y.2=.free->env.kindOf y.1=some .cell\/env.kindOf y.1=some .free
theorem lV{α:Type}{f:PySem.Str->α->α}:∀(l:List (PySem.Str×α))(y:PySem.Str),(l.map fun p=>(p.1,f p.1 p.2)).lookup y=(l.lookup y).map (f y)
 | [],_=>rfl
 | (n,k)::r,y=>by
  rw[List.map_cons,List.lookup_cons,List.lookup_cons]
  by_cases z:y=n
  ·subst z; simp
  ·rw[zV.mpr z]; exact lV r y
theorem yT{α:Type}:∀{l:List (PySem.Str×α)}{y:PySem.Str}{k:α},l.lookup y=some k->(y,k)∈l
 | [],_,_,h=>by simp at h
 | (n,k')::r,y,k,h=>by
  rw[List.lookup_cons]at h
  by_cases z:y=n
  ·subst z; simp only[beq_self_eq_true]at h; cases h; simp
  ·rw[zV.mpr z]at h; exact List.mem_cons_of_mem _ (yT h)
def e8{scope:Scope}{cl:List (PySem.Str×Addr)}{c:Addr}(y:PySem.Str):(compEnvC scope cl c env).kindOf y=(scope.names.lookup y).map fun k=>if (k==.free&&env.scope.kind==.function&&env.kindOf y==some .cell)=true then .cell else k:=by
 have:=lV (f:=fun n k=>if (k==NameKind.free&&env.scope.kind==.function&&env.kindOf n==some .cell)=true then NameKind.cell else k) scope.names y
 rw[<-this];show List.lookup y (scope.names.map _)=_
 congr 2
 funext p
 have zz:=p;dsimp only
 split <;> rfl
def vX{scope:Scope}{cl:List (PySem.Str×Addr)}{c:Addr}{y:PySem.Str}:(compEnvC scope cl c env).kindOf y=some .local↔scope.names.lookup y=some .local:=by
 rw[e8];cases e:scope.names.lookup y with
 | none=>simp
 | some k =>
  simp only[Option.map_some,Option.some.injEq]
  constructor
  ·intro h
   split at h
   ·cases h
   ·exact h
  ·rintro rfl
   simp
def mV{scope:Scope}{cl:List (PySem.Str×Addr)}{c:Addr}{tg:Tg}(CO:k5 env scope tg){y:PySem.Str}(h:(compEnvC scope cl c env).kindOf y=some .cell\/(compEnvC scope cl c env).kindOf y=some .free):(y,NameKind.free)∈scope.names:=by
 rw[e8]at h;cases e:scope.names.lookup y with
 | none=>rw[e]at h; simp at h
 | some k =>
  rw[e]at h
  have:=CO.nocell _ (yT e)
  cases k <;> simp at h this
  exact(yT e)
end
noncomputable def nD(scope:Scope)(ρ:y5):y5:=fun y=>if scope.names.lookup (tx y)=some .local then none else ρ y
def h9{x y:String}{v:V}{ρ ρ0:y5}(h:y=x\/ρ0 y=ρ y):y5.set ρ0 x v y=y5.set ρ x v y:=by
 unfold y5.set
 by_cases e:y=x
 ·rw[if_pos e,if_pos e]
 ·rw[if_neg e,if_neg e]; exact h.resolve_left e
def J9:∀{xs:List String}{vs:List V}{ρ ρ0 ρ':y5},y5.sets ρ xs vs=some ρ'->∃ρ0',y5.sets ρ0 xs vs=some ρ0'/\∀y,(y∈xs\/ρ0 y=ρ y)->ρ0' y=ρ' y:=by
 intro xs
 induction xs with
 | nil=>intro vs ρ ρ0 ρ' e; cases vs with
  | nil=>cases e; exact⟨ρ0,rfl,fun y h=>h.resolve_left fun z=>(absurd z qW)⟩
  | cons _ _=>cases e
 | cons x xs ih=>intro vs ρ ρ0 ρ' e; cases vs with
  | nil=>cases e
  | cons v vs =>
   refine wI (ih (ρ0:=y5.set ρ0 x v) e) fun r h1 h2=>?_;exact⟨r,h1,fun y h=>h2 y (h.elim (fun h=>(qV.mp h).elim (fun e=>.inr (h9 (.inl e))) .inl) fun h=>.inr (h9 (.inr h)))⟩
def XZ{tg:Tg}{v:V}{ρ ρ0 ρ':y5}(e:y5.bind ρ tg v=some ρ'):∃ρ0',y5.bind ρ0 tg v=some ρ0'/\∀y,(y∈q0T tg\/ρ0 y=ρ y)->ρ0' y=ρ' y:=by
 cases tg with
 | nm x=>cases e; exact⟨_,rfl,fun y h=>h9 (h.imp qO.mp id)⟩
 | tp xs=>cases v <;> first | exact J9 e | cases e
section
variable{env:Env}{s:Shared}{A:Around}
def ZJ{prog:Program}{w:World}{R:Result->Shared->Prop}{elt qD qE:Expr}{ifs:List Expr}{scope:Scope}{pos:Pos}{it acc:Value}(I:Nat->Shared->Prop)
  (turn:∀n s,I n s->wpAny (model prog w) A (pyNext it) (fun r s₁=>match r with
   | none=>R (.ok .next) s₁
   | some v=>wpAny (model prog w) A (letOwnedTupleGo qD it v) (fun z0 s₁'=>wpAny (model prog w) A (assign qD env v) (fun z0 s₂ =>
     wpAny (model prog w) A (forIn ifs true fun c r=>if r=true then do let ok <-isTrue c env (eval c env); pure (ForInStep.yield ok)else pure (ForInStep.yield r)) (fun ok s₃ =>
      if ok=true then wpAny (model prog w) A (eval elt env) (fun x s₄ =>
       wpAny (model prog w) A (call (.builtin "list.append") [acc,x]) (fun z0 s₅=>∃m,m<n/\I m s₅) (fun z0 z0=>False) s₄) (fun z0 z0=>False) s₃
      else ∃m,m<n/\I m s₃) (fun z0 z0=>False) s₂) (fun z0 z0=>False) s₁') (fun z0 z0=>False) s₁) (fun z0 z0=>False) s)
  (n:Nat) (h:I n s) :
  codeAny (model prog w) A (.compLoop (.ListComp elt [⟨qD,qE,ifs,0⟩] scope pos) 0 it acc env) R s:=by
 refine codeAny_loop rfl I (fun n s hI=>?_) n h;show wpAny _ A ((compTurn (.ListComp elt [⟨qD,qE,ifs,0⟩] scope pos) 0 it acc env).onRaise (fun x=>do noteFrame x env; theTreesLotGoes x)) _ _ s;refine wpAny_noted ?_;rw[compTurn_list];refine wpAny_bind (wpAny_standAt (wpAny_bind (xI (turn n s hI) (fun r s₁ h₁=>?_))));cases r with
 | none=>exact wpAny_pure h₁
 | some v =>
  refine wpAny_bind (xI h₁ fun z0 s₁' h₁'=>?_);refine wpAny_bind (xI h₁' (fun z0 s₂ h₂=>wpAny_bind (xI h₂ (fun ok s₃ h₃=>?_))));cases ok with
  | false=>exact wpAny_pure ⟨rfl,h₃⟩
  | true =>
   refine wpAny_bind (wpAny_bind (xI h₃ (fun x s₄ h₄=>?_)));refine wpAny_bind (xI h₄ (fun z0 s₅ h₅=>?_));exact wpAny_pure (wpAny_pure ⟨rfl,h₅⟩)
def iZ{prog:Program}{w:World}{R:Result->Shared->Prop}{kx vx qD qE:Expr}{scope:Scope}{pos:Pos}{it:Value}{D:Addr}(I:Nat->Shared->Prop)
  (turn:∀n s,I n s->wpAny (model prog w) A (pyNext it) (fun r s₁=>match r with
   | none=>R (.ok .next) s₁
   | some v=>wpAny (model prog w) A (letOwnedTupleGo qD it v) (fun z0 s₁'=>wpAny (model prog w) A (assign qD env v) (fun z0 s₂ =>
     wpAny (model prog w) A (eval kx env) (fun kv s₄=>wpAny (model prog w) A (eval vx env) (fun vv s₅ =>
       wpAny (model prog w) A (dictSet D kv vv) (fun z0 s₆=>∃m,m<n/\I m s₆) (fun z0 z0=>False) s₅) (fun z0 z0=>False) s₄) (fun z0 z0=>False) s₂) (fun z0 z0=>False) s₁') (fun z0 z0=>False) s₁) (fun z0 z0=>False) s)
  (n:Nat) (h:I n s) :
  codeAny (model prog w) A (.compLoop (.DictComp kx vx [⟨qD,qE,[],0⟩] scope pos) 0 it (.ref D) env) R s:=by
 refine codeAny_loop rfl I (fun n s hI=>?_) n h;show wpAny _ A ((compTurn (.DictComp kx vx [⟨qD,qE,[],0⟩] scope pos) 0 it (.ref D) env).onRaise (fun x=>do noteFrame x env; theTreesLotGoes x)) _ _ s;refine wpAny_noted ?_;rw[compTurn_dict];refine wpAny_bind (wpAny_standAt (wpAny_bind (xI (turn n s hI) (fun r s₁ h₁=>?_))));cases r with
 | none=>exact wpAny_pure h₁
 | some v =>
  refine wpAny_bind (xI h₁ fun z0 s₁' h₁'=>?_);refine wpAny_bind (xI h₁' (fun z0 s₂ h₂=>?_));refine wpAny_bind (wpAny_pure ?_);refine wpAny_bind (wpAny_bind (xI h₂ (fun kv s₄ h₄=>?_)));refine wpAny_bind (wpAny_holding (xI h₄ (fun vv s₅ h₅=>?_)));refine wpAny_bind (wpAny_standAt (wpAny_holding (xI h₅ (fun z0 s₆ h₆=>?_))));exact wpAny_pure ⟨rfl,h₆⟩
end
section
variable{c:Fx}{ρ:y5}{p:Mt}{I:Addr}{iv:V}{i:Nat}
def sZ{R:Value->Shared->Prop}(it:vR c p I i iv)(q:R (.ref I) p.s):wA c (pyIter (.ref I)) R p.s:=by
 cases iv with
 | tup l=>exact it.elim fun t h=>wpAny_pyIter_tupleiter h.1 q
 | lst l=>exact it.elim fun t h=>wpAny_pyIter_listiter h.1 q
 | ref g n=>exact it.elim fun t h=>wpAny_pyIter_listiter h.1 q
 | rng lo n=>exact wpAny_pyIter_rangeiter it q
 | _=>exact False.elim it
end
noncomputable def Fx.inn(F:Fx)(scope:Scope)(cl:List (PySem.Str×Addr))(N:Addr):Fx:=⟨F.X,F.A,compEnvC scope cl N F.env,F.Pv,fun a=>a=N⟩
section
variable{c F:Fx}{ρ ρ' ρ0:y5}{p p' p0:Mt}{C:yA}{x y z iv:V}{u v w:Value}{n:String}{a b I D N:Addr}{ob:Ob}{Wr:List String}{i:Nat}{l:List V}{scope:Scope}{cl:List (PySem.Str×Addr)}{tg:Tg}{m:PySem.Str->Option Value}
def oK:(c.it a).it b=(c.it b).it a:=by
 unfold Fx.it
 congr 1 <;> funext z <;> exact propext or_right_comm
def UI.it(N:UI c a)(ne:a≠b):UI (c.it b) a:=⟨N.loc,N.cel,fun z=>z.elim N.pv ne,fun x z=>z.elim (fun z=>.inl (N.own x z)) .inr⟩
def yJ.nmu(G:yJ c p)(pv:c.Pv a):¬Mu p a:=fun z=>uM z fun g n z0 e z0=>(G.at_ g n a e).2.2 pv
def At.agree(h:At c ρ0 p)(k1:∀y v,ρ' y=some v->y≠".0"->c.env.kindOf (tx y)=some .local->ρ0 y=some v) (k2:∀y v,ρ' y=some v->c.env.kindOf (tx y)=some .cell\/c.env.kindOf (tx y)=some .free->ρ0 y=some v):At c ρ' p :=
 ⟨h.g,h.e,h.ns.elim fun m n=>⟨m,n.1,fun x v e z k=>n.2 x v (k1 x v e z k) z k⟩,fun x v e k=>h.cells x v (k2 x v e k) k,h.noL,h.noC⟩
def VC(CO:k5 F.env scope tg)(c1:∀y c,cl.lookup y=some c->F.env.cells.lookup y=some c)(c2:∀y,(y,NameKind.free)∈scope.names->∃c,cl.lookup y=some c)(h:At F ρ p)(pc:F.Pv N)(hn:p.s.heap.Ns N m):At (F.inn scope cl N) (nD scope ρ) p:=by
 refine⟨⟨h.g.base,h.g.rep,h.g.non,h.g.inj,h.g.at_,h.g.priv,fun a z=>z▸pc,h.g.gens,h.g.os⟩,⟨CO.kind,h.e.glob,h.e.blt,fun x k=>c2 _ (mV CO k)⟩,⟨m,hn,fun x v e z0 k=>?_⟩,fun x v e k=>?_,h.g.nmu pc,fun x d e=>h.noC x d (c1 _ _ e)⟩
 ·unfold nD at e;rw[if_pos (vX.mp k)]at e; cases e
 ·have e':ρ x=some v:=by
   unfold nD at e
   split at e
   ·cases e
   ·exact e
  refine qG fun ng=>?_;refine uL (h.cells x v e' (CO.free _ (mV CO k) rfl)) fun d u h1 h2 h3=>?_;refine(c2 _ (mV CO k)).elim fun d' h4=>?_;refine ng ?_;cases h1.symm.trans (c1 _ _ h4);exact⟨d,u,h4,h2,h3⟩
def At.back(h:At F ρ p)(oN:F.own N)(nl:F.env.locals≠N)(nc:∀x b,F.env.cells.lookup x=some b->b≠N)(g:yJ (F.inn scope cl N) p')(s:yC (fun a=>a=N) p p'):At F ρ p' :=
 At.to (A':=F.A) (Pv':=F.Pv) (own':=F.own) h ⟨g.base,g.rep,g.non,g.inj,g.at_,g.priv,h.g.own,g.gens,g.os⟩ s.le (fun z0 z0 r=>yG.step h.g (s.one oN) r) (fun o e=>s.keep _ o h.noL nl e) (fun x b e o q=>s.keep b o (h.noC x b e).1 (nc x b e) q) s.new
def TL(c:Fx)(ρ:y5)(C:yA)(ifs:List Expr)(ifx:List Ex):Prop :=
 ST c ρ (forIn ifs true fun e r=>if r=true then do let ok <-isTrue e c.env (eval e c.env); pure (ForInStep.yield ok)else pure (ForInStep.yield r)) (bC C true ifx ρ)
theorem rN{M:Model}{A:Around}{env:Env}{s:Shared}{Q:Bool->Shared->Prop}{E:Value->Shared->Prop}(q:Q false s):∀ifs:List Expr,
  wpAny M A (forIn ifs false fun c r=>if r=true then do let ok <-isTrue c env (eval c env); pure (ForInStep.yield ok)else pure (ForInStep.yield r)) Q E s
 | []=>by rw[List.forIn_nil]; exact wpAny_pure q
 | c::r=>by
  rw[List.forIn_cons];exact wpAny_bind (wpAny_pure (rN q r))
def q0B:TL c ρ C [] []:=fun p Q R h q k=>by
 rw[List.forIn_nil];exact wpAny_pure (k p true h .refl q)
def L1{e:Expr}{ex:Ex}{ifs:List Expr}{ifx:List Ex}(H:ST c ρ (isTrue e c.env (eval e c.env)) (wt C ex ρ))(Hr:TL c ρ C ifs ifx):TL c ρ C (e::ifs) (ex::ifx):=fun p Q R h q k=>by
 rw[List.forIn_cons,if_pos rfl];refine wpAny_bind (wpAny_bind (H p _ _ h q fun p1 b h1 s1 q1=>wpAny_pure ?_));cases b with
 | true=>exact Hr p1 Q R h1 q1 (k.on s1)
 | false=>exact rN (k p1 false h1 s1 q1) ifs
def i6(hr:wX c.A){qD:Expr}{R:Unit->Shared->Prop}(tE:CZ tg qD)(W:rV c Wr)(hx:∀x∈q0T tg,wH c.env Wr x)(e:y5.bind ρ tg x=some ρ')(h:At c ρ p)(r:y7 c p x u)(k:q4T c ρ' p (R ())):wA c (assign qD c.env u) R p.s:=by
 cases tg with
 | nm x =>
  obtain⟨q,rfl⟩:=tE;cases e;exact PyProof.Rows.assign_Name (kX W h (hx x (.head _)) r k)
 | tp xs =>
  obtain⟨es,kk,q,t,rfl⟩:=tE;exact i9 hr W t hx e h r k
set_option genCtorIdx false in
structure q80 (F:Fx) (p0:Mt) (ρ:y5) (I D N:Addr) (iv:V) (l:List V) (W:List V->List V->St->Prop) (i:Nat) (p:Mt) (acc:List V) (xs:List Value) (kk:Nat) (m:PySem.Str->Option Value):Prop where
 le:acc.length<=i
 at_:At F ρ p
 st:yC F.own p0 p
 it:vR F p I i iv
 src:XO p.σ iv l
 list:p.s.heap.get? D=some (seqObj "list" (List.toArray xs) kk)
 rep:y6 (F.V p) acc xs
 ns:p.s.heap.Ns N m
 w:W (l.drop i) acc p.σ
def N7{σ σ':St}{X:Prop}(h:XO σ iv l)(o:O1 l iv σ' X):XO σ' iv l/\X:=by
 cases iv <;> first | exact⟨h,o⟩ | exact o
end
section
variable{c F:Fx}{ρ ρ' ρ0:y5}{p p' p0:Mt}{C:yA}{x y z iv:V}{u v w:Value}{n:String}{a b I D N:Addr}{ob:Ob}{Wr:List String}{i:Nat}{l:List V}{scope:Scope}{cl:List (PySem.Str×Addr)}{tg:Tg}{m:PySem.Str->Option Value}
def UU(hr:wX F.A){elt qD:Expr}{ifs:List Expr}{ex:Ex}{ifx:List Ex}{Q:Kl}
  (CO:k5 F.env scope tg) (tE:CZ tg qD) (c1:∀y c,cl.lookup y=some c->F.env.cells.lookup y=some c) (c2:∀y,(y,NameKind.free)∈scope.names->∃c,cl.lookup y=some c)
  (He:∀ρ,SE (F.inn scope cl N) ρ (eval elt (compEnvC scope cl N F.env)) (we C ex ρ)) (Hif:∀ρ,TL (F.inn scope cl N) ρ C ifs ifx)
  (oN:F.own N) (oD:F.own D) (nI:¬D=I) (nN:¬D=N) (nIN:¬I=N) (pI:F.Pv I) (nlN:F.env.locals≠N) (ncN:∀x b,F.env.cells.lookup x=some b->b≠N) (nlD:F.env.locals≠D) (ncD:∀x b,F.env.cells.lookup x=some b->b≠D)
  {acc:List V} {xs:List Value} {kk:Nat} {ok:St->Prop->Prop} {r:List V} {T:Shared->Prop} (hl:acc.length<=lim)
  (h:At F ρ p) (hn:p.s.heap.Ns N m) (hD:p.s.heap.get? D=some (seqObj "list" (List.toArray xs) kk)) (rr:y6 (F.V p) acc xs) (ru:F.V p x u)
  (q:pP (bC C true ifx) (we C ex) tg ρ x (A0 ok (kZ (pP (bC C true ifx) (we C ex) tg ρ) ok Q r) acc) p.σ)
  (k:∀p' acc' xs' kk' m',acc'.length<=acc.length+1->At F ρ p'->yC (fun a=>a=N\/a=D) p p'->p'.s.heap.get? D=some (seqObj "list" (List.toArray xs') kk')->y6 (F.V p') acc' xs'->p'.s.heap.Ns N m'->ok p'.σ (kZ (pP (bC C true ifx) (we C ex) tg ρ) ok Q r acc' p'.σ)->T p'.s) :
  wA F (assign qD (compEnvC scope cl N F.env) u) (fun z0 s₂=>wA F (forIn ifs true fun c r=>if r=true then do let ok <-isTrue c (compEnvC scope cl N F.env) (eval c (compEnvC scope cl N F.env)); pure (ForInStep.yield ok)else pure (ForInStep.yield r)) (fun ok s₃ =>
   if ok=true then wA F (eval elt (compEnvC scope cl N F.env)) (fun x s₄=>wA F (call (.builtin "list.append") [.ref D,x]) (fun z0 s₅=>T s₅) s₄) s₃ else T s₃) s₂) p.s:=by
 refine qG fun ng=>?_;refine wI (IM q) fun ρ' eb q=>?_;refine wI (XZ (ρ0:=nD scope ρ) eb) fun ρ0 eb0 ag=>?_;refine ng ?_;refine i6 (c:=F.inn scope cl N) hr tE ((⟨rfl,fun x hx=>((absurd hx qW)),fun x hx=>((absurd hx qW)),fun x d e=>ncN x d (c1 _ _ e)⟩:rV (F.inn scope cl N) [])) (fun x hx=>.inl (vX.mpr (CO.tgt x hx))) eb0 ((VC CO c1 c2 h (h.g.own N oN) hn:At (F.inn scope cl N) (nD scope ρ) p)) (yG.tt ru) fun p5 h5 s5 e5=>?_;have h5':At (F.inn scope cl N) ρ' p5:=h5.agree (fun y v ey y0 ky=>by
  rw[ag y (.inl ((CO.loc y (vX.mp ky)).resolve_left y0))]; exact ey) fun y v ey ky=>by
  have:scope.names.lookup (tx y)≠some .local:=fun z=>by
   rcases ky with ky | ky <;> exact nomatch (vX.mpr z).symm.trans ky
  rw[ag y (.inr (by unfold nD; rw[if_neg this]))]; exact ey
 have nmD:∀{p':Mt},yC (fun a=>a=N) p p'->p'.s.heap.get? D=some (seqObj "list" (List.toArray xs) kk):=fun s=>s.keep D _ (h.g.nmu (h.g.own D oD)) nN hD;refine Hif ρ' p5 _ _ h5' ((e5)▸q) fun p6 b h6 s6 q6=>?_;have st6:yC (fun a=>a=N) p p6:=s5.trans s6;cases b with
 | false =>
  refine qG fun ng=>?_;refine wI (h6.ns) fun m6 n6 z0=>?_;refine ng ?_;rw[if_neg (by decide)];exact k p6 acc xs kk m6 (Nat.le_succ _) (h.back oN nlN ncN h6.g st6) (st6.wk fun z0=>.inl) (nmD st6) (rr.mono fun z0 z0 r=>yG.step h.g (st6.one oN) r) n6 (Eq.mp (congrArg (fun l=>ok p6.σ (kZ (pP (bC C true ifx) (we C ex) tg ρ) ok Q r l p6.σ)) (qS acc)) q6)
 | true =>
  rw[if_pos rfl];refine He ρ' p6 _ _ h6 q6 fun p7 v u7 h7 s7 r7 q7=>?_;refine qG fun ng=>?_;refine(xY q7).elim fun ov q7=>?_;have st7:yC (fun a=>a=N) p p7:=st6.trans s7;refine wI (h7.ns) fun m7 n7 z0=>?_;refine ng ?_;refine pN (nmD st7) (rr.length▸hl) fun h8 k8 D8 sb8=>?_;have U:=(h.back oN nlN ncN h7.g st7).touch (t:=p7.s.toks) oD nlD ncD sb8 ⟨_,D8⟩;refine k (p7.heap h8 p7.s.toks) (acc++[v]) (xs++[u7]) k8 m7 (qK (qM ..)) U.1 ((st7.wk fun z0=>.inl).trans (U.2.1.wk fun z0=>.inr)) D8 ((((rr.mono fun z0 z0 r=>yG.step h.g (st7.one oN) r:y6 (F.V p7) acc xs)).mono U.2.2).snoc (U.2.2 _ _ (r7.gv ov))) (dC (fun o e=>(sb8.2 N fun z=>nN z.symm).trans e) n7) q7
end
section
variable{c c' F:Fx}{ρ ρ' ρ0:y5}{p p' p0:Mt}{C:yA}{x y z iv:V}{u v w:Value}{n:String}{a b I D N:Addr}{ob:Ob}{Wr:List String}{i:Nat}{l:List V}{scope:Scope}{cl:List (PySem.Str×Addr)}{tg:Tg}{m:PySem.Str->Option Value}
def vR.to(it:vR c p I i iv)(k:∀o,p.s.heap.get? I=some o->p'.s.heap.get? I=some o)(kv:∀x v,c.V p x v->c'.V p' x v)(le:Z8 p.m p'.m):vR c' p' I i iv:=by
 cases iv with
 | tup l=>exact it.elim fun t z=>⟨t,z.1.elim fun o z=>⟨o,k o z.1,z.2⟩,kv _ _ z.2⟩
 | lst l=>exact it.elim fun t z=>⟨t,z.1.elim fun o z=>⟨o,k o z.1,z.2⟩,kv _ _ z.2⟩
 | ref g n=>exact it.elim fun t z=>⟨t,z.1.elim fun o z=>⟨o,k o z.1,z.2⟩,le _ _ _ z.2⟩
 | rng lo n=>exact k _ it
 | _=>exact False.elim it
set_option genCtorIdx false in
structure CF (c:Fx) (p p5:Mt) (ρ:y5) (I D N:Addr) (iv:V) (o:Obj):Prop where
 nDN:D≠N
 nDI:D≠I
 nNI:N≠I
 AI:UI c I
 AD:UI c D
 AN:UI c N
 fI:p.s.heap.get? I=none
 fD:p.s.heap.get? D=none
 fN:p.s.heap.get? N=none
 at_:At (((c.it D).it N).it I) ρ p5
 st:yC (((c.it D).it N).it I).own p p5
 it:vR (((c.it D).it N).it I) p5 I 0 iv
 hD:p5.s.heap.get? D=some o
 ns:∃m,p5.s.heap.Ns N m
 σ:p5.σ=p.σ
def q39:((c.it I).it D).it N=((c.it D).it N).it I:=(congrArg (Fx.it · N) oK).trans oK
def q2E{o:Obj}{p2:Mt}{h1:Heap}{t:Nat}{on:Obj}(ho:o.isFreed=false)(hon:on.isFreed=false)(h:At c ρ p)(h2:At (c.it I) ρ p2)(s2:yC no p p2)(e2:p2.σ=p.σ)(fI:p.s.heap.get? I=none)(it2:vR (c.it I) p2 I 0 iv)
  (hns:h1.Ns (p2.s.heap.push o).objs.size m) (sb:Heap.SameBut (p2.s.heap.push o).objs.size ((p2.s.heap.push o).push on) h1) :
  CF c p ⟨p2.m,p2.σ,{p2.s with heap:=h1,toks:=t}⟩ ρ I p2.s.heap.objs.size (p2.s.heap.push o).objs.size iv o:=by
 have h3:=h2.newI (o:=o) ho;have h4:=h3.1.newI (o:=on) hon;have hDk:=zY (h:=p2.s.heap) (o:=o) ho;have fD2:=yI p2.s.heap;have fN3:=yI (p2.s.heap.push o);dsimp only at h3 h4;generalize (p2.s.heap.push o).objs.size=N at h4 fN3 hns sb ⊢;generalize p2.s.heap.objs.size=D at h3 h4 hDk fD2 ⊢;have fN2:p2.s.heap.get? N=none:=by
  cases z:p2.s.heap.get? N with
  | none=>rfl
  | some o=>exact(gO fN3 (zX _ z)).elim
 have nI:∀{a},p2.s.heap.get? a=none->a≠I:=fun f e=>(h2.g.priv I (.inr rfl)).2.elim fun o z=>gO (e▸f) z;exact⟨((fun e=>gO (e▸fN3) hDk:D≠N)),nI fD2,nI fN2,h.apart fI,h.apart (s2.not fD2),(h.apart (s2.not fN2)),fI,s2.not fD2,s2.not fN2,q39▸(h4.1.touch (t:=t) (.inr rfl) (h.apart (s2.not fN2)).loc (h.apart (s2.not fN2)).cel sb (kT hns)).1,q39 (c:=c)▸((s2.w.trans (h3.2.1.trans h4.2.1:yC no p2 _).w).trans ((h4.1.touch (t:=t) (.inr rfl) (h.apart (s2.not fN2)).loc (h.apart (s2.not fN2)).cel sb (kT hns)).2.1.one (show(((c.it I).it D).it N).own N from .inr rfl))),q39 (c:=c)▸(it2.to (p':=Mt.heap _ h1 t) (fun o e=>(sb.2 I (nI fN2).symm).trans (zX _ (zX _ e))) (fun x v r=>(h4.1.touch (t:=t) (.inr rfl) (h.apart (s2.not fN2)).loc (h.apart (s2.not fN2)).cel sb (kT hns)).2.2 x v (h4.2.2 x v (h3.2.2 x v r))) fun z0 z0 z0 e=>e),(sb.2 D ((fun e=>gO (e▸fN3) hDk:D≠N))).trans (zX _ hDk),⟨_,hns⟩,e2⟩
def A1{o:Obj}(ho:o.isFreed=false){new:Sem Value}(hnew:∀(s:Shared) (R:Value->Shared->Prop),R (.ref s.heap.objs.size) {s with heap:=s.heap.push o}->wA c new R s)(CO:k5 c.env scope tg)(h:At c ρ p)(sq:XO p.σ iv l)(r:y7 c p iv u){K:Value->Value->Env->Shared->Prop}
  (k:∀I D N p5,CF c p p5 ρ I D N iv o->K (.ref I) (.ref D) (newEnv scope N c.env.globals cl c.env.qual none .none (some c.env) builtinsNs) p5.s) :
  wA c (pyIter u) (fun it s2=>wA c new (fun acc s3=>wA c (newFunctionEnv scope c.env.globals cl [] c.env.qual none .none (some c.env)) (fun cenv s4=>K it acc cenv s4) s3) s2) p.s :=
 oL h sq r fun I p2 h2 s2 e2 fI it2=>hnew _ _ (wpAny_newFunctionEnv CO.nocell (by intro y hy; cases hy) (fun h1 hns sb=>k I _ _ ⟨p2.m,p2.σ,{p2.s with heap:=h1,toks:=p2.s.toks+([]:List (PySem.Str×Value)).length}⟩ (q2E ho rfl h h2 s2 e2 fI it2 hns sb)) CO.kind)
set_option genCtorIdx false in
structure CL (c:Fx) (p:Mt) (ρ:y5) (I D N:Addr) (iv:V) (l:List V) {β:Type} (B:β->Nat->Mt->Prop) (i:Nat) (p3:Mt):Prop where
 at_:At (((c.it D).it N).it I) ρ p3
 st:yC (((c.it D).it N).it I).own p p3
 it:vR (((c.it D).it N).it I) p3 I i iv
 src:XO p3.σ iv l
 b:∃b,B b i p3
def LI(c:Fx)(p:Mt)(ρ:y5)(I D N:Addr)(iv:V)(l:List V){β:Type}(B:β->Nat->Mt->Prop)(n:Nat)(s:Shared):Prop:=∃i p3,s=p3.s/\n=l.length-i/\CL c p ρ I D N iv l B i p3
variable{p5 p3:Mt}{o:Obj}{β:Type}{B:β->Nat->Mt->Prop}
def CL.fin(J:CL c p ρ I D N iv l B i p3)(C:CF c p p5 ρ I D N iv o){h':Heap}(he:Heap.ExtBut I p3.s.heap h'):At ((c.it N).it D) ρ ⟨p3.m,p3.σ,{p3.s with heap:=h'}⟩/\yC ((c.it N).it D).own p ⟨p3.m,p3.σ,{p3.s with heap:=h'}⟩/\∀x v,(((c.it D).it N).it I).V p3 x v->((c.it N).it D).V ⟨p3.m,p3.σ,{p3.s with heap:=h'}⟩ x v :=
 oK (c:=c)▸⟨(At.endI ((C.AI.it C.nDI.symm).it C.nNI.symm) J.at_ (t:=p3.s.toks) he).1,(At.endI ((C.AI.it C.nDI.symm).it C.nNI.symm) J.at_ (t:=p3.s.toks) he).2.1 p C.fI J.st,(At.endI ((C.AI.it C.nDI.symm).it C.nNI.symm) J.at_ (t:=p3.s.toks) he).2.2⟩
def CL.next(J:CL c p ρ I D N iv l B i p3)(C:CF c p p5 ρ I D N iv o)(hr:wX c.A){R:Option Value->Shared->Prop}
  (tn:∀b y u p4,l[i]?=some y->B b i p3->At (((c.it D).it N).it I) ρ p4->yC (fun b=>b=I) p3 p4->p4.σ=p3.σ->(((c.it D).it N).it I).V p4 y u->vR (((c.it D).it N).it I) p4 I (i+1) iv ->
   (∀b p7,At (((c.it D).it N).it I) ρ p7->yC (fun a=>a=N\/a=D) p4 p7->XO p7.σ iv l->B b (i+1) p7->CL c p ρ I D N iv l B (i+1) p7)->R (some u) p4.s)
  (fin:∀b,B b i p3->l[i]?=none->∀h',Heap.ExtBut I p3.s.heap h'->R none {p3.s with heap:=h'}):wA c (pyNext (.ref I)) R p3.s :=
 J.b.elim fun b hb=>c9 (c:=(c.it D).it N) hr.1 ((C.AI.it C.nDI.symm).it C.nNI.symm) J.at_ J.src J.it (fun y u p4 hy h4 s4 e4 ru it4=>tn b y u p4 hy hb h4 s4 e4 ru it4 fun b p7 h7 s7 src hb =>
  have s7':=s7.wk (U':=(((c.it D).it N).it I).own) fun a z=>z.elim (fun z=>z▸.inl (.inr rfl)) fun z=>z▸.inl (.inl (.inr rfl))
  ⟨h7,(J.st.trans (s4.one (.inr rfl))).trans s7',it4.to (c':=((c.it D).it N).it I) (p':=p7) (fun o e=>s7.keep I o (h4.g.nmu (.inr rfl)) (fun z=>z.elim C.nNI.symm fun z=>C.nDI z.symm) e) (fun z0 z0 r=>yG.step h4.g s7' r) s7.le,src,b,hb⟩) (fin b hb)
def LI.next{n:Nat}{s:Shared}(Z:LI c p ρ I D N iv l B n s)(C:CF c p p5 ρ I D N iv o)(hr:wX c.A){R:Option Value->Shared->Prop}
  (tn:∀i p3 b y u p4,n=l.length-i->l[i]?=some y->yJ (((c.it D).it N).it I) p3->XO p3.σ iv l->B b i p3->At (((c.it D).it N).it I) ρ p4->yC (fun b=>b=I) p3 p4->p4.σ=p3.σ->(((c.it D).it N).it I).V p4 y u->vR (((c.it D).it N).it I) p4 I (i+1) iv ->
   (∀b p7,At (((c.it D).it N).it I) ρ p7->yC (fun a=>a=N\/a=D) p4 p7->XO p7.σ iv l->B b (i+1) p7->∃m,m<n/\LI c p ρ I D N iv l B m p7.s)->R (some u) p4.s)
  (fin:∀i p3 b,B b i p3->l[i]?=none->∀h',Heap.ExtBut I p3.s.heap h'->At ((c.it N).it D) ρ ⟨p3.m,p3.σ,{p3.s with heap:=h'}⟩/\yC ((c.it N).it D).own p ⟨p3.m,p3.σ,{p3.s with heap:=h'}⟩/\(∀x v,(((c.it D).it N).it I).V p3 x v->((c.it N).it D).V ⟨p3.m,p3.σ,{p3.s with heap:=h'}⟩ x v)->R none {p3.s with heap:=h'}):wA c (pyNext (.ref I)) R s :=
 v4 Z fun i p3 z=>z.1▸CL.next z.2.2 C hr (fun b y u p4 hy hb h4 s4 e4 ru it4 nx=>tn i p3 b y u p4 z.2.1 hy z.2.2.at_.g z.2.2.src hb h4 s4 e4 ru it4 fun b p7 h7 s7 src hb=>⟨l.length-(i+1),z.2.1▸Nat.sub_lt_sub_left (tW hy).2 (Nat.lt_succ_self i),i+1,p7,rfl,rfl,nx b p7 h7 s7 src hb⟩) fun b hb hy h' he=>fin i p3 b hb hy h' he (CL.fin z.2.2 C he)
set_option genCtorIdx false in
structure BL (F:Fx) (N D:Addr) (l:List V) (W:List V->List V->St->Prop) (b:List V×List Value×Nat×(PySem.Str->Option Value)) (i:Nat) (p:Mt):Prop where
 le:b.1.length<=i
 list:p.s.heap.get? D=some (seqObj "list" (List.toArray b.2.1) b.2.2.1)
 rep:y6 (F.V p) b.1 b.2.1
 ns:p.s.heap.Ns N b.2.2.2
 w:W (l.drop i) b.1 p.σ
def sL(hr:wX c.A){elt qD qE:Expr}{ifs:List Expr}{ex:Ex}{ifx:List Ex}{pos:Pos}{Q:Kl}{RR:Value->Addr->Result->Shared->Prop}
  (CO:k5 c.env scope tg) (tE:CZ tg qD) (c1:∀y d,cl.lookup y=some d->c.env.cells.lookup y=some d) (c2:∀y,(y,NameKind.free)∈scope.names->∃c,cl.lookup y=some c)
  (He:∀P N ρ,SE ⟨c.X,c.A,compEnvC scope cl N c.env,P,fun a=>a=N⟩ ρ (eval elt (compEnvC scope cl N c.env)) (we C ex ρ)) (Hif:∀P N ρ,TL ⟨c.X,c.A,compEnvC scope cl N c.env,P,fun a=>a=N⟩ ρ C ifs ifx)
  (h:At c ρ p) (sq:XO p.σ iv l) (hl:l.length<=lim) (r:y7 c p iv u) (q:kZ (pP (bC C true ifx) (we C ex) tg ρ) (O1 l iv) Q l [] p.σ)
  (k:∀D N p' m acc,UI c N->At (c.it N) ρ p'->yC (c.it N).own p p'->p.s.heap.get? N=none->p'.s.heap.Ns N m->y7 (c.it N) p' (.lst acc) (.ref D)->Q acc p'.σ->RR (.ref D) N (.ok .next) p'.s) :
  wA c (pyIter u) (fun it s2=>wA c (newList []) (fun acc s3=>wA c (newFunctionEnv scope c.env.globals cl [] c.env.qual none .none (some c.env)) (fun cenv s4 =>
   codeAny (model c.X.prog c.X.w) c.A (.compStart (.ListComp elt [⟨qD,qE,ifs,0⟩] scope pos) 0 it acc {cenv with scope:=relabel scope c.env}) (RR acc cenv.locals) s4) s3) s2) p.s :=
 A1 (o:={cls:=.type "list",data:=.seq ([]:List Value).toArray}) rfl (fun s R q=>wpAny_newObj_type q) CO h sq r fun I D N p5 CC =>
  have core:codeAny (model c.X.prog c.X.w) c.A (.compLoop (.ListComp elt [⟨qD,qE,ifs,0⟩] scope pos) 0 (.ref I) (.ref D) (compEnvC scope cl N c.env)) (RR (.ref D) N) p5.s :=
   ZJ (LI c p ρ I D N iv l (BL (((c.it D).it N).it I) N D l fun r acc σ=>kZ (pP (bC C true ifx) (we C ex) tg ρ) (O1 l iv) Q r acc σ))
    (fun n s3 Z=>Z.next CC hr (fun i p3 b y u p4 en hy g3 src hb h4 s4 e4 ru it4 nx=>J2 it4 (UU (F:=((c.it D).it N).it I) (I:=I)
      hr CO tE c1 c2 (He _ N) (Hif _ N) (.inl (.inr rfl)) (.inl (.inl (.inr rfl))) CC.nDI CC.nDN CC.nNI.symm (.inr rfl) CC.AN.loc CC.AN.cel CC.AD.loc CC.AD.cel (qF hb.le (qF (z9 (tW hy).2) hl)) h4
      (dC (fun o e=>s4.keep N o (g3.nmu (.inl (.inr rfl))) CC.nNI e) hb.ns) (s4.keep D _ (g3.nmu (.inl (.inl (.inr rfl)))) CC.nDI hb.list) (hb.rep.mono fun z0 z0 r=>yG.step g3 (s4.one (.inr rfl)) r) ru (Eq.mp (congr (congrArg (fun r=>kZ (pP (bC C true ifx) (we C ex) tg ρ) (O1 l iv) Q r b.1) (tW hy).1) e4.symm) hb.w) fun p7 acc' xs' kk' m' le h7 s7 D7 rr7 n7 w7 =>
       nx (acc',xs',kk',m') p7 h7 s7 (N7 src w7).1 ⟨qF le (z7 hb.le),D7,rr7,n7,(N7 src w7).2⟩))
     fun i p3 b hb hy h' he E =>
      k D N ⟨p3.m,p3.σ,{p3.s with heap:=h'}⟩ b.2.2.2 b.1 CC.AN (At.endI (c:=c.it N) (CC.AD.it CC.nDN) E.1 (h':=h') (t:=p3.s.toks) fun z0 z0 z0 e=>e).1 ((At.endI (c:=c.it N) (CC.AD.it CC.nDN) E.1 (h':=h') (t:=p3.s.toks) fun z0 z0 z0 e=>e).2.1 p CC.fD E.2.1) CC.fN (dC (fun o e=>he N o CC.nNI e) hb.ns) ⟨b.2.1,dH (hb.rep.mono fun x v r=>(At.endI (c:=c.it N) (CC.AD.it CC.nDN) E.1 (h':=h') (t:=p3.s.toks) fun z0 z0 z0 e=>e).2.2 x v (E.2.2 x v r)),D,rfl,fun z=>z.elim (E.1.g.nmu (.inr rfl)) (CC.AD.it CC.nDN).pv,b.2.2.1,he D _ CC.nDI hb.list⟩ (Eq.mp (congrArg (fun r=>kZ (pP (bC C true ifx) (we C ex) tg ρ) (O1 l iv) Q r b.1 p3.σ) (List.drop_eq_nil_of_le (List.getElem?_eq_none_iff.mp hy))) hb.w))
    l.length ⟨0,p5,rfl,rfl,CC.at_,CC.st,CC.it,CC.σ▸sq,CC.ns.elim fun m n=>⟨([],[],0,m),qT 0,CC.hD,trivial,n,CC.σ▸q⟩⟩
  codeAny_compStart_list core (wA.any (c:=((c.it D).it N).it I) (sZ CC.it core))
end
section
variable{c c' F:Fx}{ρ ρ' ρ0:y5}{p p' p0:Mt}{C:yA}{x z iv:V}{u v w:Value}{n:String}{a b I D N:Addr}{ob:Ob}{Wr:List String}{i:Nat}{l:List V}{scope:Scope}{tg:Tg}{m:PySem.Str->Option Value}{elt qD qE:Expr}{ifs:List Expr}{ex ix:Ex}{ifx:List Ex}{pos:Pos}
def dN(h:At c ρ p)(CO:k5 c.env scope tg):∃cl,closureFor scope c.env=pure cl/\(∀y d,cl.lookup y=some d->c.env.cells.lookup y=some d)/\∀y,(y,NameKind.free)∈scope.names->∃d,cl.lookup y=some d :=
 W0 fun x hx e=>h.e.hasC _ (CO.free x hx e)
def C5(hr:wX c.A)(hs:∀x,foldedSetIterable qE c.env x=pure x)(CO:k5 c.env scope tg)(tE:CZ tg qD)(Hi:SE c ρ (eval qE c.env) (we C ix ρ))
  (He:∀cl P N ρ,SE ⟨c.X,c.A,compEnvC scope cl N c.env,P,fun a=>a=N⟩ ρ (eval elt (compEnvC scope cl N c.env)) (we C ex ρ)) (Hif:∀cl P N ρ,TL ⟨c.X,c.A,compEnvC scope cl N c.env,P,fun a=>a=N⟩ ρ C ifs ifx) :
  SE c ρ (eval (.ListComp elt [⟨qD,qE,ifs,0⟩] scope pos) c.env) (we C (.comp ex tg ix ifx) ρ):=fun p Q R h q k=>by
 refine qG fun ng=>?_;refine gZ (dN h CO) fun cl hcl c1 c2=>?_;refine ng ?_;rw[eval_ListComp];refine wpAny_comprehension_free (use:=none) rfl hs hcl CO.kind CO.names (Hi p _ _ h q fun p1 iv u h1 s1 r1 q1=>?_);refine qG fun ng=>?_;refine wI (N4 q1) fun l sq q1=>?_;obtain⟨hl,q1⟩:=wE q1;refine ng ?_;refine sL (RR:=fun acc N=>compPost (model c.X.prog c.X.w) c.A (fun z0 z0=>False) none R acc N) hr CO tE c1 c2 (He cl) (Hif cl) h1 sq hl r1 q1 fun D N p2 m acc AN h2 s2 fN n2 r2 q2=>⟨m,n2,fun h' sb=>?_⟩;have E:=At.endI AN h2 (t:=p2.s.toks) sb.extBut;exact k (p2.heap h' p2.s.toks) (.lst acc) _ E.1 (s1.trans (E.2.1 p1 fN s2)) (y7.to (c:=c.it N) (p:=p2) (fun z0 z0 z0 e=>e) E.2.2 r2) q2
def XC(hr:wX c.A){y:String}{spos py:Pos}(hs:∀x,foldedSetIterable qE c.env x=pure x)(W:rV c Wr)(hy:wH c.env Wr y)(hsw:swapsWith (.ListComp elt [⟨qD,qE,ifs,0⟩] scope pos) (some (.Name (tx y) py)) spos.line c.env=pure true)
  (CO:k5 c.env scope tg) (tE:CZ tg qD) (Hi:∀ρ,SE c ρ (eval qE c.env) (we C ix ρ))
  (He:∀cl P N ρ,SE ⟨c.X,c.A,compEnvC scope cl N c.env,P,fun a=>a=N⟩ ρ (eval elt (compEnvC scope cl N c.env)) (we C ex ρ)) (Hif:∀cl P N ρ,TL ⟨c.X,c.A,compEnvC scope cl N c.env,P,fun a=>a=N⟩ ρ C ifs ifx) :
  SX c (exec (.Assign [.Name (tx y) py] (.ListComp elt [⟨qD,qE,ifs,0⟩] scope pos) spos) c.env) (ws C (.asg y (.comp ex tg ix ifx))):=fun ρ p Q R h q k=>by
 refine(dN h CO).elim fun cl zz=>?_;rw[exec_Assign_Name_used _ _ _ _ hsw];refine wpAny_bind (wpAny_standAt (wpAny_bind ?_));show wpAny _ c.A (do let _ <-comprehension (.ListComp elt [⟨qD,qE,ifs,0⟩] scope pos) scope c.env _ (newList []) false (eval qE c.env) (some (assign (.Name (tx y) py) c.env))) _ _ p.s;refine wpAny_bind (wpAny_mono (wpAny_comprehension_free (use:=some (assign (.Name (tx y) py) c.env)) (Q:=fun z0 s'=>R .next s') (E:=fun z0 z0=>False) rfl hs zz.1 CO.kind CO.names (Hi ρ p _ _ h q fun p1 iv u h1 s1 r1 q1=>?_)) (fun z0 s' hq=>wpAny_pure (wpAny_pure hq)) fun z0 z0 e=>e);refine qG fun ng=>?_;obtain⟨l,sq,q1⟩:=N4 q1;refine ng ?_;obtain⟨hl,q1⟩:=wE q1;refine sL (RR:=fun acc N=>compPost (model c.X.prog c.X.w) c.A (fun z0 z0=>False) (some (assign (.Name (tx y) py) c.env)) (fun z0 s'=>R .next s') acc N) hr CO tE zz.2.1 zz.2.2 (He cl) (Hif cl) h1 sq hl r1 q1 fun D N p2 m acc AN h2 s2 fN n2 r2 q2=>?_;have own2:∀a,c.own a->c.Pv a:=h1.g.own;refine PyProof.Rows.assign_Name (wA.any (kX (c:=c.keepI N) (v:=.lst acc) (R:=fun z0 s''=>∃m,s''.heap.Ns N m/\∀h',Heap.SameBut N s''.heap h'->R .next {s'' with heap:=h'}) ⟨W.privL,W.wr,W.apart,W.neL⟩ (h2.keepI own2) hy r2 fun p3 h3 s3 e3=>⟨m,dC (fun o e=>s3.keep N o (h2.g.nmu (.inr rfl)) (fun z=>AN.pv (own2 N z)) e) n2,fun h' sb=>?_⟩));have E:=At.endI AN h3.itI (t:=p3.s.toks) sb.extBut;exact k.next (p':=p3.heap h' p3.s.toks) E.1 (s1.trans (E.2.1 p1 fN (s2.trans (s3.wk fun z0=>.inl)))) (by show Q .next _ p3.σ; rw[e3]; exact q2)
end
section
variable{c F:Fx}{ρ ρ' ρ0:y5}{p p' p0:Mt}{C:yA}{y z iv:V}{u v w:Value}{n:Nat}{g:Bool}{a b I D N:Addr}{ob:Ob}{Wr:List String}{i:Nat}{l r:List V}{scope:Scope}{cl:List (PySem.Str×Addr)}{x:String}{m:PySem.Str->Option Value}
def lY{m:Mp}{g':Bool}{n':Nat}(z:m.set g n a g' n'=some b):(g'=g/\n'=n/\b=a)\/(¬(g'=g/\n'=n)/\m g' n'=some b):=by
 unfold Mp.set at z
 by_cases h:g'=g/\n'=n
 ·rw[if_pos h]at z; exact .inl ⟨h.1,h.2,(qN z).symm⟩
 ·rw[if_neg h]at z; exact .inr ⟨h,z⟩
def At.expose(A:UI c D)(h:At (c.it D) ρ p)(hk:p.σ.at g n=none)(r:(∀x v,(c.it D).V p x v->c.V ⟨p.m.set g n D,p.σ.set ob g n,p.s⟩ x v)->wM c ⟨p.m.set g n D,p.σ.set ob g n,p.s⟩ D ob):
  At c ρ ⟨p.m.set g n D,p.σ.set ob g n,p.s⟩/\∀p0,p0.s.heap.get? D=none->yC (c.it D).own p0 p->yC c.own p0 ⟨p.m.set g n D,p.σ.set ob g n,p.s⟩:=by
 have mn:=h.g.non g n hk;have le:Z8 p.m (p.m.set g n D):=fun g' n' b z=>(if_neg fun h=>nomatch (h.1▸h.2▸z).symm.trans mn:p.m.set g n D g' n'=p.m g' n').trans z;have mu:∀a,Mu ⟨p.m.set g n D,p.σ.set ob g n,p.s⟩ a->Mu p a\/a=D:=fun a ⟨g',n',ob',z1,z2,z3⟩=>by
  rcases lY z1 with⟨_,_,e⟩ | ⟨ne,e⟩
  ·exact .inr e
  ·exact .inl ⟨g',n',ob',e,(d5 ne).symm.trans z2,z3⟩
 have kv:∀x v,(c.it D).V p x v->c.V ⟨p.m.set g n D,p.σ.set ob g n,p.s⟩ x v:=fun x v r=>yG.mono (m:=p.m) (m':=p.m.set g n D) le.g (fun a o k q=>⟨fun z=>z.elim (fun z=>(mu a z).elim (fun z=>k (.inl z)) fun z=>k (.inr (.inr z))) fun z=>k (.inr (.inl z)),q⟩) r;have hD:=h.g.priv D (.inr rfl);have G:yJ c ⟨p.m.set g n D,p.σ.set ob g n,p.s⟩:=by
  refine⟨h.g.base,fun g' n' ob' q=>?_,fun g' n' q=>?_,fun g1 n1 g2 n2 b z1 z2=>?_,fun g' n' b q=>?_,fun b z=>h.g.priv b (.inl z),A.own,h.g.gens,h.g.os⟩
  ·by_cases e:g'=g/\n'=n
   ·obtain⟨rfl,rfl⟩:=e;have q:(p.σ.set ob g' n').at g' n'=some ob':=q;cases dK.symm.trans q;exact⟨D,if_pos ⟨rfl,rfl⟩,r kv⟩
   ·have q:(p.σ.set ob g n).at g' n'=some ob':=q;rw[d5 e]at q;exact(h.g.rep g' n' ob' q).elim fun b z=>⟨b,le _ _ _ z.1,wM.to (c:=c.it D) (p:=p) (p':=⟨p.m.set g n D,p.σ.set ob g n,p.s⟩) (A':=c.A) (env':=c.env) (Pv':=c.Pv) (own':=c.own) le.g kv (fun z0 e=>e) z.2⟩
  ·have q:(p.σ.set ob g n).at g' n'=none:=q
   by_cases e:g'=g/\n'=n
   ·obtain⟨rfl,rfl⟩:=e;cases dK.symm.trans q
   ·rw[d5 e]at q;exact(if_neg e).trans (h.g.non g' n' q)
  ·rcases lY z1 with⟨h1,h2,h3⟩ | ⟨h1,h2⟩ <;> rcases lY z2 with⟨k1,k2,k3⟩ | ⟨k1,k2⟩
   ·exact⟨h1.trans k1.symm,h2.trans k2.symm⟩
   ·exact((h.g.at_ _ _ b k2).2.2 (.inr h3)).elim
   ·exact((h.g.at_ _ _ b h2).2.2 (.inr k3)).elim
   ·exact h.g.inj _ _ _ _ _ h2 k2
  ·rcases lY q with⟨_,_,rfl⟩ | ⟨_,h2⟩
   ·exact⟨hD.2,hD.1,A.pv⟩
   ·exact⟨(h.g.at_ _ _ _ h2).1,(h.g.at_ _ _ _ h2).2.1,fun z=>(h.g.at_ _ _ _ h2).2.2 (.inl z)⟩
 refine⟨⟨G,h.e,h.ns.elim fun m q=>⟨m,q.1,fun x v e z k=>(q.2 x v e z k).elim fun u q=>⟨u,q.1,y7.to (c:=c.it D) (p:=p) le kv q.2⟩⟩,fun x v e k=>v4 (h.cells x v e k) fun b u q=>⟨b,u,q.1,q.2.1,y7.to (c:=c.it D) (p:=p) le kv q.2.2⟩,fun z=>(mu _ z).elim h.noL A.loc,fun x b e=>⟨fun z=>(mu _ z).elim (h.noC x b e).1 (A.cel x b e),(h.noC x b e).2⟩⟩,fun p0 f0 s0=>⟨fun g' n' a e=>le _ _ _ (s0.le g' n' a e),fun a o k k' q=>s0.keep a o k (fun z=>z.elim k' fun z=>gO f0 (z▸q)) q,fun a z=>(mu a z).elim (s0.new a) fun z=>.inr (z▸f0),fun g' n' a z=>?_,s0.there⟩⟩;rcases lY z with⟨_,_,rfl⟩ | ⟨_,z⟩
 ·exact .inr f0
 ·exact s0.mnew g' n' a z
def WC(hr:wX F.A){kx vx qD:Expr}{Q:List (Int×V)->St->Prop}
  (CO:k5 F.env scope (.nm x)) (tE:CZ (.nm x) qD) (c1:∀y c,cl.lookup y=some c->F.env.cells.lookup y=some c) (c2:∀y,(y,NameKind.free)∈scope.names->∃c,cl.lookup y=some c)
  (Hk:∀ρ,SE (F.inn scope cl N) ρ (eval kx (compEnvC scope cl N F.env)) (we C (.loc x) ρ)) (Hv:∀ρ,SE (F.inn scope cl N) ρ (eval vx (compEnvC scope cl N F.env)) (we C (.newg []) ρ))
  (oN:F.own N) (oD:F.own D) (nN:¬D=N) (nlN:F.env.locals≠N) (ncN:∀x b,F.env.cells.lookup x=some b->b≠N) (nlD:F.env.locals≠D) (ncD:∀x b,F.env.cells.lookup x=some b->b≠D)
  {es:List (Int×V)} {xs:List (Int×Value)} {T:Shared->Prop} (hl:es.length<=lim)
  (h:At F ρ p) (hn:p.s.heap.Ns N m) (hD:p.s.heap.DictOf (intKind F.X.prog F.X.w) D xs) (rr:y6 (fun (e:Int×V)(k:Int×Value)=>k.1=e.1/\F.V p e.2 k.2) es xs) (ru:F.V p y u)
  (q:u5 Q (y::r) es p.σ)
  (k:∀p' es' xs' m',es'.length<=es.length+1->At F ρ p'->yC (fun a=>a=N\/a=D) p p'->p'.s.heap.DictOf (intKind F.X.prog F.X.w) D xs'->y6 (fun (e:Int×V)(k:Int×Value)=>k.1=e.1/\F.V p' e.2 k.2) es' xs'->p'.s.heap.Ns N m'->u5 Q r es' p'.σ->T p'.s) :
  wA F (assign qD (compEnvC scope cl N F.env) u) (fun z0 s₂=>wA F (eval kx (compEnvC scope cl N F.env)) (fun kv s₄=>wA F (eval vx (compEnvC scope cl N F.env)) (fun vv s₅=>wA F (dictSet D kv vv) (fun z0 s₆=>T s₆) s₅) s₄) s₂) p.s:=by
 refine qG fun ng=>?_;obtain⟨j,rfl,q⟩:=j5 q;refine ng ?_;refine i6 (c:=F.inn scope cl N) (tg:=.nm x) (x:=.int j) hr tE ((⟨rfl,fun x hx=>((absurd hx qW)),fun x hx=>((absurd hx qW)),fun x d e=>ncN x d (c1 _ _ e)⟩:rV (F.inn scope cl N) [])) (fun x hx=>.inl (vX.mpr (CO.tgt x hx))) rfl ((VC CO c1 c2 h (h.g.own N oN) hn:At (F.inn scope cl N) (nD scope ρ) p)) (yG.tt ru) fun p5 h5 s5 e5=>?_;refine Hk _ p5 (fun v σ=>v=.int j/\t8 true (.list []) (fun v σ'=>u5 Q r (xQ es j v) σ') σ) _ h5 ?_ fun p6 v6 u6 h6 s6 r6 q6=>?_
 ·show ll (y5.set (nD scope ρ) x (.int j) x) _;exact(show y5.set (nD scope ρ) x (.int j) x=some (.int j)from if_pos rfl)▸(⟨rfl,by rw[e5]; exact q⟩)
 obtain⟨rfl,q6⟩:=q6;obtain⟨t,rfl⟩:=r6.int;refine Hv _ p6 (fun v σ=>g9 v=true/\u5 Q r (xQ es j v) σ) _ h6 (show t8 true (.list []) (fun v σ=>g9 v=true/\u5 Q r (xQ es j v) σ) p6.σ from eF q6 fun k z0 z=>⟨rfl,z⟩) fun p7 v7 u7 h7 s7 r7 q7=>?_;have st7:yC (fun a=>a=N) p p7:=(s5.trans s6).trans s7;have rr7:y6 (fun (e:Int×V)(k:Int×Value)=>k.1=e.1/\F.V p7 e.2 k.2) es xs:=rr.mono fun z0 z0 r=>⟨r.1,yG.step h.g (st7.one oN) r.2⟩;refine qG fun ng=>?_;refine wI (h7.ns) fun m7 n7 z0=>?_;refine ng ?_;refine wpAny_dictSet_pairs (intKind_is _ _ j t) ((Heap.DictOf.at hD fun o e=>st7.keep D o (h.g.nmu (h.g.own D oD)) nN e:p7.s.heap.DictOf (intKind F.X.prog F.X.w) D xs)) (fun h8 D8 sb8=>?_) (by rw[<-rr7.length]; exact qF hl (by decide));have U:=(h.back oN nlN ncN h7.g st7).touch (t:=p7.s.toks+1) oD nlD ncD sb8 (gE D8 fun o es ep d=>⟨o,d.1⟩);refine k (p7.heap h8 (p7.s.toks+1)) (xQ es j v7) (stored xs j u7) m7 ?_ U.1 ((st7.wk fun z0=>.inl).trans (U.2.1.wk fun z0=>.inr)) D8 (kI (f:=id) id (U.2.2 _ _ (r7.gv q7.1)) (rr7.mono fun z0 z0 z=>⟨z.1,U.2.2 _ _ z.2⟩)) (dC (fun o e=>(sb8.2 N fun z=>nN z.symm).trans e) n7) q7.2;unfold xQ
 split
 ·rw[qH]; exact Nat.le_succ _
 ·exact qK (qM ..)
end
set_option genCtorIdx false in
structure DL (F:Fx) (N D:Addr) (l:List V) (W:List V->List (Int×V)->St->Prop) (b:List (Int×V)×List (Int×Value)×(PySem.Str->Option Value)) (i:Nat) (p:Mt):Prop where
 le:b.1.length<=i
 dict:p.s.heap.DictOf (intKind F.X.prog F.X.w) D b.2.1
 rep:y6 (fun (e:Int×V)(k:Int×Value)=>k.1=e.1/\F.V p e.2 k.2) b.1 b.2.1
 ns:p.s.heap.Ns N b.2.2
 w:W (l.drop i) b.1 p.σ
section
variable{c F:Fx}{ρ ρ' ρ0:y5}{p p' p0:Mt}{C:yA}{y z iv:V}{u v w:Value}{n:Nat}{g:Bool}{a b I D N:Addr}{ob:Ob}{Wr:List String}{i:Nat}{l r:List V}{scope:Scope}{cl:List (PySem.Str×Addr)}{x:String}{m:PySem.Str->Option Value}
def FH{h:Heap}{prog:Program}{w:World}(e:h.get? D=some {cls:=.type "dict",data:=.dict #[]}):h.DictOf (intKind prog w) D []:=⟨_,_,_,e,⟨rfl,rfl,rfl⟩,rfl,fun e he=>absurd he (Array.not_mem_empty e),.nil,.nil⟩
def WB(hr:wX c.A){kx vx qD qE:Expr}{pos:Pos}{Q:Kv}{RR:Value->Addr->Result->Shared->Prop}
  (CO:k5 c.env scope (.nm x)) (tE:CZ (.nm x) qD) (c1:∀y d,cl.lookup y=some d->c.env.cells.lookup y=some d) (c2:∀y,(y,NameKind.free)∈scope.names->∃c,cl.lookup y=some c)
  (Hk:∀P N ρ,SE ⟨c.X,c.A,compEnvC scope cl N c.env,P,fun a=>a=N⟩ ρ (eval kx (compEnvC scope cl N c.env)) (we C (.loc x) ρ)) (Hv:∀P N ρ,SE ⟨c.X,c.A,compEnvC scope cl N c.env,P,fun a=>a=N⟩ ρ (eval vx (compEnvC scope cl N c.env)) (we C (.newg []) ρ))
  (h:At c ρ p) (hl:l.length<=lim) (r:y7 c p (.tup l) u) (q:u5 (fun es σ=>t8 true (.dI es) Q σ) l [] p.σ)
  (k:∀D N p' m v,UI c N->At (c.it N) ρ p'->yC (c.it N).own p p'->p.s.heap.get? N=none->p'.s.heap.Ns N m->y7 (c.it N) p' v (.ref D)->Q v p'.σ->RR (.ref D) N (.ok .next) p'.s) :
  wA c (pyIter u) (fun it s2=>wA c newDict (fun acc s3=>wA c (newFunctionEnv scope c.env.globals cl [] c.env.qual none .none (some c.env)) (fun cenv s4 =>
   codeAny (model c.X.prog c.X.w) c.A (.compStart (.DictComp kx vx [⟨qD,qE,[],0⟩] scope pos) 0 it acc {cenv with scope:=relabel scope c.env}) (RR acc cenv.locals) s4) s3) s2) p.s :=
 A1 (o:={cls:=.type "dict",data:=.dict #[]}) rfl (fun s R q=>wpAny_bind (wpAny_alloc (wpAny_pure q))) CO h (iv:=.tup l) (l:=l) rfl r fun I D N p5 CC =>
  have core:codeAny (model c.X.prog c.X.w) c.A (.compLoop (.DictComp kx vx [⟨qD,qE,[],0⟩] scope pos) 0 (.ref I) (.ref D) (compEnvC scope cl N c.env)) (RR (.ref D) N) p5.s :=
   iZ (LI c p ρ I D N (.tup l) l (DL (((c.it D).it N).it I) N D l fun r es σ=>u5 (fun es σ=>t8 true (.dI es) Q σ) r es σ))
    (fun n s3 Z=>Z.next CC hr (fun i p3 b y u p4 en hy g3 src hb h4 s4 e4 ru it4 nx=>J2 it4 (WC (F:=((c.it D).it N).it I)
      hr CO tE c1 c2 (Hk _ N) (Hv _ N) (.inl (.inr rfl)) (.inl (.inl (.inr rfl))) CC.nDN CC.AN.loc CC.AN.cel CC.AD.loc CC.AD.cel (qF hb.le (qF (z9 (tW hy).2) hl)) h4
      (dC (fun o e=>s4.keep N o (g3.nmu (.inl (.inr rfl))) CC.nNI e) hb.ns) (Heap.DictOf.at hb.dict fun o e=>s4.keep D o (g3.nmu (.inl (.inl (.inr rfl)))) CC.nDI e) (hb.rep.mono fun z0 z0 r=>⟨r.1,yG.step g3 (s4.one (.inr rfl)) r.2⟩) ru (Eq.mp (congr (congrArg (fun r=>u5 (fun es σ=>t8 true (.dI es) Q σ) r b.1) (tW hy).1) e4.symm) hb.w) fun p7 es' xs' m' le h7 s7 D7 rr7 n7 w7 =>
       nx (es',xs',m') p7 h7 s7 rfl ⟨qF le (z7 hb.le),D7,rr7,n7,w7⟩))
     fun i p3 b hb hy h' he E =>
      Exists.elim (Eq.mp (congrArg (fun r=>u5 (fun es σ=>t8 true (.dI es) Q σ) r b.1 p3.σ) (List.drop_eq_nil_of_le (List.getElem?_eq_none_iff.mp hy))) hb.w:t8 true (.dI b.1) Q p3.σ) fun g w =>
       k D N ⟨p3.m.set true g D,p3.σ.set (.dI b.1) true g,{p3.s with heap:=h'}⟩ b.2.2 (.ref true g) CC.AN (At.expose (c:=c.it N) (g:=true) (n:=g) (ob:=.dI b.1) (CC.AD.it CC.nDN) E.1 (gM (xY w).1) fun kv2=>⟨b.2.1,Heap.DictOf.at hb.dict fun o e=>he D o CC.nDI e,hb.rep.mono fun x v r=>⟨r.1,kv2 x.2 v.2 (E.2.2 x.2 v.2 r.2)⟩⟩).1 ((At.expose (c:=c.it N) (g:=true) (n:=g) (ob:=.dI b.1) (CC.AD.it CC.nDN) E.1 (gM (xY w).1) fun kv2=>⟨b.2.1,Heap.DictOf.at hb.dict fun o e=>he D o CC.nDI e,hb.rep.mono fun x v r=>⟨r.1,kv2 x.2 v.2 (E.2.2 x.2 v.2 r.2)⟩⟩).2 p CC.fD E.2.1) CC.fN (dC (fun o e=>he N o CC.nNI e) hb.ns) ⟨D,if_pos ⟨rfl,rfl⟩,rfl⟩ (xY w).2)
    l.length ⟨0,p5,rfl,rfl,CC.at_,CC.st,CC.it,rfl,CC.ns.elim fun m n=>⟨([],[],m),qT 0,FH CC.hD,trivial,n,CC.σ▸q⟩⟩
  codeAny_compStart_dict core (wA.any (c:=((c.it D).it N).it I) (sZ CC.it core))
def QN(hr:wX c.A){kx vx qD qE:Expr}{pos:Pos}{ix:Ex}{y:String}{spos py:Pos}(hs:∀x,foldedSetIterable qE c.env x=pure x)(W:rV c Wr)(hy:wH c.env Wr y)(hsw:swapsWith (.DictComp kx vx [⟨qD,qE,[],0⟩] scope pos) (some (.Name (tx y) py)) spos.line c.env=pure true)
  (CO:k5 c.env scope (.nm x)) (tE:CZ (.nm x) qD) (Hi:∀ρ,SE c ρ (eval qE c.env) (we C ix ρ))
  (Hk:∀cl P N ρ,SE ⟨c.X,c.A,compEnvC scope cl N c.env,P,fun a=>a=N⟩ ρ (eval kx (compEnvC scope cl N c.env)) (we C (.loc x) ρ)) (Hv:∀cl P N ρ,SE ⟨c.X,c.A,compEnvC scope cl N c.env,P,fun a=>a=N⟩ ρ (eval vx (compEnvC scope cl N c.env)) (we C (.newg []) ρ)) :
  SX c (exec (.Assign [.Name (tx y) py] (.DictComp kx vx [⟨qD,qE,[],0⟩] scope pos) spos) c.env) (ws C (.asg y (.dcomp x ix))):=fun ρ p Q R h q k=>by
 refine qG fun ng=>?_;refine gZ (dN h CO) fun cl hcl c1 c2=>?_;refine ng ?_;rw[exec_Assign_Name_used _ _ _ _ hsw];refine wpAny_bind (wpAny_standAt (wpAny_bind ?_));refine wpAny_bind (wpAny_mono (wpAny_comprehension_free (use:=some (assign (.Name (tx y) py) c.env)) (Q:=fun z0 s'=>R .next s') (E:=fun z0 z0=>False) rfl hs hcl CO.kind CO.names (Hi ρ p _ _ h q fun p1 iv u h1 s1 r1 q1=>?_)) (fun z0 s' hq=>wpAny_pure (wpAny_pure hq)) fun z0 z0 e=>e);refine qG fun ng=>?_;obtain⟨l,rfl,q2⟩:=K6 q1;refine(wE q2).elim fun hl q2=>?_;refine ng ?_;refine WB (RR:=fun acc N=>compPost (model c.X.prog c.X.w) c.A (fun z0 z0=>False) (some (assign (.Name (tx y) py) c.env)) (fun z0 s'=>R .next s') acc N) hr CO tE c1 c2 (Hk cl) (Hv cl) h1 hl r1 q2 fun D N p2 m v AN h2 s2 fN n2 r2 q2=>?_;refine PyProof.Rows.assign_Name (wA.any (kX (c:=c.keepI N) (v:=v) (R:=fun z0 s''=>∃m,s''.heap.Ns N m/\∀h',Heap.SameBut N s''.heap h'->R .next {s'' with heap:=h'}) ⟨W.privL,W.wr,W.apart,W.neL⟩ (h2.keepI (h1.g.own:∀a,c.own a->c.Pv a)) hy ((y7.to (c:=c.it N) (c':=c.keepI N) (p:=p2) (p':=p2) (fun z0 z0 z0 e=>e) (fun z0 z0 r=>r) r2:y7 (c.keepI N) p2 v (.ref D))) fun p3 h3 s3 e3=>⟨m,dC (fun o e=>s3.keep N o (h2.g.nmu (.inr rfl)) (fun z=>AN.pv ((h1.g.own:∀a,c.own a->c.Pv a) N z)) e) n2,fun h' sb=>?_⟩));exact k.next (p':=p3.heap h' p3.s.toks) (At.endI AN h3.itI (t:=p3.s.toks) sb.extBut).1 (s1.trans ((At.endI AN h3.itI (t:=p3.s.toks) sb.extBut).2.1 p1 fN (s2.trans (s3.wk fun z0=>.inl)))) (by show Q .next _ p3.σ; rw[e3]; exact q2)
end
def tM{ps:List PySem.Str}{vals:List Value}(h:ps.length=vals.length):(ps.zip vals).map (·.1)=ps:=List.map_fst_zip (qK h)
theorem kH{α:Type}:∀{l:List (PySem.Str×α)}{x:PySem.Str}{u:α},(l.map (·.1)).Nodup->(x,u)∈l->l.lookup x=some u
 | (n,k)::r,x,u,nd,m=>by
  rw[List.lookup_cons];refine(qV.mp m).elim (fun z=>?_) fun z=>?_
  ·cases z; rw[beq_self_eq_true]
  ·exact(zV.mpr fun y:x=n=>(List.nodup_cons.mp nd).1 (zC.mpr ⟨_,z,y⟩))▸(kH (List.nodup_cons.mp nd).2 z)
abbrev Sl:=List (PySem.Str×Value)
def has(sl:Sl)(n:PySem.Str):Prop:=(sl.lookup n).isSome=true
def BC{sl:Sl}{n:PySem.Str}(h:has sl n):¬(sl.lookup n).isNone=true:=fun z=>by
 unfold has at h;rw[Option.isNone_iff_eq_none.mp z]at h; cases h
def lT{ps:List PySem.Str}{vs:List Value}{n:PySem.Str}(nd:ps.Nodup)(h:ps.length=vs.length)(m:n∈ps):has (ps.zip vs) n:=by
 have q:n∈(ps.zip vs).map (·.1):=(tM h).symm▸m;refine(zC.mp q).elim fun x q=>?_;unfold has;rw[kH ((tM h).symm▸nd) (q.2▸q.1:(n,x.2)∈ps.zip vs)]; rfl
def E9{f:PySem.Str->Option (PySem.Str×Value)}{ps:List PySem.Str}:∀{vs:List Value},ps.length=vs.length->(∀x∈ps.zip vs,f x.1=some x)->ps.filterMap f=ps.zip vs:=by
 induction ps with
 | nil=>exact fun z0 z0=>rfl
 | cons p ps ih=>exact fun {vs} e h=>by cases vs with
  | nil=>exact absurd e (Nat.succ_ne_zero _)
  | cons v vs=>exact(List.filterMap_cons_some (h (p,v) (.head _))).trans (congrArg _ (ih (Nat.succ.inj e) fun x hx=>h x (.tail _ hx)))
noncomputable def SD(n:PySem.Str×Value)(sl:Sl):Sem (ForInStep Sl):=if (sl.lookup n.1).isNone=true then pure (.yield (sl++[(n.1,n.2)]))else pure (.yield sl)
noncomputable def GV(ps:List PySem.Str)(sl:Sl):Sl:=ps.filterMap fun n=>(sl.lookup n).map (n,·)
noncomputable def GW(e1 e2:Sem Sl)(ps:List PySem.Str)(args ds:List Value):Sem Sl :=
 if (decide (args.length>ps.length)&&true)=true then e1
 else if (!((ps.take (ps.length-(ds.drop (ds.length-ps.length)).length)).filter fun n=>((ps.zip args).lookup n).isNone).isEmpty)=true then e2
 else forIn ((ps.drop (ps.length-(ds.drop (ds.length-ps.length)).length)).zip (ds.drop (ds.length-ps.length))) (ps.zip args) SD >>= fun sl=>pure (GV (ps++[]) sl)
def cX{fd:FuncData}{args:List Value}(hp:fd.params.posonlyargs=[])(hv:fd.params.vararg=none)(hk:fd.params.kwonlyargs=[])(hkw:fd.params.kwarg=none):
  ∃K,bindArgs fd ⟨args,[]⟩=seqItems? fd.defaults >>= K/\∀r,∃e1 e2,K r=GW e1 e2 (fd.params.args.map (·.arg)) args (r.getD #[]).toList:=by
 obtain⟨nm,ql,⟨po,as,va,ko,kd,kwg,dfl⟩,bd,sc,gl,cl,dv,kv,dc,pm,an,cd,ct,bt⟩:=fd;dsimp only at hp hv hk hkw;subst hp hv hk hkw;exact⟨_,rfl,fun r=>⟨_,_,rfl⟩⟩
section
variable{M:Model}{A:Around}{E:Value->Shared->Prop}{s:Shared}{Q:Sl->Shared->Prop}
theorem sS:∀(L sl:Sl),((sl++L).map (·.1)).Nodup->Q (sl++L) s->wpAny M A (forIn L sl SD) Q E s
 | [],sl,_,h=>wpAny_pure (qS sl▸h)
 | x::L,sl,nd,h=>by
  have e:sl++x::L=sl++[x]++L:=(qZ sl [x] L).symm;have n:(sl.lookup x.1).isNone=true:=by
   rw[qU]at nd;have n:x.1∉sl.map (·.1):=fun m=>(List.nodup_append.mp nd).2.2 _ m _ (.head _) rfl;rw[List.lookup_eq_none_iff.mpr fun p hp=>bne_iff_ne.mpr fun e=>n (zC.mpr ⟨p,hp,e.symm⟩)]; rfl
  rw[List.forIn_cons];exact wpAny_bind ((show SD x sl=_ from if_pos n).symm▸wpAny_pure (sS L (sl++[x]) (e▸nd) (e▸h)))
theorem eV{sl:Sl}(q:Q sl s):∀L:Sl,(∀p∈L,has sl p.1)->wpAny M A (forIn L sl SD) Q E s
 | [],_=>wpAny_pure q
 | x::L,h=>by
  rw[List.forIn_cons];exact wpAny_bind ((show SD x sl=_ from if_neg (BC (h x (.head _)))).symm▸wpAny_pure (eV q L fun p hp=>h p (.tail _ hp)))
def ZC{e1 e2:Sem Sl}{ps:List PySem.Str}{args ds z:List Value}(nd:ps.Nodup)(hc:(args.length=ps.length/\z=[])\/(args.length+ds.length=ps.length/\z=ds))(h:Q (ps.zip (args++z)) s):wpAny M A (GW e1 e2 ps args ds) Q E s:=by
 have hl:args.length<=ps.length:=hc.elim (fun h=>qK h.1) fun h=>h.1▸qJ ..;have lz:ps.length=(args++z).length:=by
  exact Eq.mpr (congrArg _ (qM)) (hc.elim (fun h=>h.2▸h.1.symm) fun h=>h.2▸h.1.symm)
 have fin:Q (GV (ps++[]) (ps.zip (args++z))) s:=by
  exact(qS ps).symm▸(show GV ps (ps.zip (args++z))=_ from E9 lz fun x hx=>by rw[kH ((tM lz).symm▸nd) hx]; rfl).symm▸h
 have run:∀{l r:List PySem.Str}{d:List Value},(∀n∈l,has (ps.zip args) n)->wpAny M A (forIn (r.zip d) (ps.zip args) SD) (fun sl s=>wpAny M A (pure (GV (ps++[]) sl)) Q E s) E s->wpAny M A (if (decide (args.length>ps.length)&&true)=true then e1
 else if (!(l.filter fun n=>((ps.zip args).lookup n).isNone).isEmpty)=true then e2
 else forIn (r.zip d) (ps.zip args) SD >>= fun sl=>pure (GV (ps++[]) sl)) Q E s:=fun hm H=>by
  exact(if_neg fun z=>Nat.not_lt_of_le hl (zT ((Bool.and_true _).symm.trans z))).symm▸(List.filter_eq_nil_iff.mpr fun n hn=>BC (hm n hn)).symm▸(wpAny_bind H)
 unfold GW;refine hc.elim (fun h=>?_) fun h=>?_
 ·obtain⟨hk,rfl⟩:=h;rw[qS args]at fin;exact run (fun n hn=>((fun n hn=>lT nd hk.symm hn:∀n∈ps,has (ps.zip args) n)) n (List.mem_of_mem_take hn)) (eV (wpAny_pure fin) _ fun p hp=>((fun n hn=>lT nd hk.symm hn:∀n∈ps,has (ps.zip args) n)) _ (List.mem_of_mem_drop (List.of_mem_zip (a:=p.1) (b:=p.2) hp).1))
 ·obtain⟨hk,rfl⟩:=h;rw[(((Nat.sub_eq_zero_of_le (hk▸qP ..)).symm▸rfl:z.drop (z.length-ps.length)=z)),Nat.sub_eq_of_eq_add hk.symm];have za:ps.zip args=(ps.take args.length).zip args:=by
   have:=List.zip_append (l₁:=ps.take args.length) (r₁:=ps.drop args.length) (l₂:=args) (r₂:=[]) ((List.length_take_of_le hl:(ps.take args.length).length=args.length))
   rwa [(List.take_append_drop args.length ps),qS,List.zip_nil_right,qS]at this
  have zz:ps.zip args++(ps.drop args.length).zip z=ps.zip (args++z):=by
   rw[za,<-List.zip_append ((List.length_take_of_le hl:(ps.take args.length).length=args.length)),(List.take_append_drop args.length ps)]
  exact run (fun n hn=>za▸lT (nd.sublist (List.take_sublist ..)) ((List.length_take_of_le hl:(ps.take args.length).length=args.length)) hn) (sS _ _ ((zz).symm▸((tM lz).symm▸nd)) (zz.symm▸wpAny_pure fin))
end
def WV{l:List (PySem.Str×Value)}{x:PySem.Str}{u:Value}(nd:(l.map (·.1)).Nodup)(m:(x,u)∈l):l.reverse.lookup x=some u :=
 kH (by rw[List.map_reverse]; exact(List.reverse_perm _).nodup_iff.mpr nd) (List.mem_reverse.mpr m)
theorem sH{kf:PySem.Str->Option NameKind}:∀{l:List (PySem.Str×Value)}{m:PySem.Str->Option Value}{x:PySem.Str}{u:Value},(l.map (·.1)).Nodup->kf x=some .local->((x,u)∈l\/(x∉l.map (·.1)/\m x=some u))->bindL kf l m x=some u
 | [],m,x,u,_,_,h=>h.elim (fun h=>(absurd h qW)) fun h=>h.2
 | (n,v)::r,m,x,u,nd,hk,h=>by
  obtain⟨nd1,nd2⟩:=List.nodup_cons.mp nd;unfold bindL;refine sH nd2 hk ?_;rcases h with h | ⟨h1,h2⟩
  ·rcases qV.mp h with z | z
   ·cases z;refine .inr ⟨nd1,?_⟩;rw[if_pos hk]; exact if_pos rfl
   ·exact .inl z
  ·refine .inr ⟨fun z=>h1 (.tail _ z),?_⟩
   split
   ·exact(if_neg (fun e=>h1 (by rw[e]; exact .head _)):(if x=n then some v else m x)=m x).trans h2
   ·exact h2
theorem sG{kf:PySem.Str->Option NameKind}:∀{l:List (PySem.Str×Value)}{m:PySem.Str->Option Value}{x:PySem.Str}{u:Value},(l.map (·.1)).Nodup->kf x≠some .local->((x,u)∈l\/(x∉l.map (·.1)/\m x=some u))->bindC kf l m x=some u
 | [],m,x,u,_,_,h=>h.elim (fun h=>(absurd h qW)) fun h=>h.2
 | (n,v)::r,m,x,u,nd,hk,h=>by
  obtain⟨nd1,nd2⟩:=List.nodup_cons.mp nd;unfold bindC;refine sG nd2 hk ?_;rcases h with h | ⟨h1,h2⟩
  ·rcases qV.mp h with z | z
   ·cases z;refine .inr ⟨nd1,?_⟩;rw[if_neg hk]; exact if_pos rfl
   ·exact .inl z
  ·refine .inr ⟨fun z=>h1 (.tail _ z),?_⟩
   split
   ·exact h2
   ·exact(if_neg (fun e=>h1 (by rw[e]; exact .head _)):(if x=n then some v else m x)=m x).trans h2
set_option genCtorIdx false in
structure q0L (d:x6) (fd:FuncData) (b:List Stmt):Prop where
 po:fd.params.posonlyargs=[]
 ps:fd.params.args.map (·.arg)=d.params.map tx
 va:fd.params.vararg=none
 ko:fd.params.kwonlyargs=[]
 kw:fd.params.kwarg=none
 nd:((d.caps++d.params).map tx).Nodup
 kind:fd.scope.kind=.function
 co:fd.scope.isCoroutine=false
 gen:fd.scope.isGenerator=false
 glob:fd.globals=mainGlobals
 blt:fd.builtins=builtinsNs
 body:fd.body=.stmts b
 par:∀x∈d.params,fd.scope.names.lookup (tx x)=some .local\/fd.scope.names.lookup (tx x)=some .cell
 caps:∀x∈d.caps,fd.scope.names.lookup (tx x)=some .free
 free:∀y,fd.scope.names.lookup y=some .free->∃x∈d.caps,tx x=y
 alone:(∀x∈fd.scope.names,x.2≠.cell)\/d.caps=[]
section
variable{ρ ρ':y5}{T:V->Value->Prop}{x:String}{v:V}{h:Heap}
def CE:∀{ps:List String}{vs:List V}{ρ:y5},y5.sets ρ ps vs=some ρ'->ρ' x=some v->(x,v)∈ps.zip vs\/ρ x=some v:=by
 intro ps
 induction ps with
 | nil=>intro vs ρ e h; cases vs with
  | nil=>cases e; exact .inr h
  | cons _ _=>cases e
 | cons p ps ih=>intro vs ρ e h; cases vs with
  | nil=>cases e
  | cons w vs =>
   refine(ih e h).elim (fun z=>?_) fun z=>?_
   ·exact .inl (.tail _ z)
   ·rcases aL z with⟨rfl,rfl⟩ | ⟨_,z⟩
    ·exact .inl (.head _)
    ·exact .inr z
def LG:∀{xs:List String}{vs:List V}{us:List Value},(x,v)∈xs.zip vs->y6 T vs us->∃u,(tx x,u)∈(xs.map tx).zip us/\T v u:=by
 intro xs
 induction xs with
 | nil=>intro vs us m; cases m
 | cons y xs ih=>intro vs us m r; cases vs with
  | nil=>cases m
  | cons w vs=>cases us with
   | nil=>exact r.elim
   | cons u us =>
    rcases qV.mp m with z | z
    ·cases z; exact⟨u,.head _,r.1⟩
    ·exact(ih z r.2).elim fun u q=>⟨u,.tail _ q.1,q.2⟩
def F9{S:Addr->Value->Prop}:∀{xs:List String}{vs:List V}{us:List Value}{cl:List (PySem.Str×Addr)},(x,v)∈xs.zip vs->y6 T vs us->y6 (fun x (c:PySem.Str×Addr)=>c.1=tx x) xs cl->y6 (fun (c:PySem.Str×Addr)u=>S c.2 u) cl us->∃a u,(tx x,a)∈cl/\S a u/\T v u:=by
 intro xs
 induction xs with
 | nil=>intro vs us cl m; cases m
 | cons y xs ih=>intro vs us cl m r n s; cases vs with
  | nil=>cases m
  | cons w vs=>cases us with
   | nil=>exact r.elim
   | cons u us=>cases cl with
    | nil=>exact n.elim
    | cons k cl =>
     rcases qV.mp m with z | z
     ·cases z; exact⟨k.2,u,by rw[<-n.1]; exact .head _,s.1,r.1⟩
     ·exact v4 (ih z r.2 n.2 s.2) fun a u q=>⟨a,u,.tail _ q.1,q.2⟩
theorem YK:∀{xs:List String}{cl:List (PySem.Str×Addr)},y6 (fun x (c:PySem.Str×Addr)=>c.1=tx x) xs cl->cl.map (·.1)=xs.map tx
 | [],[],_=>rfl
 | _::_,_::_,a=>by rw[List.map_cons,List.map_cons,YK a.2,a.1]
def y6.mem_l{α β:Type}{R:α->β->Prop}:∀{l:List α}{m:List β}{x:α},y6 R l m->x∈l->∃y∈m,R x y
 | _::_,y::_,_,a,.head _=>⟨y,.head _,a.1⟩
 | _::_,_::_,_,a,.tail _ z=>(a.2.mem_l z).elim fun y q=>⟨y,.tail _ q.1,q.2⟩
 | [],_,_,_,z=>(absurd z qW)
end
section
variable{c:Fx}{p:Mt}{ρ:y5}{A':Around}{env:Env}{P:Addr->Prop}{s':Shared}{Wr:List String}{d:x6}{fd:FuncData}{b:List Stmt}{x:String}{v:V}
def yJ.fresh'(G:yJ c p)(k:∀b o,p.s.heap.get? b=some o->s'.heap.get? b=some o)(f:∀a,P a->p.s.heap.get? a=none/\∃o,s'.heap.get? a=some o)(hg:s'.gens=p.s.gens)(ho:s'.os=p.s.os):
  yJ ⟨c.X,A',env,fun a=>c.Pv a\/P a,P⟩ ⟨p.m,p.σ,s'⟩/\∀x v,c.V p x v->Fx.V ⟨c.X,A',env,fun a=>c.Pv a\/P a,P⟩ ⟨p.m,p.σ,s'⟩ x v:=by
 have kv:∀x v,c.V p x v->Fx.V ⟨c.X,A',env,fun a=>c.Pv a\/P a,P⟩ ⟨p.m,p.σ,s'⟩ x v:=fun x v r=>yG.mono (m:=p.m) (m':=p.m) (fun z0 z0 e=>e) (fun a q n e=>⟨fun z=>z.elim (fun z=>n (.inl z)) fun z=>z.elim (fun z=>n (.inr z)) fun z=>gO (f a z).1 e,k a q e⟩) r;refine⟨⟨fun b q e=>k b q (G.base b q e),fun g n ob e=>(G.rep g n ob e).elim fun a q=>⟨a,q.1,wM.to (c:=c) (p:=p) (p':=⟨p.m,p.σ,s'⟩) (fun z0 z0 e=>e) kv (k a) q.2⟩,G.non,G.inj,fun g n a e=>⟨(G.at_ g n a e).1.elim fun q z=>⟨q,k _ _ z⟩,(G.at_ g n a e).2.1,fun z=>z.elim (G.at_ g n a e).2.2 fun z=>(G.at_ g n a e).1.elim fun q y=>gO (f a z).1 y⟩,
  fun a z=>z.elim (fun z=>⟨(G.priv a z).1,(G.priv a z).2.elim fun q y=>⟨q,k _ _ y⟩⟩) fun z=>⟨?_,(f a z).2⟩,fun a z=>.inr z,hg.trans G.gens,ho.trans G.os⟩,kv⟩
 cases e:c.X.H.get? a with
 | none=>rfl
 | some o=>exact nomatch (f a z).1.symm.trans (G.base _ o e)
def LE{α β:Type}{l l':List α}{m m':List β}(h:l.length=m.length){x:α×β}(z:x∈(l++l').zip (m++m')):x∈l.zip m\/x∈l'.zip m':=by
 rw[List.zip_append h]at z;exact zH.mp z
def ZR(FS:q0L d fd b){cap vs:List V}{vals us:List Value}{qual:PySem.Str}{a:Option Addr}{R:Env->Shared->Prop}(hw:∀x∈Wr,fd.scope.names.lookup (tx x)=some .cell)(e:y5.sets xV (d.caps++d.params) (cap++vs)=some ρ)(hlc:d.caps.length=cap.length)(hlp:d.params.length=vs.length)(G:yJ c p)(rv:y6 (c.V p) vs vals)
  (rn:y6 (fun x (k:PySem.Str×Addr)=>k.1=tx x) d.caps fd.closure) (rc:y6 (fun (k:PySem.Str×Addr)u=>¬NN c.Pv p k.2/\p.s.heap.IsCell k.2 (some u)) fd.closure us) (ru:y6 (c.V p) cap us)
  (k:∀env P s',env.scope=fd.scope->env.code=fd.code->(∃L,env.frame=some L)->(∀b o,p.s.heap.get? b=some o->s'.heap.get? b=some o)->(∀a,P a->p.s.heap.get? a=none)->(∀A',At ⟨c.X,A',env,fun a=>c.Pv a\/P a,P⟩ ρ ⟨p.m,p.σ,s'⟩/\rV ⟨c.X,A',env,fun a=>c.Pv a\/P a,P⟩ Wr)->R env s') :
  wA c (newFunctionEnv fd.scope fd.globals fd.closure ((d.params.map tx).zip vals) qual a fd.code none fd.builtins) R p.s:=by
 have nd:(d.caps.map tx++d.params.map tx).Nodup:=qU (f:=tx)▸FS.nd;have hnd:(((d.params.map tx).zip vals).map (·.1)).Nodup:=by rw[tM ((by rw[qH,hlp,rv.length]:(d.params.map tx).length=vals.length))]; exact(List.nodup_append.mp nd).2.1
 have hcl:(fd.closure.map (·.1)).Nodup:=by rw[YK rn]; exact(List.nodup_append.mp nd).1
 have val:∀x v,ρ x=some v->(∃u,(tx x,u)∈(d.params.map tx).zip vals/\c.V p v u/\x∈d.params)\/∃b u,(tx x,b)∈fd.closure/\(¬NN c.Pv p b/\p.s.heap.IsCell b (some u))/\c.V p v u/\x∈d.caps:=fun x v h=>by
  refine(CE e h).elim (fun z=>?_) fun z=>?_
  ·rcases LE hlc z with z | z
   ·exact .inr (v4 (F9 (S:=fun b u=>¬NN c.Pv p b/\p.s.heap.IsCell b (some u)) z ru rn rc) fun b u q=>⟨b,u,q.1,q.2.1,q.2.2,(List.of_mem_zip z).1⟩)
   ·exact .inl ((LG z rv).elim fun u q=>⟨u,q.1,q.2,(List.of_mem_zip z).1⟩)
  ·cases z
 have pin:∀y∈(d.params.map tx).zip vals,∃x∈d.params,tx x=y.1:=fun y hy=>zC.mp (List.of_mem_zip (a:=y.1) (b:=y.2) hy).1;have fL:p.s.heap.get? p.s.heap.objs.size=none:=yI _
 by_cases hno:∀x∈fd.scope.names,x.2≠.cell
 ·have hpl:∀x∈d.params,fd.scope.names.lookup (tx x)=some .local:=fun x hx=>(FS.par x hx).resolve_right fun z=>hno _ (yT z) rfl;refine wpAny_newFunctionEnv hno (fun y hy=>(pin y hy).elim fun x q=>q.2▸hpl x q.1) (fun h' hn sb=>?_) FS.kind;have kk:∀b o,p.s.heap.get? b=some o->h'.get? b=some o:=fun b o e=>sb.extBut b o (fun z=>gO fL (z▸e)) (zX _ e);refine k _ (fun a=>a=p.s.heap.objs.size) _ rfl rfl ⟨_,rfl⟩ kk (fun a z=>z▸fL) fun A'=>?_;have G':=G.fresh' (A':=A') (env:=newEnv fd.scope p.s.heap.objs.size fd.globals fd.closure qual a fd.code none fd.builtins) (P:=fun a=>a=p.s.heap.objs.size) (s':={p.s with heap:=h',toks:=p.s.toks+((d.params.map tx).zip vals).length}) kk (fun a z=>⟨z▸fL,z▸kT hn⟩) rfl rfl;refine⟨⟨G'.1,⟨FS.kind,FS.glob,FS.blt,fun x hx=>?_⟩,⟨_,hn,fun x v hx h0 hl=>?_⟩,fun x v hx hk=>?_,G'.1.nmu (.inr rfl),fun x b hb=>?_⟩,rfl,fun x hx=>?_,fun x hx=>?_,fun x b hb z=>?_⟩
  ·rcases hx with hx | hx
   ·exact(hno _ (yT hx) rfl).elim
   ·obtain⟨y,hy,rfl⟩:=FS.free x hx;obtain⟨k,hk,e⟩:=rn.mem_l hy;exact⟨k.2,kH hcl ((e)▸hk)⟩
  ·refine qG fun ng=>?_;rcases val x v hx with⟨u,hm,r,_⟩ | ⟨b,u,hm,_,_,hc⟩
   refine ng ?_
   ·exact⟨u,WV hnd hm,yG.tt (G'.2 _ _ r)⟩
   ·exact nomatch (FS.caps x hc).symm.trans hl
  ·rcases val x v hx with⟨u,hm,r,hp⟩ | ⟨b,u,hm,hs,r,hc⟩
   ·exact hk.elim (fun hk=>nomatch (hpl x hp).symm.trans hk) fun hk=>nomatch (hpl x hp).symm.trans hk
   ·exact⟨b,u,kH hcl hm,kN (kk _) hs.2,yG.tt (G'.2 _ _ r)⟩
  ·refine qG fun ng=>?_;refine q5G (((fun x b e=>(rc.mem_l (yT e)).elim fun u q=>⟨q.2.1,u,q.2.2⟩:∀x b,fd.closure.lookup x=some b->(¬NN c.Pv p b/\∃u,p.s.heap.IsCell b (some u)))) x b hb) fun n u q=>?_;refine ng ?_;exact⟨fun z=>n (.inl z),_,kN (kk _) q⟩
  ·exact(hno _ (yT (hw x hx)) rfl).elim
  ·exact(hno _ (yT (hw x hx)) rfl).elim
  ·refine q5G (((fun x b e=>(rc.mem_l (yT e)).elim fun u q=>⟨q.2.1,u,q.2.2⟩:∀x b,fd.closure.lookup x=some b->(¬NN c.Pv p b/\∃u,p.s.heap.IsCell b (some u)))) x b hb) fun n u q=>?_;exact q.elim fun o q=>gO fL ((show b=p.s.heap.objs.size from z)▸q.1)
 ·have hcz:d.caps=[]:=FS.alone.resolve_left hno;have hc0:fd.closure=[]:=by
   rw[hcz]at rn;cases q:fd.closure with
   | nil=>rfl
   | cons _ _=>rw[q]at rn; exact rn.elim
  rw[hc0]at val ⊢;refine wpAny_newFunctionEnv_cells FS.kind (fun y hy=>(pin y hy).elim fun x q=>q.2▸(FS.par x q.1).imp id fun h=>⟨h,cellsFrom_some _ _ _ (.inl h)⟩) (fun env he s' x=>?_);have eL:env.locals=p.s.heap.objs.size:=he▸rfl;have eS:env.scope=fd.scope:=he▸rfl;have eC:env.cells=cellsFrom (p.s.heap.objs.size+1) fd.scope.names []:=he▸rfl;have eK:∀y,env.kindOf y=fd.scope.names.lookup y:=fun y=>he▸rfl;have eG:env.globals=fd.globals:=he▸rfl;have eB:env.builtins=fd.builtins:=he▸rfl;have eO:env.code=fd.code:=he▸rfl;have eR:∃L,env.frame=some L:=⟨p.s.heap.objs.size,congrArg Env.frame he⟩;clear he;have up:∀n b,(n,b)∈env.cells->p.s.heap.get? b=none/\b≠env.locals:=fun n b m=>by
   have:=x.above n b m
   refine⟨?_,Nat.ne_of_gt this⟩;cases q:p.s.heap.get? b with
   | none=>rfl
   | some o=>exact absurd (Heap.lt_size q) (Nat.not_lt.mpr (z9 (eL▸this)))
  refine v4 (x.toInCall.same) fun h' tk hs'=>?_;have G':=fun A'=>G.fresh' (A':=A') (env:=env) (s':=s') (P:=fun a=>a=env.locals\/∃n,env.cells.lookup n=some a) x.toInCall.keep (fun a ha=>by
   rcases ha with rfl | ⟨n,hn⟩
   ·exact⟨eL▸fL,kT x.toInCall.ns⟩
   ·exact⟨(up n a (yT hn)).1,(x.cell n a hn).elim fun o q=>⟨o,q.1⟩⟩) (by rw[hs']) (by rw[hs'])
  have hasC:∀y,env.kindOf y=some .cell\/env.kindOf y=some .free->∃b,env.cells.lookup y=some b:=fun y hy=>by
   rw[eK]at hy;refine(hy).elim (fun h=>?_) fun h=>?_
   ·have:=cellsFrom_some fd.scope.names (p.s.heap.objs.size+1) [] (.inl h)
    rw[<-eC]at this;exact Option.isSome_iff_exists.mp this
   ·refine wI (FS.free y h) fun y hy z0=>?_;rw[hcz]at hy; cases hy
  have val':∀y v,ρ y=some v->∃u,(tx y,u)∈(d.params.map tx).zip vals/\c.V p v u:=fun y v hy=>by
   refine qG fun ng=>?_;rcases val y v hy with⟨u,h1,h2,_⟩ | ⟨_,_,h,_⟩
   refine ng ?_
   ·exact⟨u,h1,h2⟩
   ·cases h
  refine k env _ s' eS eO eR x.toInCall.keep (fun a z=>z.elim (fun z=>z▸eL▸fL) fun z=>z.elim fun n z=>(up n a (yT z)).1) fun A'=>⟨⟨(G' A').1,⟨eS▸FS.kind,eG.trans FS.glob,eB.trans FS.blt,hasC⟩,⟨_,x.toInCall.ns,fun y v hy h0 hl=>?_⟩,fun y v hy hk=>?_,(G' A').1.nmu (.inr (.inl rfl)),fun y b hb=>⟨(G' A').1.nmu (.inr (.inr ⟨y,hb⟩)),_,x.cell y b hb⟩⟩,.inl rfl,fun y hy b hb=>.inr ⟨_,hb⟩,fun y hy z b h1 h2=>name_of_addr x.apart (yT h2) (yT h1),fun y b hb=>(up _ b (yT hb)).2⟩
  ·obtain⟨u,hm,r⟩:=val' y v hy;exact⟨u,sH hnd hl (.inl hm),yG.tt ((G' A').2 _ _ r)⟩
  ·refine(val' y v hy).elim fun u zz=>?_;obtain⟨b,hb⟩:=hasC _ hk;have hcell:=x.cell _ b hb;rw[sG hnd (fun z=>by rcases hk with q | q <;> exact nomatch z.symm.trans q) (.inl zz.1)]at hcell;exact⟨b,u,hb,hcell,yG.tt ((G' A').2 _ _ zz.2)⟩
end
def w5(n:Nat)(A:Around):Prop:=A.handled=none/\A.units+20*n+60<cLine/\A.depth+2*n<recursionLimit
set_option genCtorIdx false in
structure Z6 (X:Cx) (h:Heap) (d:x6) (fd:FuncData) (b:List Stmt):Prop where
 fs:q0L d fd b
 crec:h.CodeRec fd.code fd.qualname
 dfl:∃r,Looks (model X.prog X.w) h (seqItems? fd.defaults) r/\∀c p,c.X=X->yJ c p->y6 (c.V p) d.dflt (r.getD #[]).toList
section
variable{c:Fx}{p p':Mt}{ρ ρ':y5}{A A':Around}{env:Env}{P:Addr->Prop}{s s':Shared}{Wr:List String}{d:x6}{fd:FuncData}{b:List Stmt}{x:String}{v:V}{D:String->Option x6}
def D5(G:yJ c p)(ho:c.own=no)(hb:cW p)(f:∀a,P a->p.s.heap.get? a=none)(kk:∀b o,p.s.heap.get? b=some o->s.heap.get? b=some o)(G':yJ ⟨c.X,A',env,fun a=>c.Pv a\/P a,P⟩ p')(st:yC P ⟨p.m,p.σ,s⟩ p'):
  yJ c (Mine.hide p')/\cW (Mine.hide p')/\yC no p (Mine.hide p')/\∀x v,Fx.V ⟨c.X,A',env,fun a=>c.Pv a\/P a,P⟩ p' x v->c.V (Mine.hide p') x v:=by
 have mu:∀a,Mu (Mine.hide p') a->Mu p' a:=fun a ⟨g,n,ob,e,e2,z⟩=>by
  obtain⟨rfl,e2⟩:=bL e2;exact⟨true,n,ob,e,e2,z⟩
 have kv:∀x v,Fx.V ⟨c.X,A',env,fun a=>c.Pv a\/P a,P⟩ p' x v->c.V (Mine.hide p') x v:=fun x v r=>yG.mono (m:=p'.m) (m':=(Mine.hide p').m) (fun z0 z0 e=>e) (fun a o n q=>⟨fun z=>z.elim (fun z=>n (.inl (mu a z))) fun z=>n (.inr (.inl z)),q⟩) r;have nn:∀a,s.heap.get? a=none->p.s.heap.get? a=none:=fun a z=>by
  cases e:p.s.heap.get? a with
  | none=>rfl
  | some o=>exact(gO z (kk a o e)).elim
 refine⟨⟨G'.base,fun g k ob e=>?_,fun g k e=>?_,fun g k g' k' a e e'=>?_,fun g k a e=>?_,fun a z=>G'.priv a (.inl z),fun a z=>?_,G'.gens,G'.os⟩,⟨rfl,fun z0=>rfl⟩,⟨fun g k a e=>?_,fun a o n z0 e=>st.keep a o n (fun z=>gO (f a z) e) (kk a o e),fun a z=>(st.new a (mu a z)).imp id (nn a),fun g k a e=>?_,fun a o e=>st.there a o (kk a o e)⟩,kv⟩
 ·obtain⟨rfl,e⟩:=bL e;refine(G'.rep true k ob e).elim fun a zz=>?_;exact⟨a,zz.1,wM.to (c:=⟨c.X,A',env,fun a=>c.Pv a\/P a,P⟩) (p:=p') (p':=Mine.hide p') (A':=c.A) (env':=c.env) (Pv':=c.Pv) (own':=c.own) (fun z0 z0 e=>e) kv (fun z0 e=>e) zz.2⟩
 ·refine qG fun ng=>?_;cases g with
  | true=>exact ng (G'.non true k e)
  | false=>exact ng rfl
 ·cases g with
  | true=>cases g' with
   | true=>exact G'.inj true k true k' a e e'
   | false=>cases e'
  | false=>cases e
 ·refine qG fun ng=>?_;cases g with
  | true=>exact ng (⟨(G'.at_ true k a e).1,(G'.at_ true k a e).2.1,fun z=>(G'.at_ true k a e).2.2 (.inl z)⟩)
  | false=>cases e
 ·rw[ho]at z; exact z.elim
 ·cases g with
  | true=>exact st.le true k a e
  | false=>exact nomatch (hb.2 k).symm.trans e
 ·refine qG fun ng=>?_;cases g with
  | true=>exact ng ((st.mnew true k a e).imp id (nn a))
  | false=>cases e
def ZG{n:Nat}{o:Obj}{a:Addr}{cap vs:List V}{us args:List Value}{Q:Kv}{R:Value->Shared->Prop}{C:yA}(hn:w5 (n+1) A)(hlim:p.s.heap.NoLimit)
  (ho:p.s.heap.get? a=some o) (hd:o.data=.func fd) (FO:Z6 c.X p.s.heap d fd b) (hw:∀x∈Wr,fd.scope.names.lookup (tx x)=some .cell)
  (HB:∀c':Fx,c'.X=c.X->c'.env.scope=fd.scope->c'.A=A.deeper c'.env->w5 n c'.A->rV c' Wr->SX c' (execs b c'.env) (xA C d.body))
  (q:uR C (some d) cap vs Q p.σ) (G:yJ c p) (hc:c.own=no) (hb:cW p) (ra:y6 (c.V p) vs args)
  (rn:y6 (fun x (k:PySem.Str×Addr)=>k.1=tx x) d.caps fd.closure) (rc:y6 (fun (k:PySem.Str×Addr)u=>¬NN c.Pv p k.2/\p.s.heap.IsCell k.2 (some u)) fd.closure us) (ru:y6 (c.V p) cap us)
  (k:∀p' x v,yJ c p'->cW p'->yC no p p'->c.V p' x v->Q x p'.σ->R v p'.s):codeAny (model c.X.prog c.X.w) A (.call (.ref a) ⟨args,[]⟩) (fun r s'=>∃v,r=.ok (.ret v)/\R v s') p.s:=by
 refine qG fun ng=>?_;refine wI (IM q) fun ρ e q=>?_;refine wI (FO.dfl) fun r hr hrep=>?_;refine ng ?_;have hlen:=X2 e;have l0:=(rn.length.trans rc.length).trans ru.length.symm;rw[qM (as:=d.caps),qM (as:=cap),l0]at hlen;have hlen:=(Nat.add_left_cancel hlen).symm;have FS:=FO.fs;refine codeAny_call_function (qI (qJ ..) hn.2.2) ho hd FS.co FS.gen FS.body FO.crec ?_;refine qG fun ng=>?_;refine(cX (args:=args) FS.po FS.va FS.ko FS.kw).elim fun K zz=>?_;refine v4 (zz.2 r) fun e1 e2 eq=>?_;refine ng ?_;rw[zz.1];refine wpAny_bind (hr.here ?_);rw[eq,FS.ps];have fz:∃z,y6 (c.V p) (sR d vs) z/\((args.length=(d.params.map tx).length/\z=[])\/(args.length+(r.getD #[]).toList.length=(d.params.map tx).length/\z=(r.getD #[]).toList)):=by
  rw[qM]at hlen;rw[qH,<-ra.length,<-(hrep c p rfl G).length];revert hlen;unfold sR;cases hb:Nat.beq vs.length d.params.length with
  | true=>exact fun z0=>⟨[],trivial,.inl ⟨Nat.eq_of_beq_eq_true hb,rfl⟩⟩
  | false=>exact fun hlen=>⟨_,(hrep c p rfl G),.inr ⟨hlen.symm,rfl⟩⟩
 refine(fz).elim fun z zz=>?_;refine ZC (((List.nodup_append.mp (qU (f:=tx)▸FS.nd:(d.caps.map tx++d.params.map tx).Nodup)).2.1:(d.params.map tx).Nodup)) zz.2 ?_;refine wA.any (c:=⟨c.X,A.in1,c.env,c.Pv,c.own⟩) (ZR (c:=⟨c.X,A.in1,c.env,c.Pv,c.own⟩) FS hw e l0 hlen ⟨G.base,G.rep,G.non,G.inj,G.at_,G.priv,G.own,G.gens,G.os⟩ ((y6.append ra zz.1:y6 (c.V p) (vs++sR d vs) (args++z))) rn rc ru fun env P s1 hsc hco hfr k1 fP h1=>?_);refine(h1 (A.deeper env)).elim fun h1 W1=>?_;refine⟨hlim.keeps k1,codeAny_func (wA.any (c:=⟨c.X,A.deeper env,env,fun a=>c.Pv a\/P a,P⟩) (HB ⟨c.X,A.deeper env,env,fun a=>c.Pv a\/P a,P⟩ rfl hsc rfl ((⟨hn.1,by have:=hn.2.1; show A.units+3+20*n+60<cLine; exact yX [_,_,_] (LF.c 1 (.a (.a (.a (.v 0) (.m 20 (.a (.v 1) (.k 1)))) (.k 60)) (.k 1)) (.v 2) .n) 0 (.a (.a (.a (.a (.v 0) (.k 3)) (.m 20 (.v 1))) (.k 60)) (.k 1)) (.v 2) rfl this,by have:=hn.2.2; show A.depth+1+2*n<recursionLimit; exact yX [_,_,_] (LF.c 1 (.a (.a (.v 0) (.m 2 (.a (.v 1) (.k 1)))) (.k 1)) (.v 2) .n) 0 (.a (.a (.a (.v 0) (.k 1)) (.m 2 (.v 1))) (.k 1)) (.v 2) rfl this⟩:w5 n (A.deeper env))) W1 ρ ⟨p.m,p.σ,s1⟩ _ _ h1 q fun ρ' p' fl fl' h' st r' q'=>?_))⟩;refine q5D (D5 G hc hb fP k1 h'.g st) fun G2 b2 s2 kv=>?_;cases fl with
 | next=>cases r'; exact⟨.none,rfl,k (Mine.hide p') .none .none G2 b2 s2 rfl q'⟩
 | cont=>exact False.elim q'
 | ret v =>
  obtain⟨u,rfl,r'⟩:=r';exact⟨u,rfl,k (Mine.hide p') v u G2 b2 s2 (kv _ _ (r'.gv (xY q').1)) (xY q').2⟩
end
abbrev Nm:=List (PySem.Str×NameKind)
@[reducible] noncomputable def bq{α:Type}[DecidableEq α](a b:α):Bool:=decide (a=b)
section
noncomputable def og:Option Expr->Expr
 | some e=>e
 | none=>.List [] ⟨0,0,0,0⟩
noncomputable def vw:Expr->List Expr×Nat×Option Scope
 | .BoolOp _ l _=>(l,0,none)
 | .BinOp l _ r _=>([l,r],0,none)
 | .UnaryOp _ a _=>([a],0,none)
 | .IfExp t a b _=>([t,a,b],0,none)
 | .Compare l _ r _=>(l::r,0,none)
 | .Call f es _ _=>(f::es,0,none)
 | .Attribute o _ _=>([o],0,none)
 | .Subscript o i _=>([o,i],0,none)
 | .List l _=>(l,0,none)
 | .Tuple l k _=>(l,k,none)
 | .Slice a b c _=>([og a,og b,og c],0,none)
 | .ListComp a gs s _=>(a::gs.flatMap fun g=>g.target::g.iter::g.ifs,0,some s)
 | .DictComp k v gs s _=>(k::v::gs.flatMap fun g=>g.target::g.iter::g.ifs,0,some s)
 | .Constant _ k _=>([],k,none)
 | _=>([],0,none)
noncomputable def uS(e:Expr):List Expr:=(vw e).1
noncomputable def num(e:Expr):Nat:=(vw e).2.1
noncomputable def C1(e:Expr):Scope:=match (vw e).2.2 with
 | some s=>s
 | none=>⟨.module,[],false,false,[]⟩
noncomputable def xC(e:Expr)(n:Nat):Expr:=og (uS e)[n]?
noncomputable def hd(l:List Expr):Expr:=og l.head?
noncomputable def G9:V->Const
 | .bool b=>.bool b
 | .int i=>.int i
 | .str s=>.str ⟨s.toArray⟩
 | _=>.none
noncomputable def q6C:V->Bool
 | .none=>true
 | .bool _=>true
 | .int _=>true
 | .str _=>true
 | _=>false
noncomputable def oJ:Ex->Bool
 | .c v=>isNone v
 | _=>false
noncomputable def q7Q:Ex->Option String
 | .loc x=>some x
 | .g x _=>some x
 | _=>none
noncomputable def q8H(x:Ex):String:=(q7Q x).getD ""
noncomputable def EU(x:Ex):Bool:=(q7Q x).isSome
noncomputable def nE(x:String)(e:Expr):Expr:=.Name (tx x) e.pos
noncomputable def IS:List String->List Expr->List Expr
 | [],_=>[]
 | x::l,es=>nE x (hd es)::IS l es.tail
noncomputable def R7:Tg->Expr->Expr
 | .nm x,e=>nE x e
 | .tp xs,e=>.Tuple (IS xs (uS e)) (num e) e.pos
noncomputable def mM(o:Expr)(n:String)(es:List Expr)(e:Expr):Expr:=.Call (.Attribute o (tx n) (xC e 0).pos) es [] e.pos
noncomputable def ob(e:Expr):Expr:=xC (xC e 0) 0
noncomputable def mF(n:String)(es:List Expr)(e:Expr):Expr:=.Call (nE n (xC e 0)) es [] e.pos
noncomputable def mC(k:Const)(e:Expr):Expr:=.Constant k (num e) e.pos
noncomputable def IP(a:Expr->Expr)(e:Expr):Expr:=mM (.Subscript (a (xC (ob e) 0)) (mC (.int 1) (xC (ob e) 1)) (ob e).pos) "replace" [mC (.str ⟨#[33]⟩) (xC e 1),mC (.str ⟨#[]⟩) (xC e 2)] e
noncomputable def q6J(a:Expr->Expr)(e:Expr):Expr:=.Subscript (a (xC e 0)) (.Slice none none (some (.UnaryOp .USub (mC (.int 1) (xC (xC (xC e 1) 2) 0)) (xC (xC e 1) 2).pos)) (xC e 1).pos) e.pos
noncomputable def q8F(a:Expr->Expr)(n:B1)(e:Expr):Expr:=match n with
 | .strip=>IP a e
 | .rev=>q6J a e
 | n=>mF (f9 n) [a (xC e 1)] e
noncomputable def q8G(a b:Expr->Expr)(n:B2)(e:Expr):Expr:=match n with
 | .range=>mF "range" [a (xC e 1),b (xC e 2)] e
 | .min=>mF "min" [a (xC e 1),b (xC e 2)] e
 | _=>.Subscript (a (xC e 0)) (b (xC e 1)) e.pos
noncomputable def DH(x:Ex)(a:Expr->Expr)(e:Expr):Option Expr:=match oJ x with
 | true=>none
 | false=>some (a e)
noncomputable def q6K(o x y:Expr->Expr)(lo hi:Ex)(e:Expr):Expr:=.Subscript (o (xC e 0)) (.Slice (DH lo x (xC (xC e 1) 0)) (DH hi y (xC (xC e 1) 1)) none (xC e 1).pos) e.pos
noncomputable def mL(l:List Expr->List Expr)(e:Expr):Expr:=.List (l (uS e)) e.pos
noncomputable def q6I(i:Bool):BoolOp:=if i then .And else .Or
noncomputable def q3L(a i:Expr->Expr)(l:List Expr->List Expr)(tg:Tg)(e:Expr):Expr:=.ListComp (a (xC e 0)) [⟨R7 tg (xC e 1),i (xC e 2),l ((uS e).drop 3),0⟩] (C1 e) e.pos
noncomputable def IO(i:Expr->Expr)(x:String)(e:Expr):Expr:=.DictComp (nE x (xC e 0)) (.List [] (xC e 1).pos) [⟨nE x (xC e 2),i (xC e 3),[],0⟩] (C1 e) e.pos
def mk(x:Ex):Expr->Expr:=Ex.rec (motive_1:=fun z0=>Expr->Expr) (motive_2:=fun z0=>List Expr->List Expr)
 (fun v=>mC (G9 v)) nE (fun x z0=>nE x)
 (fun z0 A e=>.UnaryOp .USub (A (xC e 0)) e.pos)
 (fun z0 A e=>.UnaryOp .Not (A (xC e 0)) e.pos)
 (fun i z0 L e=>.BoolOp (q6I i) (L (uS e)) e.pos)
 (fun op z0 z0 A B e=>.BinOp (A (xC e 0)) (Q2 op) (B (xC e 1)) e.pos)
 (fun op z0 z0 A B e=>.Compare (A (xC e 0)) [W5 op] [B (xC e 1)] e.pos)
 (fun z0 z0 z0 T A B e=>.IfExp (T (xC e 0)) (A (xC e 1)) (B (xC e 2)) e.pos)
 (fun z0 L e=>.Tuple (L (uS e)) (num e) e.pos)
 (fun z0=>mL) (fun z0=>mL) (fun z0=>mL)
 (fun z0 e=>.Dict [] [] e.pos) (fun z0 e=>.Dict [] [] e.pos)
 (fun z0 tg z0 z0 A I L=>q3L A I L tg)
 (fun x z0 I=>IO I x)
 (fun f z0 z0 L e=>mF (q8H f) (L (uS e).tail) e)
 (fun n z0 L e=>mF n (L (uS e).tail) e)
 (fun z0 n z0 O L e=>mM (O (ob e)) n (L (uS e).tail) e)
 (fun n z0 A=>q8F A n)
 (fun n z0 z0 A B=>q8G A B n)
 (fun z0 O e=>mM (O (ob e)) "pop" [] e)
 (fun n z0 z0 O X e=>mM (O (ob e)) (DG n) [X (xC e 1)] e)
 (fun z0 z0 z0 O K D e=>mM (O (ob e)) "get" [K (xC e 1),D (xC e 2)] e)
 (fun z0 z0 O K e=>mM (O (ob e)) "setdefault" [K (xC e 1),.List [] (xC e 2).pos] e)
 (fun z0 n O e=>.Attribute (O (xC e 0)) (tx n) e.pos)
 (fun z0 x y O X Y=>q6K O X Y x y)
 (fun z0 z0 A B e=>.Subscript (A (xC e 0)) (B (xC e 1)) e.pos)
 (fun e=>.List [] e.pos)
 (fun z0=>[]) (fun z0 z0 X L es=>X (hd es)::L es.tail) x
def IV(l:List Ex)(es:List Expr):List Expr:=uS (mk (.lst l) (.List es ⟨0,0,0,0⟩))
noncomputable def q2Z(x:String):V:=(jE kA x).getD .none
def fx(x:Ex):Ex:=Ex.rec (motive_1:=fun z0=>Ex) (motive_2:=fun z0=>List Ex) .c .loc (fun x z0=>.g x (q2Z x)) (fun z0=>.neg) (fun z0=>.not) (fun i z0=>.bop i) (fun o z0 z0=>.bin o) (fun o z0 z0=>.cmp o)
 (fun z0 z0 z0=>.ite) (fun z0=>.tup) (fun z0=>.lst) (fun z0=>.newo) (fun z0=>.newg) .dicto .dictg (fun z0 t z0 z0 a i l=>.comp a t i l) (fun x z0=>.dcomp x) (fun z0 z0=>.call) (fun n z0=>.new n)
 (fun z0 n z0 o l=>.meth o n l) (fun n z0=>.b1 n) (fun n z0 z0=>.b2 n) (fun z0=>.pop) (fun n z0 z0=>.m1 n) (fun z0 z0 z0=>.get) (fun z0 z0=>.sdl) (fun z0 n o=>.attr o n) (fun z0 z0 z0=>.slice) (fun z0 z0=>.subf) .bad [] (fun z0 z0=>.cons) x
noncomputable def pH:Ex->List Ex
 | .lst l=>l
 | _=>[]
def q68(l:List Ex):List Ex:=pH (fx (.lst l))
noncomputable def NU(nm:Nm)(x:String):Bool :=
 !(tx x==("__debug__":Str))&&(!(tx x==("__classdict__":Str))&&(!bq x ".0"&&(match nm.lookup (tx x)with
  | some .local=>true
  | some .cell=>true
  | some .free=>true
  | _=>false)))
noncomputable def YZ(nm:Nm)(sc:Nm):Nm:=sc.map fun p=>if (p.2==.free&&nm.lookup p.1==some .cell)=true then(p.1,.cell)else p
noncomputable def W4(nm:Nm)(sc:Scope)(tg:Tg):Bool :=
 sc.kind==.function&&(sc.names.all (fun y=>y.2 != .cell&&((y.2 != .local||(sc.names.lookup y.1==some .local&&(bq y.1 (tx ".0")||(q0T tg).any fun x=>bq y.1 (tx x)))) &&
  (y.2 != .free||(nm.lookup y.1==some .cell||nm.lookup y.1==some .free))))&&(q0T tg).all fun x=>sc.names.lookup (tx x)==some .local)
noncomputable def A5(nm:Nm)(x:String):Bool:=!(tx x==("__debug__":Str))&&(nm.lookup (tx x)==some .globalImplicit&&(jE kA x).isSome)
noncomputable def q3M(o e:Expr):Bool:=wT o&&(xC e 0).pos.endLine==e.pos.line
def ok(x:Ex):Nat->Nm->Expr->Bool:=Ex.rec (motive_1:=fun z0=>Nat->Nm->Expr->Bool) (motive_2:=fun z0=>Nat->Nm->List Expr->Bool)
 (fun v m z0 z0=>Nat.beq m 0&&q6C v)
 (fun x z0 nm z0=>NU nm x)
 (fun x z0 m nm z0=>Nat.beq m 0&&A5 nm x)
 (fun z0 A m nm e=>Nat.beq m 0&&A 0 nm (xC e 0))
 (fun z0 A m nm e=>Nat.beq m 1&&A 1 nm (xC e 0))
 (fun z0 l L m nm e=>(Nat.beq m 1||Nat.beq l.length 2)&&L m nm (uS e))
 (fun z0 z0 z0 A B m nm e=>Nat.beq m 0&&(A 0 nm (xC e 0)&&B 0 nm (xC e 1)))
 (fun op z0 b A B z0 nm e=>!behindInMarks (W5 op) (mk b (xC e 1))&&(A 0 nm (xC e 0)&&B 0 nm (xC e 1)))
 (fun z0 z0 z0 T A B m nm e=>Nat.beq m 0&&(T 1 nm (xC e 0)&&(A 0 nm (xC e 1)&&B 0 nm (xC e 2))))
 (fun l L m nm e=>Nat.beq m 0&&(Nat.blt l.length 900&&L 0 nm (uS e)))
 (fun l L m nm e=>match m with
  | 0=>Nat.blt l.length 900&&L 0 nm (uS e)
  | 1=>false
  | m+2=>L m nm (uS e))
 (fun l L m nm e=>Nat.beq m 0&&(Nat.blt l.length 900&&L 0 nm (uS e)))
 (fun l L m nm e=>Nat.beq m 0&&(Nat.blt l.length 900&&L 0 nm (uS e)))
 (fun z0 m z0 z0=>Nat.beq m 0) (fun z0 m z0 z0=>Nat.beq m 0)
 (fun z0 tg z0 z0 A I L m nm e=>Nat.beq m 0&&(W4 nm (C1 e) tg&&(I 0 nm (xC e 2)&&(A 0 (YZ nm (C1 e).names) (xC e 0)&&L 1 (YZ nm (C1 e).names) ((uS e).drop 3)))))
 (fun z0 z0 z0 z0 z0 z0=>false)
 (fun f z0 F L m nm e=>EU f&&(F 0 nm (xC e 0)&&L 0 nm (uS e).tail))
 (fun n z0 L m nm e=>Nat.beq m 0&&(A5 nm n&&(LJ.contains n&&L 0 nm (uS e).tail)))
 (fun o z0 l O L m nm e=>Nat.beq m 0&&(q3M (mk o (ob e)) e&&(Nat.blt l.length 30&&(O 0 nm (ob e)&&L 0 nm (uS e).tail))))
 (fun n z0 A m nm e=>match n with
  | .strip=>Nat.beq m 0&&((xC e 0).pos.endLine==e.pos.line&&A 0 nm (xC (ob e) 0))
  | .rev=>Nat.beq m 0&&A 0 nm (xC e 0)
  | n=>A5 nm (f9 n)&&A 0 nm (xC e 1))
 (fun n z0 z0 A B m nm e=>Nat.beq m 0&&match n with
  | .range=>A5 nm "range"&&(A 0 nm (xC e 1)&&B 0 nm (xC e 2))
  | .min=>A5 nm "min"&&(A 0 nm (xC e 1)&&B 0 nm (xC e 2))
  | _=>A 0 nm (xC e 0)&&B 0 nm (xC e 1))
 (fun o O m nm e=>Nat.beq m 0&&(q3M (mk o (ob e)) e&&O 0 nm (ob e)))
 (fun z0 o z0 O X m nm e=>Nat.beq m 0&&(q3M (mk o (ob e)) e&&(O 0 nm (ob e)&&X 0 nm (xC e 1))))
 (fun o z0 z0 O K D m nm e=>Nat.beq m 0&&(q3M (mk o (ob e)) e&&(O 0 nm (ob e)&&(K 0 nm (xC e 1)&&D 0 nm (xC e 2)))))
 (fun o z0 O K m nm e=>Nat.beq m 0&&(q3M (mk o (ob e)) e&&(O 0 nm (ob e)&&K 0 nm (xC e 1))))
 (fun o n O m nm e=>Nat.beq m 0&&(wT (mk o (xC e 0))&&(pK.contains n&&O 0 nm (xC e 0))))
 (fun z0 x y O X Y m nm e=>Nat.beq m 0&&(O 0 nm (xC e 0)&&((oJ x||X 0 nm (xC (xC e 1) 0))&&(oJ y||Y 0 nm (xC (xC e 1) 1)))))
 (fun z0 z0 A B m nm e=>Nat.beq m 0&&(A 0 nm (xC e 0)&&B 0 nm (xC e 1)))
 (fun z0 z0 z0=>false)
 (fun z0 z0 z0=>true) (fun z0 z0 X L m nm es=>X m nm (hd es)&&L m nm es.tail) x
def q55(l:List Ex)(m:Nat)(nm:Nm)(es:List Expr):Bool:=ok (.lst l) (m+2) nm (.List es ⟨0,0,0,0⟩)
end
def xM{P:Prop}(h:false=true):P:=absurd h Bool.false_ne_true
def zZ{a b:Bool}(h:(a&&b)=true):a=true/\b=true:=zE.mp h
def yB{a b:Bool}{P:Prop}(h:(a&&b)=true)(k:a=true->b=true->P):P:=k (zZ h).1 (zZ h).2
def fU{a:Bool}(h:(!a)=true):a=false:=by cases a <;> first | rfl | cases h
def gN:∀(x:Ex)(e:Expr),yQ (mk x e)=true:=fun x e=>by
 cases x with
 | b1 n a=>cases n <;> rfl
 | b2 n a b=>cases n <;> rfl
 | _=>rfl
def YI:∀(x:Ex)(e:Expr),bG (mk x e):=fun x e o i=>by
 cases x with
 | b1 n a=>cases n <;> rfl
 | b2 n a b=>cases n <;> rfl
 | _=>rfl
def VN:∀(x:Ex)(e:Expr)(env:Env)(v:Value),foldedSetIterable (mk x e) env v=pure v:=fun x e env v=>by
 cases x with
 | b1 n a=>cases n <;> rfl
 | b2 n a b=>cases n <;> rfl
 | _=>rfl
theorem mZ:∀(l:List Ex)(es:List Expr),(IV l es).all yQ=true
 | [],_=>rfl
 | x::l,es=>(congr (congrArg and (gN x (hd es))) (mZ l es.tail):_=(true&&true))
theorem oW:∀(l:List Ex)(es:List Expr),(IV l es).length=l.length
 | [],_=>rfl
 | x::l,es=>congrArg (·+1) (oW l es.tail)
theorem eA{x:String}{v:V}:∀{l:List (String×V)},jE l x=some v->(x,v)∈l
 | [],h=>nomatch h
 | (k,w)::r,h=>by
  unfold jE at h
  by_cases e:k=x
  ·rw[if_pos e]at h; cases h; exact e▸.head _
  ·rw[if_neg e]at h; exact .tail _ (eA h)
set_option genCtorIdx false in
structure mI (c:Fx) (C:yA) (nm:Nm):Prop where
 S:yW c.X
 hr:wX c.A
 hC:jJ c.X c.A C
 hC':∀args,jJ c.X (c.A.under (.builtin "type.__call__" args)) C
 hn:c.env.scope.names=nm
 hk:c.env.scope.kind=.function
section
variable{C:yA}{c:Fx}{nm:Nm}{ρ:y5}{x:String}{e:Expr}{v:V}{n:String}
def nK(O:mI c C nm):c.env.kindOf (tx x)=nm.lookup (tx x):=O.hn▸rfl
def JS(O:mI c C nm)(h:NU nm x=true):SE c ρ (eval (nE x e) c.env) (we C (.loc x) ρ) :=
 yB h fun h1 h=>yB h fun h2 h=>yB h fun h3 h4=>OP (fU h1) (fU h2) (of_decide_eq_false (fU h3)) (by
  rw[nK O];revert h4;cases nm.lookup (tx x)with
  | none=>exact xM
  | some k=>cases k <;> first | exact fun z0=>.inl rfl | exact fun z0=>.inr (.inl rfl) | exact fun z0=>.inr (.inr rfl) | exact xM)
def mS(O:mI c C nm)(h:A5 nm x=true)(hv:jE kA x=some v):SE c ρ (eval (nE x e) c.env) (we C (.g x v) ρ) :=
 yB h fun h1 h=>yB h fun h2 z0=>q71 O.S (fU h1) ((nK O).trans (eq_of_beq h2)) (eA hv)
def pQ{sc:Scope}{tg:Tg}(O:mI c C nm)(h:W4 nm sc tg=true):k5 c.env sc tg :=
 yB h fun h1 h=>yB h fun h2 h3 =>
 have h2:=z6.mp h2
 ⟨eq_of_beq h1,fun y hy e=>by
  have z:=(zZ (h2 y hy)).1;rw[e]at z; exact xM z,fun y hy e=>by
  have z:=(zZ (zZ (h2 y hy)).2).1;rw[e]at z;exact eq_of_beq (zZ z).1,fun x hx=>eq_of_beq ((z6.mp h3) x hx),fun x hx=>by
  have z:=(zZ (zZ (h2 _ (yT hx))).2).1;exact(Bool.or_eq_true_iff.mp (zZ z).2).imp (fun z=>aS (zT z)) fun z=>(List.any_eq_true.mp z).elim fun w q=>(aS (zT q.2):x=w)▸q.1,fun y hy e=>by
  have z:=(zZ (zZ (h2 y hy)).2).2;rw[e]at z;rw[show c.env.kindOf y.1=nm.lookup y.1 from O.hn▸rfl];exact(Bool.or_eq_true_iff.mp z).elim xM fun z=>(Bool.or_eq_true_iff.mp z).imp eq_of_beq eq_of_beq⟩
def PP(O:mI c C nm){sc:Scope}(cl:List (PySem.Str×Addr))(N:Addr):(compEnvC sc cl N c.env).scope.names=YZ nm sc.names:=by
 refine List.map_congr_left fun p z0=>?_;have zz:=p;dsimp only;unfold Env.kindOf;rw[O.hn,O.hk]
 simp
def lK(O:mI c C nm){sc:Scope}{tg:Tg}(CO:k5 c.env sc tg)(cl:List (PySem.Str×Addr))(P:Addr->Prop)(N:Addr):mI ⟨c.X,c.A,compEnvC sc cl N c.env,P,fun a=>a=N⟩ C (YZ nm sc.names) :=
 ⟨O.S,O.hr,O.hC,O.hC',PP O cl N,CO.kind⟩
def oO{l:List Ex}{es:List Expr}{env:Env}{pos:Pos}(h:Nat.blt l.length 900=true):(backTo pos (starEach (IV l es) env)).length<=1000 :=
 (tB (mZ l es)).2.1▸(oW l es).symm▸qF (z8 h) (by decide)
def WW:∀(tg:Tg)(e:Expr),CZ tg (R7 tg e)
 | .nm x,e=>⟨_,rfl⟩
 | .tp xs,e=>⟨_,_,_,mkNs_e xs _,rfl⟩
where mkNs_e:∀(xs:List String)(es:List Expr),q0O (IS xs es) xs
 | [],_=>trivial
 | x::l,es=>⟨⟨_,rfl⟩,mkNs_e l es.tail⟩
def BH{x:Ex}(h:oJ x=true):x=.c .none:=by
 cases x with
 | c v=>cases v <;> first | rfl | exact xM h
 | _=>exact xM h
end
section
def PE(C:yA)(x:Ex):Prop:=∀⦃nm e c ρ⦄,mI c C nm->ok x 0 nm e=true->SE c ρ (eval (mk x e) c.env) (we C (fx x) ρ)
def PT(C:yA)(x:Ex):Prop:=∀⦃nm e c ρ⦄,mI c C nm->ok x 1 nm e=true->ST c ρ (isTrue (mk x e) c.env (eval (mk x e) c.env)) (wt C (fx x) ρ)
end
set_option genCtorIdx false in
structure PL (C:yA) (l:List Ex):Prop where
 es:∀{nm es c ρ pos},mI c C nm->q55 l 0 nm es=true->GG c ρ (backTo pos (starEach (IV l es) c.env)) (aX C (q68 l) ρ)
 ts:∀{nm es c ρ i},mI c C nm->q55 l 1 nm es=true->q1G c ρ i (IV l es) (bC C i (q68 l) ρ)
 tl:∀{nm es c ρ},mI c C nm->q55 l 1 nm es=true->TL c ρ C (IV l es) (q68 l)
 one:∀x∈l,PE C x
def PA{C:yA}:PL C []:=⟨fun z0 z0=>PY,fun z0 z0=>JH,fun z0 z0=>q0B,fun z0 h=>(absurd h qW)⟩
def VS{C:yA}{x:Ex}{l:List Ex}(X:PE C x/\PT C x)(L:PL C l):PL C (x::l) where
 es {nm es c ρ pos} O h:=by
  show GG c ρ (backTo pos (starEach (mk x (hd es)::IV l es.tail) c.env)) _;rw[tG (gN ..)];exact yB h fun a b=>CG (X.1 O a) (L.es O b)
 ts O h:=yB h fun a b=>X6 (X.2 O a) (L.ts O b)
 tl O h:=yB h fun a b=>L1 (X.2 O a) (L.tl O b)
 one y hy:=(qV.mp hy).elim (fun e=>e▸X.1) (L.one y)
theorem AL{C:yA}(H:∀x,PE C x/\PT C x):∀l,PL C l
 | []=>PA
 | x::l=>VS (H x) (AL H l)
section
variable{C:yA}
def q6V{v:V}:PE C (.c v):=fun nm e c ρ O h=>by
 cases v with
 | none=>exact C7
 | bool b=>exact C3
 | int i=>exact ON
 | str s=>exact OX
 | _=>exact xM h
def O7{x:String}:PE C (.loc x)/\PT C (.loc x) :=
 ⟨fun nm e c ρ O h=>JS O h,fun nm e c ρ O h=>QJ O.S (JS O h) (fun z0 z0 q=>q) rfl⟩
def q2Y{x:String}(h:(jE kA x).isSome=true):jE kA x=some (q2Z x):=by
 show _=some ((jE kA x).getD .none);cases e:jE kA x with
 | none=>rw[e]at h; exact xM h
 | some v=>rfl
def q6W{x:String}{v:V}:PE C (.g x v):=fun nm e c ρ O h=>mS O h (q2Y (zZ (zZ h).2).2)
def O6{i:Bool}{l:List Ex}(L:PL C l):PE C (.bop i l):=fun nm e c ρ O h=>by
 cases l with
 | nil=>exact xM h
 | cons x l=>cases l with
  | nil=>exact xM h
  | cons y l=>cases l with
   | nil=>exact yB h fun a b=>C4 O.S (L.one x (.head _) O a) (L.one y (.tail _ (.head _)) O (zZ b).1)
   | cons z l=>exact xM h
def RN{x it:Ex}{tg:Tg}{ifs:List Ex}(X:PE C x)(I:PE C it)(L:PL C ifs):PE C (.comp x tg it ifs):=fun nm e c ρ O h =>
 yB h fun h2 h=>yB h fun h4 h=>yB h fun h5 h6 =>
 C5 O.hr (VN it _ _) (pQ O h2) (WW tg _) (I O h4) (fun cl P N ρ=>X (lK O (pQ O h2) cl P N) h5) fun cl P N ρ=>L.tl (lK O (pQ O h2) cl P N) h6
def q6N{P:Ex->Prop}{f:Ex}(h:EU f=true)(a:∀x,P (.loc x))(b:∀x v,P (.g x v)):P f:=by
 cases f with
 | loc x=>exact a x
 | g x v=>exact b x v
 | _=>exact xM h
def YR{m:Nat}{f:Ex}{l:List Ex}(F:PE C f)(L:PL C l){nm:Nm}{e:Expr}{c:Fx}{ρ:y5}(O:mI c C nm)(h:EU f=true)(h2:ok f 0 nm (xC e 0)=true)(h3:q55 l 0 nm (uS e).tail=true):SE c ρ (eval (mk (.call f l) e) c.env) (we C (fx (.call f l)) ρ):=by
 have F:=F (ρ:=ρ) O h2;revert F;exact q6N (P:=fun f=>SE c ρ (eval (mk f (xC e 0)) c.env) (we C (fx f) ρ)->SE c ρ (eval (mk (.call f l) e) c.env) (we C (fx (.call f l)) ρ)) h (fun x F=>VX O.hC (mZ _ _) F (L.es O h3)) fun x v F=>VX O.hC (mZ _ _) F (L.es O h3)
def RM{f:Ex}{l:List Ex}(F:PE C f)(L:PL C l):PE C (.call f l)/\PT C (.call f l) :=
 ⟨fun nm e c ρ O h=>yB h fun h1 h=>yB h fun h2 h3=>YR (m:=0) F L O h1 h2 h3,fun nm e c ρ O h=>yB h fun h1 h=>yB h fun h2 h3=>QJ O.S (YR (m:=0) F L O h1 h2 h3) (fun z0 z0 q=>q) rfl⟩
def q2G:∀n∈LJ,jE kA n=some (.fn n) :=
 zB.mpr ⟨rfl,zB.mpr ⟨rfl,zB.mpr ⟨rfl,fun z0 h=>(absurd h qW)⟩⟩⟩
def O8{n:String}{l:List Ex}(L:PL C l):PE C (.new n l):=fun nm e c ρ O h =>
 yB h fun h1 h=>yB h fun h2 h3=>by
  have hn:=qX.mp h2;exact OT O.S O.hC' hn (mZ _ _) (mS O h1 (q2G n hn)) (L.es O h3)
def RP{o:Ex}{n:String}{l:List Ex}(H:PE C o)(L:PL C l):PE C (.meth o n l):=fun nm e c ρ O h =>
 yB h fun h1 h=>yB h fun h2 h=>yB h fun h3 h4 =>
  C6 O.S O.hC (zZ h1).1 (zZ h1).2 (mZ l _) ((oW l _).symm▸z8 h2) (H O h3) (L.es O h4)
def LV:∀n:B1,jE kA (f9 n)=some (.blt (f9 n)):=fun n=>by cases n <;> rfl
def q3Y{n:B1}{a:Ex}(A:PE C a):PE C (.b1 n a)/\PT C (.b1 n a):=by
 have F:K9 n=true->∀{nm e c ρ},mI c C nm->(A5 nm (f9 n)&&ok a 0 nm (xC e 1))=true->SE c ρ (eval (mF (f9 n) [mk a (xC e 1)] e) c.env) (we C (.b1 n (fx a)) ρ):=fun hn nm e c ρ O h =>
  yB h fun h1 h2=>q4A O.S O.hr hn (gN _ _) (mS O h1 (LV n)) (A O h2)
 cases n with
 | strip=>exact⟨fun nm e c ρ O h=>yB h fun h1 h2=>PW O.S O.hr h1 (A O h2),fun nm e c ρ O h=>xM h⟩
 | any =>
  have F:∀{nm e c ρ},mI c C nm->(A5 nm "any"&&ok a 0 nm (xC e 1))=true->SE c ρ (eval (mF "any" [mk a (xC e 1)] e) c.env) (we C (.b1 .any (fx a)) ρ):=fun O h=>yB h fun h1 h2=>OJ O.S O.hr (gN _ _) (mS O h1 (LV .any)) (A O h2);exact⟨fun nm e c ρ O h=>F O h,fun nm e c ρ O h=>QJ O.S (F O h) (fun z0 z0 q=>q) rfl⟩
 | rev=>exact⟨fun nm e c ρ O h=>OV O.S (A O h),fun nm e c ρ O h=>xM h⟩
 | _=>exact⟨fun nm e c ρ O h=>F rfl O h,fun nm e c ρ O h=>QJ O.S (F rfl O h) (fun z0 z0 q=>q) rfl⟩
def q3Z{n:B2}{a b:Ex}(A:PE C a)(B:PE C b):PE C (.b2 n a b):=fun nm e c ρ O h=>by
 cases n with
 | range=>exact yB h fun h1 h=>yB h fun h2 h3=>TO (gN _ _) (gN _ _) (mS O h1 rfl) (A O h2) (B O h3)
 | min=>exact yB h fun h1 h=>yB h fun h2 h3=>OR O.hr (gN _ _) (gN _ _) (mS O h1 rfl) (A O h2) (B O h3)
 | sub=>exact yB h fun h2 h3=>QA O.S O.hr (.inl rfl) (YI _ _) (A O h2) (B O h3)
 | subs=>exact yB h fun h2 h3=>QA O.S O.hr (.inr (.inl rfl)) (YI _ _) (A O h2) (B O h3)
 | subd=>exact yB h fun h2 h3=>QA O.S O.hr (.inr (.inr rfl)) (YI _ _) (A O h2) (B O h3)
def VQ{x:Ex}(X:PE C x){nm:Nm}{c:Fx}{ρ:y5}(O:mI c C nm){e:Expr}(h:(oJ x||ok x 0 nm e)=true):SE c ρ (evalPart (DH x (mk x) e) c.env) (we C (fx x) ρ):=by
 show SE c ρ (evalPart (match oJ x with
  | true=>none
  | false=>some (mk x e)) c.env) _
 cases i:oJ x with
 | true=>cases BH i; exact Q8
 | false=>rw[i]at h; exact Q9 (X O h)
def P7{o x y:Ex}(H:PE C o)(X:PE C x)(Y:PE C y):PE C (.slice o x y):=fun nm e c ρ O h =>
 yB h fun h2 h=>yB h fun h3 h4=>PV O.S (H O h2) (VQ X O h3) (VQ Y O h4)
def FV:∀x,PE C x/\PT C x:=by
 intro x
 induction x using Ex.rec (motive_2:=fun l=>PL C l)with
 | c v=>exact⟨q6V,fun z0 z0 z0 z0 z0 h=>xM h⟩
 | loc x=>exact O7
 | g x v=>exact⟨q6W,fun z0 z0 z0 z0 z0 h=>xM h⟩
 | neg a A=>exact⟨fun z0 z0 z0 z0 O h=>OS (A.1 O h),fun z0 z0 z0 z0 z0 h=>xM h⟩
 | not a A=>exact⟨fun z0 z0 z0 z0 z0 h=>xM h,fun z0 z0 z0 z0 O h=>q03 (A.2 O h)⟩
 | bop i l L=>exact⟨O6 L,fun z0 z0 z0 z0 O h=>q01 (L.ts O h)⟩
 | bin op a b A B=>exact⟨fun z0 z0 z0 z0 O h=>OK (A.1 O (zZ h).1) (B.1 O (zZ h).2),fun z0 z0 z0 z0 z0 h=>xM h⟩
 | cmp op a b A B=>exact⟨fun z0 z0 z0 z0 O h=>yB h fun h1 h=>OL O.S O.hr (fU h1) (A.1 O (zZ h).1) (B.1 O (zZ h).2),fun z0 z0 z0 z0 O h=>yB h fun h1 h=>q02 O.S O.hr (fU h1) (A.1 O (zZ h).1) (B.1 O (zZ h).2)⟩
 | ite t a b T A B=>exact⟨fun z0 z0 z0 z0 O h=>yB h fun h1 h=>OO (T.2 O h1) (A.1 O (zZ h).1) (B.1 O (zZ h).2),fun z0 z0 z0 z0 z0 h=>xM h⟩
 | tup l L=>exact⟨fun z0 z0 z0 z0 O h=>yB h fun h1 h=>OY (oO h1) (L.es O h),fun z0 z0 z0 z0 z0 h=>xM h⟩
 | lst l L=>exact⟨fun z0 z0 z0 z0 O h=>yB h fun h1 h=>OQ (oO h1) (L.es O h),fun z0 z0 z0 z0 z0 h=>xM h⟩
 | newo l L=>exact⟨fun z0 z0 z0 z0 O h=>yB h fun h1 h=>Q7 (g:=false) (oO h1) (L.es O h) fun z0 z0 q=>q,fun z0 z0 z0 z0 z0 h=>xM h⟩
 | newg l L=>exact⟨fun z0 z0 z0 z0 O h=>yB h fun h1 h=>Q7 (g:=true) (oO h1) (L.es O h) fun z0 z0 q=>q,fun z0 z0 z0 z0 z0 h=>xM h⟩
 | dicto k=>exact⟨fun z0 z0 z0 z0 z0 z0=>VY (g:=false) fun z0 z0 q=>q,fun z0 z0 z0 z0 z0 h=>xM h⟩
 | dictg k=>exact⟨fun z0 z0 z0 z0 z0 z0=>VY (g:=true) fun z0 z0 q=>q,fun z0 z0 z0 z0 z0 h=>xM h⟩
 | comp x tg it ifs X I L=>exact⟨RN X.1 I.1 L,fun z0 z0 z0 z0 z0 h=>xM h⟩
 | dcomp x it I=>exact⟨fun z0 z0 z0 z0 z0 h=>xM h,fun z0 z0 z0 z0 z0 h=>xM h⟩
 | call f l F L=>exact RM F.1 L
 | new n l L=>exact⟨O8 L,fun z0 z0 z0 z0 z0 h=>xM h⟩
 | meth o n l H L=>exact⟨RP H.1 L,fun z0 z0 z0 z0 z0 h=>xM h⟩
 | b1 n a A=>exact q3Y A.1
 | b2 n a b A B=>exact⟨q3Z A.1 B.1,fun z0 z0 z0 z0 z0 h=>xM h⟩
 | pop o H=>exact⟨fun z0 z0 z0 z0 O h=>yB h fun M h=>OU O.S (zZ M).1 (zZ M).2 (H.1 O h),fun z0 z0 z0 z0 z0 h=>xM h⟩
 | m1 n o x H X=>exact⟨fun z0 z0 z0 z0 O h=>yB h fun M h=>q4C O.S (zZ M).1 (zZ M).2 (gN _ _) (H.1 O (zZ h).1) (X.1 O (zZ h).2),fun z0 z0 z0 z0 z0 h=>xM h⟩
 | get o k d H K D=>exact⟨fun z0 z0 z0 z0 O h=>yB h fun M h=>yB h fun h1 h=>OM O.S O.hr (zZ M).1 (zZ M).2 (gN _ _) (gN _ _) (H.1 O h1) (K.1 O (zZ h).1) (D.1 O (zZ h).2),fun z0 z0 z0 z0 z0 h=>xM h⟩
 | sdl o k H K=>exact⟨fun z0 z0 z0 z0 O h=>yB h fun M h=>OW O.S (zZ M).1 (zZ M).2 (gN _ _) (H.1 O (zZ h).1) (K.1 O (zZ h).2),fun z0 z0 z0 z0 z0 h=>xM h⟩
 | attr o n H=>exact⟨fun z0 z0 z0 z0 O h=>yB h fun h1 h=>C2 O.S (qX.mp (zZ h).1) h1 (H.1 O (zZ h).2),fun z0 z0 z0 z0 z0 h=>xM h⟩
 | slice o x y H X Y=>exact⟨P7 H.1 X.1 Y.1,fun z0 z0 z0 z0 z0 h=>xM h⟩
 | subf o i H I=>exact⟨fun z0 z0 z0 z0 O h=>yB h fun h1 h=>q4B O.S (QA O.S O.hr (.inr (.inr rfl)) (YI i _) (H.1 O h1) (I.1 O h)),fun z0 z0 z0 z0 z0 h=>xM h⟩
 | bad=>exact⟨fun z0 z0 z0 z0 z0 h=>xM h,fun z0 z0 z0 z0 z0 h=>xM h⟩
 | nil=>exact PA
 | cons x l X L=>exact VS X L
end
section
noncomputable def q58:Stmt->List Expr×List Stmt×List Stmt×Option Expr
 | .Assign t v _=>([hd t,v],[],[],none)
 | .AugAssign t _ v _=>([t,v],[],[],none)
 | .Expr v _=>([v],[],[],none)
 | .If t b c _=>([t],b,c,none)
 | .While t b _ _=>([t],b,[],none)
 | .For t i b _ _=>([t,i],b,[],none)
 | .Return v _=>([],[],[],v)
 | _=>([],[],[],none)
noncomputable def q8K(s:Stmt):List Expr:=(q58 s).1
noncomputable def SG(s:Stmt):List Stmt:=(q58 s).2.1
noncomputable def q7E(s:Stmt):List Stmt:=(q58 s).2.2.1
noncomputable def q48(s:Stmt):Option Expr:=(q58 s).2.2.2
noncomputable def sE(s:Stmt)(n:Nat):Expr:=og (q8K s)[n]?
noncomputable def q7I(l:List Stmt):Stmt:=match l.head? with
 | some s=>s
 | none=>.Continue ⟨0,0,0,0⟩
noncomputable def A8:Sx->Bool
 | .frz _=>true
 | _=>false
noncomputable def HX(t e:Expr)(s:Stmt):Stmt:=.Assign [t] e s.pos
def tA(o:Ex)(n:String)(t:Expr):Expr:=.Attribute (mk o (xC t 0)) (tx n) t.pos
def q7T(o i:Ex)(t:Expr):Expr:=.Subscript (mk o (xC t 0)) (mk i (xC t 1)) t.pos
def IN(t:Expr)(op:Op)(e:Ex)(s:Stmt):Stmt:=.AugAssign t (Q2 op) (mk e (sE s 1)) s.pos
def q7P(x:Sx):Stmt->Stmt:=Sx.rec (motive_1:=fun z0=>Stmt->Stmt) (motive_2:=fun z0=>List Stmt->List Stmt)
 (fun x e s=>HX (nE x (sE s 0)) (mk e (sE s 1)) s)
 (fun xs e s=>HX (R7 (.tp xs) (sE s 0)) (mk e (sE s 1)) s)
 (fun o n e s=>HX (tA o n (sE s 0)) (mk e (sE s 1)) s)
 (fun o i e s=>HX (q7T o i (sE s 0)) (mk e (sE s 1)) s)
 (fun x op e s=>IN (nE x (sE s 0)) op e s)
 (fun o n op e s=>IN (tA o n (sE s 0)) op e s)
 (fun o i op e s=>IN (q7T o i (sE s 0)) op e s)
 (fun e s=>.Expr (mk e (sE s 0)) s.pos)
 (fun t z0 z0 B D s=>.If (mk t (sE s 0)) (B (SG s)) (D (q7E s)) s.pos)
 (fun t z0 B s=>.While (mk t (sE s 0)) (B (SG s)) [] s.pos)
 (fun tg it z0 B s=>.For (R7 tg (sE s 0)) (mk it (sE s 1)) (B (SG s)) [] s.pos)
 (fun e s=>.Return ((q48 s).map (mk e)) s.pos)
 (fun z0 s=>s) (fun s=>.Continue s.pos) (fun z0 z0 z0 s=>s) (fun s=>s)
 (fun z0=>[]) (fun x z0 X L es=>match A8 x with
  | true=>L es
  | false=>X (q7I es)::L es.tail) x
def nQ(l:List Sx)(es:List Stmt):List Stmt:=SG (q7P (.whl .bad l) (.While (og none) es [] ⟨0,0,0,0⟩))
def q7G(x:Sx):Sx:=Sx.rec (motive_1:=fun z0=>Sx) (motive_2:=fun z0=>List Sx) (fun x e=>.asg x (fx e)) (fun xs e=>.asgT xs (fx e)) (fun o n e=>.asgA (fx o) n (fx e)) (fun o i e=>.asgS (fx o) (fx i) (fx e)) (fun x op e=>.augN x op (fx e)) (fun o n op e=>.augA (fx o) n op (fx e)) (fun o i op e=>.augS (fx o) (fx i) op (fx e))
 (fun e=>.ex (fx e)) (fun t z0 z0=>.iff (fx t)) (fun t z0=>.whl (fx t)) (fun tg it z0=>.for_ tg (fx it)) (fun e=>.ret (fx e)) .frz .cont .defn .bad [] (fun z0 z0=>.cons) x
noncomputable def q8A:Sx->List Sx
 | .whl _ b=>b
 | _=>[]
def rZ(l:List Sx):List Sx:=q8A (q7G (.whl .bad l))
noncomputable def X7(nm:Nm)(wr:List String)(x:String):Bool:=nm.lookup (tx x)==some .local||(wr.contains x&&nm.lookup (tx x)==some .cell)
noncomputable def U6(nm:Nm)(x:String)(p:Pos)(sc:Scope)(q:Pos):Bool:=nm.lookup (tx x)==some .local&&p.line==q.line&&!(sc.names.any fun (n,k)=>n==tx x&&(k==.local||k==.cell))
noncomputable def iN:Op->Bool
 | .add=>true
 | .sub=>true
 | _=>false
noncomputable def pl:Ex->Nat
 | .tup _=>1
 | .comp ..=>2
 | .dcomp ..=>2
 | _=>0
noncomputable def q40(x:Ex):Bool:=Nat.beq (pl x) 0
def LU(nm:Nm)(x:String)(p:Pos)(v:Expr):Ex->Bool
 | .dcomp k it=>U6 nm x p (C1 v) v.pos&&(W4 nm (C1 v) (.nm k)&&(ok it 0 nm (xC v 3)&&NU (YZ nm (C1 v).names) k))
 | e=>ok e 0 nm v
def q7S(x:Sx):Bool->Nm->List String->Stmt->Bool:=Sx.rec (motive_1:=fun z0=>Bool->Nm->List String->Stmt->Bool) (motive_2:=fun z0=>Nm->List String->List Stmt->Bool)
 (fun x e z0 nm wr s=>X7 nm wr x&&LU nm x (sE s 0).pos (sE s 1) e)
 (fun xs e z0 nm wr s=>xs.all (X7 nm wr)&&(q40 e&&ok e 0 nm (sE s 1)))
 (fun o n e z0 nm wr s=>pK.contains n&&(q40 e&&(ok o 0 nm (xC (sE s 0) 0)&&ok e 0 nm (sE s 1))))
 (fun o i e z0 nm wr s=>q40 e&&(ok o 0 nm (xC (sE s 0) 0)&&(ok i 0 nm (xC (sE s 0) 1)&&ok e 0 nm (sE s 1))))
 (fun x op e z0 nm wr s=>!bq x ".0"&&(X7 nm wr x&&(iN op&&ok e 0 nm (sE s 1))))
 (fun o n op e z0 nm wr s=>pK.contains n&&(iN op&&(ok o 0 nm (xC (sE s 0) 0)&&ok e 0 nm (sE s 1))))
 (fun o i op e z0 nm wr s=>iN op&&(ok o 0 nm (xC (sE s 0) 0)&&(ok i 0 nm (xC (sE s 0) 1)&&ok e 0 nm (sE s 1))))
 (fun e z0 nm wr s=>q40 e&&ok e 0 nm (sE s 0))
 (fun t z0 z0 B D z0 nm wr s=>ok t 1 nm (sE s 0)&&(B nm wr (SG s)&&D nm wr (q7E s)))
 (fun t z0 B m nm wr s=>(m||ok t 1 nm (sE s 0))&&B nm wr (SG s))
 (fun tg it z0 B z0 nm wr s=>match tg with
  | .nm x=>X7 nm wr x&&(ok it 0 nm (sE s 1)&&B nm wr (SG s))
  | _=>false)
 (fun e z0 nm wr s=>match q48 s with
  | some v=>ok e 0 nm v
  | none=>oJ e)
 (fun z0 z0 z0 z0 z0=>false) (fun z0 z0 z0 z0=>true) (fun z0 z0 z0 z0 z0 z0 z0=>false) (fun z0 z0 z0 z0=>true)
 (fun z0 z0 z0=>true) (fun x z0 X L nm wr es=>match A8 x with
  | true=>L nm wr es
  | false=>X false nm wr (q7I es)&&L nm wr es.tail) x
def J0(l:List Sx)(nm:Nm)(wr:List String)(es:List Stmt):Bool:=q7S (.whl .bad l) true nm wr (.While (og none) es [] ⟨0,0,0,0⟩)
end
def Y2{env:Env}(hk:env.scope.kind=.function):interactive env=false:=by unfold interactive; rw[hk]; rfl
def ZD{env:Env}(hk:env.scope.kind=.function):env.blockKind=.function:=by unfold Env.blockKind; rw[hk]; rfl
def mJ{op:Op}(h:iN op=true):op=.add\/op=.sub:=by cases op <;> first | exact .inl rfl | exact .inr rfl | exact xM h
def IU:∀(x:Ex)(e:Expr)(ov iv new:Value),augStore (mk x e) ov iv new=(holding [new,ov,iv] (setItem ov iv new) >>= fun z0=>release [new,ov,iv] [] >>= fun z0=>pure Flow.next):=fun x e ov iv new=>by
 cases x with
 | b1 n a=>cases n <;> rfl
 | b2 n a b=>cases n <;> rfl
 | _=>rfl
def Q4:∀{x:Ex}{e:Expr},q40 x=true->pC (mk x e)=true:=fun {x e} h=>by
 cases x with
 | b1 n a=>cases n <;> rfl
 | b2 n a b=>cases n <;> rfl
 | _=>first | rfl | exact xM h
def O9:∀{x:Ex}{e:Expr}(t:Option Expr)(l:Nat)(env:Env),Nat.ble (pl x) 1=true->swapsWith (mk x e) t l env=pure false:=fun {x e} t l env h=>by
 cases x with
 | b1 n a=>cases n <;> rfl
 | b2 n a b=>cases n <;> rfl
 | _=>first | rfl | exact xM h
section
variable{C:yA}{c:Fx}{nm:Nm}{wr:List String}{x:String}{e:Ex}{v:Expr}{p pos:Pos}
def hJ(O:mI c C nm)(h:X7 nm wr x=true):wH c.env wr x:=by
 unfold wH;exact(nK O)▸((Bool.or_eq_true_iff.mp h).imp eq_of_beq fun z=>⟨qX.mp (zZ z).1,eq_of_beq (zZ z).2⟩)
def i5{q spos:Pos}{a:Expr}{gs:List Comprehension}{sc:Scope}(O:mI c C nm):swapsWith (.ListComp a gs sc q) (some (.Name (tx x) p)) spos.line c.env=pure (U6 nm x p sc q):=by
 show pure (c.env.blockKind==.function&&c.env.kindOf (tx x)==some .local&&p.line==q.line&&!(sc.names.any fun (n,k)=>n==tx x&&(k==.local||k==.cell)))=_;rw[ZD O.hk,nK O];rfl
def TX{q spos:Pos}{a b:Expr}{gs:List Comprehension}{sc:Scope}(O:mI c C nm):swapsWith (.DictComp a b gs sc q) (some (.Name (tx x) p)) spos.line c.env=pure (U6 nm x p sc q):=by
 show pure (c.env.blockKind==.function&&c.env.kindOf (tx x)==some .local&&p.line==q.line&&!(sc.names.any fun (n,k)=>n==tx x&&(k==.local||k==.cell)))=_;rw[ZD O.hk,nK O];rfl
def ee(O:mI c C nm)(h:ok e 0 nm v=true):∀ρ,SE c ρ (eval (mk e v) c.env) (we C (fx e) ρ):=fun ρ=>(FV e).1 O h
def tt(O:mI c C nm)(h:ok e 1 nm v=true):∀ρ,ST c ρ (isTrue (mk e v) c.env (eval (mk e v) c.env)) (wt C (fx e) ρ):=fun ρ=>(FV e).2 O h
def XY(O:mI c C nm)(W:rV c wr)(hs:wH c.env wr x)(h:LU nm x p v e=true):SX c (exec (.Assign [.Name (tx x) p] (mk e v) pos) c.env) (ws C (.asg x (fx e))):=by
 cases e with
 | dcomp k it =>
  exact yB h fun h1 h=>yB h fun h3 h=>yB h fun h5 h6 =>
   have CO:=pQ O h3
   QN O.hr (VN it _ _) W hs (h1▸TX O) CO ⟨_,rfl⟩ (ee O h5) (fun cl P N ρ=>JS (lK O CO cl P N) h6) fun cl P N ρ=>Q7 (g:=true) (pH:=[]) (zA _) PY fun z0 z0 q=>q
 | comp a b d f =>
  cases hw:U6 nm x p (C1 v) v.pos with
  | false=>exact NF W hs (hw▸i5 O) (ee O h)
  | true =>
   exact yB h fun h2 h=>yB h fun h4 h=>yB h fun h5 h6 =>
   have CO:=pQ O h2
   XC O.hr (VN d _ _) W hs (hw▸i5 O) CO (WW b _) (ee O h4) (fun cl P N=>ee (lK O CO cl P N) h5) fun cl P N ρ=>(AL FV f).tl (lK O CO cl P N) h6
 | _=>exact NF W hs (O9 _ _ _ rfl) (ee O h)
def XD:SX c (exec (.Return none pos) c.env) (ws C (.ret (.c .none))):=fun ρ p Q R h q k =>
 wpAny_Return_none (k ρ p (.ret .none) _ h .refl ⟨.none,rfl,rfl⟩ q)
end
section
def q4X(C:yA)(x:Sx):Prop:=∀⦃nm wr e c⦄,mI c C nm->rV c wr->q7S x false nm wr e=true->SX c (exec (q7P x e) c.env) (ws C (q7G x))
def q4W(C:yA)(l:List Sx):Prop:=∀⦃nm wr es c⦄,mI c C nm->rV c wr->J0 l nm wr es=true->SX c (execs (nQ l es) c.env) (xA C (rZ l))
end
section
variable{C:yA}
def OB{tg:Tg}{it:Ex}{b:List Sx}(B:q4W C b):q4X C (.for_ tg it b):=fun nm wr s c O W h=>by
 cases tg with
 | tp xs=>exact xM h
 | nm x=>exact yB h fun h1 h=>yB h fun h2 h3=>q05 O.hr W (hJ O h1) (VN it _ _) (ee O h2) fun I=>B (c:=c.keepI I) ⟨O.S,O.hr,O.hC,O.hC',O.hn,O.hk⟩ ⟨W.privL,W.wr,W.apart,W.neL⟩ h3
def OC{e:Ex}:q4X C (.ret e):=fun nm wr s c O W h=>by
 show SX c (exec (.Return ((q48 s).map (mk e)) s.pos) c.env) _;revert h;show(match q48 s with
  | some v=>ok e 0 nm v
  | none=>oJ e)=true->_
 cases q48 s with
 | some v=>exact fun h=>q08 (ee O h)
 | none=>exact fun h=>by cases BH h; exact XD
def RT{x:Sx}{l:List Sx}(X:q4X C x)(L:q4W C l):q4W C (x::l):=fun nm wr es c O W h=>by
 cases x with
 | frz y=>exact q06 O.S (L O W h)
 | cont=>exact QO (X O W rfl) (L O W h)
 | bad=>exact QO (X O W rfl) (L O W h)
 | defn=>exact xM h
 | _=>exact yB h fun a b=>QO (X O W a) (L O W b)
def U7:∀l,q4W C l:=by
 intro l
 induction l using Sx.rec_1 (motive_1:=q4X C)with
 | asg x e=>exact fun z0 z0 z0 z0 O W h=>XY O W (hJ O (zZ h).1) (zZ h).2
 | asgT xs e=>exact fun z0 z0 z0 z0 O W h=>yB h fun h1 h=>CS O.hr W (WW.mkNs_e xs _) (fun x hx=>hJ O (z6.mp h1 x hx)) (Q4 (zZ h).1) (ee O (zZ h).2)
 | asgA o n e=>exact fun z0 z0 z0 z0 O W h=>yB h fun h1 h=>yB h fun h2 h=>CQ O.S (qX.mp h1) (Q4 h2) (ee O (zZ h).1) (ee O (zZ h).2)
 | asgS o i e=>exact fun z0 z0 z0 z0 O W h=>yB h fun h1 h=>yB h fun h2 h=>CR O.S O.hr (Q4 h1) (ee O (zZ h).2) (ee O h2) (ee O (zZ h).1)
 | augN x op e=>exact fun z0 z0 z0 z0 O W h=>yB h fun h1 h=>yB h fun h2 h=>CU (mJ (zZ h).1) W (hJ O h2) (of_decide_eq_false (fU h1)) (ee O (zZ h).2)
 | augA a n op e=>exact fun z0 z0 z0 z0 O W h=>yB h fun h1 h=>yB h fun h2 h=>CT O.S (mJ h2) (qX.mp h1) (ee O (zZ h).1) (ee O (zZ h).2)
 | augS a i op e=>exact fun z0 z0 z0 z0 O W h=>yB h fun h1 h=>yB h fun h2 h=>CV O.S O.hr (mJ h1) (YI i _) (IU i _) (ee O h2) (ee O (zZ h).1) (ee O (zZ h).2)
 | ex e=>exact fun z0 z0 z0 z0 O W h=>q4H (Y2 O.hk) (Q4 (zZ h).1) (ee O (zZ h).2)
 | iff t b d B D=>exact fun z0 z0 z0 z0 O W h=>yB h fun h1 h=>NG (tt O h1) (B O W (zZ h).1) (D O W (zZ h).2)
 | whl t b B=>exact fun z0 z0 z0 z0 O W h=>q09 (tt O (zZ h).1) (B O W (zZ h).2)
 | for_ tg it b B=>exact OB B
 | ret e=>exact OC
 | frz x=>exact fun z0 z0 z0 z0 z0 z0 h=>xM h
 | cont=>exact fun z0 z0 z0 z0 z0 z0 z0=>CW
 | defn x n cs=>exact fun z0 z0 z0 z0 z0 z0 h=>xM h
 | bad=>exact fun z0 z0 z0 z0 z0 z0 z0 z0 z0 z0 z0 z0 q=>False.elim q
 | nil=>exact fun z0 z0 z0 z0 z0 z0 z0=>q07
 | cons x l X L=>exact RT X L
end
def mE(A:Around)(args:Args):(A.under (.builtin "type.__call__" args)).handled=A.handled/\(A.under (.builtin "type.__call__" args)).depth<=A.depth+1/\(A.under (.builtin "type.__call__" args)).units=A.units+1:=by
 refine⟨rfl,?_,rfl⟩;obtain⟨l,kw⟩:=args;cases l with
 | nil=>exact Nat.le_succ _
 | cons v r=>cases v <;> first | exact Nat.le_succ _ | exact qT _
set_option genCtorIdx false in
structure q1E (l:List Sx) (nm:Nm) (wr:List String) (b:List Stmt):Prop where
 ok:J0 l nm wr b=true
 tr:nQ l b=b
 fx:rZ l=l
def MV{C:yA}{c:Fx}{nm:Nm}{wr:List String}{l:List Sx}{b:List Stmt}(K:q1E l nm wr b)(O:mI c C nm)(W:rV c wr):SX c (execs b c.env) (xA C l):=by
 have z:=U7 l O W K.ok;rw[K.tr,K.fx]at z;exact z
def cM(X:Cx)(p:String×x6):Prop :=
 ∃o fd b Wr,X.H.get? (X.FA p.1)=some o/\o.data=.func fd/\fd.closure=[]/\p.2.caps=[]/\Z6 X X.H p.2 fd b/\(∀x∈Wr,fd.scope.names.lookup (tx x)=some .cell)/\q1E p.2.body fd.scope.names Wr b
def iL(X:Cx):Prop:=∀f names fd,X.CL f names fd->f="roll"/\fd.defaults=.none/\names=wC.caps/\∃b,q0L wC fd b/\wC.dflt=[]/\q1E wC.body fd.scope.names [] b
def Z6.keeps{X:Cx}{h h':Heap}{d:x6}{fd:FuncData}{b:List Stmt}(x:Z6 X h d fd b)(k:∀b o,h.get? b=some o->h'.get? b=some o):Z6 X h' d fd b :=
 ⟨x.fs,x.crec.keeps k,x.dfl.elim fun r q=>⟨r,q.1.keeps k,q.2⟩⟩
def q0Z{f:String}{d:x6}(h:D f=some d):(f,d)∈XS:=by
 unfold D at h;refine wI (zN.mp h) fun q hq e=>?_;exact(((eq_of_beq (List.find?_some (p:=fun p:String×x6=>p.1==f) hq):q.1=f)))▸(e)▸(List.mem_of_find?_eq_some hq)
def VW{A A':Around}{n:Nat}(h:w5 (n+1) A)(h1:A'.handled=none)(h2:A'.depth<=A.depth+2)(h3:A'.units<=A.units+4):w5 n A' :=
 ⟨h1,qI (yX [_,_,_] (LF.c 1 (.v 0) (.a (.v 1) (.k 4)) .n) 0 (.a (.a (.v 0) (.m 20 (.v 2))) (.k 60)) (.a (.a (.v 1) (.m 20 (.a (.v 2) (.k 1)))) (.k 60)) rfl h3) h.2.1,qI (yX [_,_,_] (LF.c 1 (.v 0) (.a (.v 1) (.k 2)) .n) 0 (.a (.v 0) (.m 2 (.v 2))) (.a (.v 1) (.m 2 (.a (.v 2) (.k 1)))) rfl h2) h.2.2⟩
def w5.room{A:Around}{n:Nat}(h:w5 n A):wX A:=⟨h.1,qI (Nat.add_le_add (qJ ..) (by decide)) h.2.1⟩
def w5.le{m n:Nat}{A:Around}(h:w5 n A)(l:m<=n):w5 m A:=⟨h.1,qI (qR (qL (zR 20 l) _) _) h.2.1,qI (qL (zR 2 l) _) h.2.2⟩
section
variable{c:Fx}{p:Mt}{f:String}{cap vs:List V}{Q:Kv}{a:Addr}{args:List Value}{R:Value->Shared->Prop}{n:Nat}{A:Around}{C:yA}{d:x6}{nm:Nm}{Wr:List String}{body:List Sx}{b:List Stmt}
def PR(S:yW c.X)(hn:w5 (n+1) A)(IH:∀A':Around,w5 n A'->jJ c.X A' C)(h:q1E body nm Wr b)(c':Fx)(hX:c'.X=c.X)(h1:c'.env.scope.names=nm)(h2:c'.env.scope.kind=.function)(h3:c'.A=A.deeper c'.env)(r:w5 n c'.A)(W:rV c' Wr):SX c' (execs b c'.env) (xA C body) :=
 MV h ⟨hX▸S,r.room,hX▸IH _ r,fun args=>have u:=mE c'.A args; hX▸IH _ (VW hn (u.1.trans r.1) (qF u.2.1 (h3▸⟨qT _,qT _⟩:c'.A.units+1<=A.units+4/\c'.A.depth+1<=A.depth+2).2) (u.2.2▸(h3▸⟨qT _,qT _⟩:c'.A.units+1<=A.units+4/\c'.A.depth+1<=A.depth+2).1)),h1,h2⟩ W
def UW(S:yW c.X)(hlim:c.X.H.NoLimit)(F:cM c.X (f,d))(hn:w5 (n+1) A)(IH:∀A':Around,w5 n A'->jJ c.X A' C)(hc:c.own=no)(hb:cW p)(G:yJ c p)(q:uR C (some d) [] vs Q p.σ)(ra:y6 (c.V p) vs args)
  (k:∀p' x v,yJ c p'->cW p'->yC no p p'->c.V p' x v->Q x p'.σ->R v p'.s):(∃o fd,p.s.heap.get? (c.X.FA f)=some o/\o.data=.func fd)/\codeAny (model c.X.prog c.X.w) A (.call (.ref (c.X.FA f)) ⟨args,[]⟩) (fun r s'=>∃v,r=.ok (.ret v)/\R v s') p.s :=
 uN F fun o fd b Wr z=>
  ⟨⟨o,fd,G.base _ _ z.1,z.2.1⟩,ZG (Wr:=Wr) (us:=[]) hn (hlim.keeps G.base) (G.base _ _ z.1) z.2.1 (z.2.2.2.2.1.keeps G.base) z.2.2.2.2.2.1 (fun c' hX h1 h2 r W=>PR S hn IH z.2.2.2.2.2.2 c' hX (congrArg Scope.names h1) (h1▸z.2.2.2.2.1.fs.kind) h2 r W) q G hc hb ra (z.2.2.1▸(z.2.2.2.1:d.caps=[])▸trivial) (z.2.2.1▸trivial) trivial k⟩
def WG(S:yW c.X)(hlim:c.X.H.NoLimit)(hn:w5 (n+1) A)(IH:∀A':Around,w5 n A'->jJ c.X A' C)(hc:c.own=no)(hb:cW p)(G:yJ c p)(q:uR C (some wC) cap vs Q p.σ)(ra:y6 (c.V p) vs args){us:List Value}{o:Obj}{fd:FuncData}{ca:Addr}{ns:List String}(ru:y6 (c.V p) cap us)(K:GC c.X (NN c.Pv p) p.s.heap f us a o fd ca ns)(hdf:fd.defaults=.none)(hns:ns=wC.caps)(hfs:q0L wC fd b)(hdd:wC.dflt=[])(hk:q1E wC.body fd.scope.names [] b)
  (k:∀p' x v,yJ c p'->cW p'->yC no p p'->c.V p' x v->Q x p'.σ->R v p'.s):(∃o fd,p.s.heap.get? a=some o/\o.data=.func fd)/\codeAny (model c.X.prog c.X.w) A (.call (.ref a) ⟨args,[]⟩) (fun r s'=>∃v,r=.ok (.ret v)/\R v s') p.s :=
 ⟨⟨o,fd,K.get,K.dat⟩,ZG (Wr:=[]) hn (hlim.keeps G.base) K.get K.dat ⟨hfs,K.code▸K.crec,none,hdf▸Looks.of_pure rfl,fun z0 z0 z0 z0=>hdd▸trivial⟩ (fun x hx=>absurd hx qW) (fun c' hX h1 h2 r W=>PR S hn IH hk c' hX (congrArg Scope.names h1) (h1▸hfs.kind) h2 r W) q G hc hb ra (hns▸K.nms) K.cells ru k⟩
end
def ZT{X:Cx}(S:yW X)(hlim:X.H.NoLimit)(FO:∀p∈XS,p.1≠"roll"->cM X p) (RO:iL X) (hroll:D "roll"=some wC) {n:Nat} {A:Around} {C:yA} (hn:w5 (n+1) A)
  (IH:∀A':Around,w5 n A'->jJ X A' C):jJ X A (fun f=>uR C (D f)):=fun c p f cap vs Q a args R hX hc hb G q F ra k=>by
 subst hX;have q:uR C (D f) cap vs Q p.σ:=q;refine qG fun ng=>?_;cases hD:D f with
 | none=>rw[hD]at q; exact q.elim
 | some d =>
  refine ng ?_;rw[hD]at q;rcases F with⟨rfl,rfl,hne⟩ | F
  ·exact UW S hlim (FO (f,d) (q0Z hD) hne) hn IH hc hb G q ra k
  ·exact F.elim fun us z=>uN z.2.2 fun o fd ca ns K=>
    have r:=RO _ _ _ K.cl
    r.2.2.2.elim fun b w=>WG S hlim hn IH hc hb G (((qN (hD.symm.trans ((congrArg D r.1).trans hroll)):d=wC))▸q) ra (gR z.1) K r.2.1 r.2.2.1 w.1 w.2.1 w.2.2 k
def IG{X:Cx}(S:yW X)(hlim:X.H.NoLimit)(FO:∀p∈XS,p.1≠"roll"->cM X p) (RO:iL X) (hroll:D "roll"=some wC):∀(n:Nat)(A:Around),w5 n A->jJ X A (D3 D n):=by
 intro n
 induction n with
 | zero=>exact fun A z0 c p f cap vs Q a args R z0 z0 z0 z0 q=>False.elim q
 | succ n ih=>exact fun A hn=>ZT S hlim FO RO hroll hn ih
def F4{X:Cx}(S:yW X)(hlim:X.H.NoLimit)(FO:∀p∈XS,p.1≠"roll"->cM X p) (RO:iL X) (hroll:D "roll"=some wC):∀(n:Nat)(A:Around),w5 (n+6) A->jJ X A (y4 D n):=by
 intro n
 induction n with
 | zero=>exact fun A z0 c p f cap vs Q a args R z0 z0 z0 z0 q=>False.elim (by with_unfolding_all exact q)
 | succ n ih =>
  refine fun A hn=>KG▸ZT S hlim FO RO hroll (C:=xP D (y4 D n)) (n:=n+6) hn fun A' h'=>?_;intro c p f cap vs Q a args R hX hc hb G q F ra k;refine qG fun ng=>?_;cases e:BP f with
  | true=>exact ng (IG S hlim FO RO hroll 6 A' (h'.le (qP ..)) c p f cap vs Q a args R hX hc hb G (by unfold xP at q; rw[e]at q; exact q) F ra k)
  | false=>exact ng (ih A' h' c p f cap vs Q a args R hX hc hb G (by unfold xP at q; rw[e]at q; exact q) F ra k)
end
section
open PySem PySem.W PyProof.Rows
section
set_option tactic.hygienic true
set_option backward.match.sparseCases true
set_option genCtorIdx false in
structure j9 (X:Cx) (h0:Heap):Prop where
 K:X.K=BS h0
 FA:X.FA=gV h0
 gk:∀b o,h0.get? b=some o->o≠tabObj #[]->X.H.get? b=some o
section
variable{X:Cx}{h0:Heap}
def cZ{o:Obj}{n:String}(h:o.cls=.type n):o≠tabObj #[]:=fun e=>Value.noConfusion ((congrArg Obj.cls e).symm.trans h)
def KM{o:Obj}(h:∀vs,o.data≠.fields vs):o≠tabObj #[]:=fun e=>h #[] (congrArg Obj.data e)
def j9.ns(U:j9 X h0){a:Addr}{m:PySem.Str->Option Value}(x:h0.Ns a m):X.H.Ns a m :=
 gE x fun o es ep x=>⟨o,es,ep,U.gk _ _ x.1 (KM fun vs=>x.2.1▸fun z=>Data.noConfusion z),x.2⟩
def j9.kin(U:j9 X h0)(h:VA (BS h0)=true):X.K.In X.H:=fun a o e=>by
 rw[U.K]at e;refine U.gk _ _ (EY h0 a o e) fun q=>?_;have h2:=z6.mp h (a,o) (mem_of_lookupK e);subst q;exact ff h2
def SN(U:j9 X h0){c:String}(h:FB (BS h0) (gV h0) c=true):LL X.K X.FA c:=by
 rw[U.K,U.FA];have a:=fun {a b:Bool} (h:(a&&b)=true)=>zE.mp h;exact⟨eq_of_beq (a (a (a (a (a (a (a (a (a h).1).1).1).1).1).1).1).1).1,eq_of_beq (a (a (a (a (a (a (a (a (a h).1).1).1).1).1).1).1).1).2,eq_of_beq (a (a (a (a (a (a (a (a h).1).1).1).1).1).1).1).2,(a (a (a (a (a (a (a h).1).1).1).1).1).1).2,(a (a (a (a (a (a h).1).1).1).1).1).2,(a (a (a (a (a h).1).1).1).1).2,eq_of_beq (a (a (a (a h).1).1).1).2,(a (a (a h).1).1).2,eq_of_beq (a (a h).1).2,fun n hn=>eq_of_beq (z6.mp (a h).2 n hn)⟩
def HY(U:j9 X h0){p:String×String}(h:oV (BS h0) (gV h0) p=true):findIn X.K (.ref (X.FA p.1)) (tx p.2)=some (some (.ref (X.FA (p.1++"."++p.2))))/\typeIn X.K (.ref (X.FA (p.1++"."++p.2)))=some (.type "function"):=by
 exact(U.K)▸(U.FA)▸((zE.mp h).imp eq_of_beq eq_of_beq)
def q0W(x:V):WData:=V.rec (motive_1:=fun z0=>WData) (motive_2:=fun z0=>List WData) .none (fun z0=>.none) .int (fun s=>.str ⟨s.toArray⟩) (fun z0 l=>.tuple l) (fun z0 z0=>.none) (fun z0=>.none) .none (fun z0 z0=>.none) (fun z0 z0=>.none) (fun z0=>.none) (fun z0=>.none) (fun z0 z0 z0=>.none) [] (fun z0 z0 x l=>x::l) x
def q4O(l:List V):List WData:=V.rec_1 (motive_1:=fun z0=>WData) (motive_2:=fun z0=>List WData) .none (fun z0=>.none) .int (fun s=>.str ⟨s.toArray⟩) (fun z0 l=>.tuple l) (fun z0 z0=>.none) (fun z0=>.none) .none (fun z0 z0=>.none) (fun z0 z0=>.none) (fun z0=>.none) (fun z0=>.none) (fun z0 z0 z0=>.none) [] (fun z0 z0 x l=>x::l) l
def q54{α:Type}{a:α}{P:Prop}(h:none=some a):P:=absurd (congrArg Option.isSome h) Bool.false_ne_true
def E4{d:Data}{es:List DictEntry}(h:E3 d=some es):∃a n,d=.dict a n/\a.toList=es:=by
 cases d with
 | dict a n=>exact⟨a,n,rfl,qN h⟩
 | _=>exact q54 h
def Q6{o:Option Value}{a:Addr}(h:nV o=some a):o=some (.ref a):=by
 cases o with
 | none=>exact q54 h
 | some v=>cases v with
  | ref b=>exact congrArg (fun b=>some (Value.ref b)) (qN h)
  | _=>exact q54 h
def C9{d:Data}{ds:List WData}(h:(match d with
  | .seq vs _=>litsAt h0 ds vs.toList
  | _=>false)=true):∃vs n,d=.seq vs n/\litsAt h0 ds vs.toList=true:=by
 cases d with
 | seq vs n=>exact⟨vs,n,rfl,h⟩
 | _=>exact ff h
def UC{ds:List WData}{v:Value}(h:litAt h0 (.tuple ds) v=true):∃a o vs n,v=.ref a/\h0.get? a=some o/\o.cls=.type "tuple"/\o.data=.seq vs n/\litsAt h0 ds vs.toList=true:=by
 cases v with
 | ref a =>
  have k:∀o,h0.get? a=some o->(o.cls==.type "tuple"&&(match o.data with
   | .seq vs _=>litsAt h0 ds vs.toList
   | _=>false))=true->∃a' o vs n,Value.ref a=.ref a'/\h0.get? a'=some o/\o.cls=.type "tuple"/\o.data=.seq vs n/\litsAt h0 ds vs.toList=true:=fun o e h=>v4 (C9 (zZ h).2) fun vs n z=>⟨a,o,vs,n,rfl,e,eq_of_beq (zZ h).1,z⟩
  revert h k;show(match h0.get? a with
   | some o=>o.cls==.type "tuple"&&(match o.data with
    | .seq vs _=>litsAt h0 ds vs.toList
    | _=>false)
   | none=>false)=true->_
  cases h0.get? a with
  | none=>exact ff
  | some o=>exact fun h k=>k o rfl h
 | _=>exact ff h
def YD:∀{l:List V},(∀x∈l,∀v,litAt h0 (q0W x) v=true->yG X (fun z0 z0=>none) no X.H x v)->∀vs,litsAt h0 (q4O l) vs=true->j8 X (fun z0 z0=>none) no X.H l vs:=by
 intro l
 induction l with
 | nil=>exact fun z0 vs h=>by cases vs <;> first | rfl | exact ff h
 | cons x l il=>exact fun ih vs h=>by cases vs with
  | nil=>exact ff h
  | cons v vs=>exact⟨v,vs,rfl,ih x (.head _) v (zZ h).1,il (fun x hx=>ih x (.tail _ hx)) vs (zZ h).2⟩
def VD{i:Int}{v:Value}(h:litAt h0 (.int i) v=true):∃t,v=.int i t:=by
 cases v with
 | int j t=>exact⟨t,congrArg (Value.int · t) (eq_of_beq (show(i==j)=true from h)).symm⟩
 | _=>exact ff h
def CM{s:PySem.Str}{v:Value}(h:litAt h0 (.str s) v=true):∃t,v=.str s t:=by
 cases v with
 | str y t=>exact⟨t,congrArg (Value.str · t) (eq_of_beq (show(s==y)=true from h)).symm⟩
 | _=>exact ff h
def oQ(U:j9 X h0):∀(x:V)(v:Value),kS 9 x=true->litAt h0 (q0W x) v=true->yG X (fun z0 z0=>none) no X.H x v:=fun x v k h =>
 uH (P:=fun z0 x=>∀v,litAt h0 (q0W x) v=true->yG X (fun z0 z0=>none) no X.H x v) (fun z0 i v h=>VD h) (fun z0 s v h=>CM h)
  (fun n l z0 ih v h=>uN (UC h) fun a o vs n z=>⟨vs.toList,YD ih _ z.2.2.2.2,a,z.1,id,o,U.gk _ _ z.2.1 (cZ z.2.2.1),z.2.2.1,n,z.2.2.2.1⟩) 9 x k v h
set_option genCtorIdx false in
structure q83 (X:Cx) (es:List DictEntry) (l:List (Int×Int×Int)) (kvs:List (Int×Value)):Prop where
 p:Pairs (intKind X.prog X.w) es kvs
 k:∀e∈es,∃k,(intKind X.prog X.w).is k e.key=true/\e.hash=hashInt k
 n:kvs.map (·.1)=l.map (·.1)
 r:y6 (fun (e:Int×V)(k:Int×Value)=>k.1=e.1/\yG X (fun z0 z0=>none) no X.H e.2 k.2) (l.map fun p=>(p.1,V.tup [.int p.2.1,.int p.2.2])) kvs
def TS(U:j9 X h0){l:List (Int×Int×Int)}:∀{es:List DictEntry},m5 h0 es l=true->∃kvs,q83 X es l kvs:=by
 induction l with
 | nil=>exact fun {es} h=>by cases es with
  | nil=>exact⟨[],.nil,fun z0 h=>absurd h qW,rfl,trivial⟩
  | cons _ _=>exact ff h
 | cons q l ih=>exact fun {es} h=>by cases es with
  | nil=>exact ff h
  | cons e es=>exact yB h fun h1 h=>yB h fun h2 h=>yB h fun h3 h4=>(ih h4).elim fun kvs S =>
    have hk:(intKind X.prog X.w).is q.1 e.key=true:=(VD h1).elim fun t z=>z▸intKind_is _ _ q.1 t
    ⟨(q.1,e.val)::kvs,.cons hk rfl S.p,fun e' he=>(qV.mp he).elim (fun z=>z▸⟨q.1,hk,eq_of_beq h2⟩) (S.k e'),congrArg (q.1::·) S.n,⟨rfl,oQ U (.tup [.int q.2.1,.int q.2.2]) _ rfl h3⟩,S.r⟩
def CH(U:j9 X h0){a:Addr}{o:Obj}(e:h0.get? a=some o)(h:(o.cls==.type "dict"&&(o.dict.isNone&&(o.slots.size==0&&(E3 o.data).any fun es=>m5 h0 es WI)))=true):∃kvs,X.H.DictOf (intKind X.prog X.w) a kvs/\y6 (fun (e:Int×V)(k:Int×Value)=>k.1=e.1/\yG X (fun z0 z0=>none) no X.H e.2 k.2) m4 kvs :=
 yB h fun h1 h=>yB h fun h2 h=>yB h fun h3 h=>((Option.any_eq_true ..).mp h).elim fun es z=>v4 (E4 z.1) fun ea n y=>(TS U (y.2.symm▸z.2:m5 h0 ea.toList WI=true)).elim fun kvs S =>
  ⟨kvs,⟨o,ea,n,U.gk _ _ e (cZ (eq_of_beq h1)),⟨eq_of_beq h1,Option.isNone_iff_eq_none.mp h2,Array.eq_empty_of_size_eq_zero (eq_of_beq h3)⟩,y.1,fun e he=>S.k e (Array.mem_toList_iff.mpr he),S.p,by rw[S.n]; decide⟩,S.r⟩
def aM(U:j9 X h0)(h:N0 h0=true):(∃kvs,X.H.DictOf (intKind X.prog X.w) (X.FA "KID_SPANS") kvs/\y6 (fun (e:Int×V)(k:Int×Value)=>k.1=e.1/\yG X (fun z0 z0=>none) no X.H e.2 k.2) m4 kvs)/\(X.FA "KID_SPANS"==sysModules)=false /\
  h0.nsMap mainGlobals (tx "KID_SPANS")=some (.ref (X.FA "KID_SPANS")) :=
 ((Option.any_eq_true ..).mp h).elim fun a z=>((Option.any_eq_true ..).mp (zZ z.2).2).elim fun o y =>
  (((congrFun U.FA _).trans (congrArg (Option.getD · 0) z.1):X.FA "KID_SPANS"=a)).symm▸⟨CH U y.1 y.2,fU (zZ z.2).1,Q6 z.1⟩
end
end
section
noncomputable def RH(d:x6)(wr:List String)(ps:Arguments)(sc:Scope):Bool :=
 ps.posonlyargs.isEmpty&&(decide (ps.args.map (·.arg)=d.params.map tx)&&(ps.vararg.isNone&&(ps.kwonlyargs.isEmpty&&(ps.kwarg.isNone&&(decide (((d.caps++d.params).map tx).Nodup) &&
 (sc.kind==.function&&(!sc.isCoroutine&&(!sc.isGenerator&&((d.params.all fun x=>sc.names.lookup (tx x)==some .local||sc.names.lookup (tx x)==some .cell) &&
 ((d.caps.all fun x=>sc.names.lookup (tx x)==some .free)&&((sc.names.all fun y=>y.2 != .free||d.caps.any fun x=>tx x==y.1)&&(((sc.names.all fun y=>y.2 != .cell)||d.caps.isEmpty) &&
 (wr.all fun x=>sc.names.lookup (tx x)==some .cell)))))))))))))
def o7{d:x6}{wr:List String}{ps:Arguments}{b:List Stmt}{sc:Scope}(h:RH d wr ps sc=true){fd:FuncData}(h1:fd.params=ps)(h2:fd.body=.stmts b)(h3:fd.scope=sc)(h4:fd.globals=mainGlobals)(h5:fd.builtins=builtinsNs):
  q0L d fd b/\∀x∈wr,fd.scope.names.lookup (tx x)=some .cell:=by
 subst h1 h3;have a10:=zZ (zZ (zZ (zZ (zZ (zZ (zZ (zZ (zZ (zZ h).2).2).2).2).2).2).2).2).2;exact⟨⟨List.isEmpty_iff.mp (zZ h).1,zT (zZ (zZ h).2).1,Option.isNone_iff_eq_none.mp (zZ (zZ (zZ h).2).2).1,List.isEmpty_iff.mp (zZ (zZ (zZ (zZ h).2).2).2).1,Option.isNone_iff_eq_none.mp (zZ (zZ (zZ (zZ (zZ h).2).2).2).2).1,zT (zZ (zZ (zZ (zZ (zZ (zZ h).2).2).2).2).2).1,eq_of_beq (zZ (zZ (zZ (zZ (zZ (zZ (zZ h).2).2).2).2).2).2).1,fU (zZ (zZ (zZ (zZ (zZ (zZ (zZ (zZ h).2).2).2).2).2).2).2).1,fU (zZ (zZ (zZ (zZ (zZ (zZ (zZ (zZ (zZ h).2).2).2).2).2).2).2).2).1,h4,h5,h2,
   fun x hx=>(Bool.or_eq_true_iff.mp (z6.mp a10.1 x hx)).imp eq_of_beq eq_of_beq,fun x hx=>eq_of_beq (z6.mp (zZ a10.2).1 x hx),
   fun y hy=>(Bool.or_eq_true_iff.mp (z6.mp (zZ (zZ a10.2).2).1 _ (yT hy))).elim (fun z=>absurd rfl (bne_iff_ne.mp z)) fun z=>(List.any_eq_true.mp z).elim fun x q=>⟨x,q.1,eq_of_beq q.2⟩,
   (Bool.or_eq_true_iff.mp (zZ (zZ (zZ a10.2).2).2).1).imp (fun z x hx=>bne_iff_ne.mp (z6.mp z x hx)) List.isEmpty_iff.mp⟩,fun x hx=>eq_of_beq (z6.mp (zZ (zZ (zZ a10.2).2).2).2 x hx)⟩
noncomputable def WR:List (String×List String):=[("union",["tab","got"]),("regular",["tab"]),("free_params",["tab"]),("row_elem",["tab"]),
 ("same_decl",["tab","row"]),("close_pairs",["closed"]),("seek_union",["finder","targets","tab"]),("_law_kind",["tab","roll","floor"]),("_law_read",["tab"])]
noncomputable def q0K(n:String):List String:=((WR.find? fun p=>p.1==n).map (·.2)).getD []
noncomputable def d0:List (String×x6):=XS.filter fun p=>p.1 !="roll"
abbrev Txt:=Arguments×List Stmt×Scope
noncomputable def dE(n:String):Option Txt:=match kP.find? fun p=>p.1==n with
 | some m=>(lX (tx m.2.2.1) (W3 m.2.2.2)).map fun r=>(r.params,r.body,r.scope)
 | none=>match rU.find? fun p=>p.1==n with
  | some f=>(PM f.2.1).map fun r=>(r.params,r.body,r.scope)
  | none=>(R0.find? fun d=>d.name==tx n).map fun r=>(r.params,r.body,r.scope)
noncomputable def l7(n:String):List Int:=match kP.find? fun p=>p.1==n with
 | some _=>[]
 | none=>match rU.find? fun p=>p.1==n with
  | some f=>f.2.2
  | none=>[]
noncomputable def cY(n:String):List Stmt:=match dE n with
 | some t=>t.2.1
 | none=>[]
def AK(p:String×x6):Option Txt->Bool
 | some t=>RH p.2 (q0K p.1) t.1 t.2.2&&(J0 p.2.body t.2.2.names (q0K p.1) t.2.1&&p.2.caps.isEmpty)
 | none=>false
def YQ:Bool:=d0.all fun p=>AK p (dE p.1)
def Z5:Prop:=(d0.map fun p=>(nQ p.2.body (cY p.1),rZ p.2.body,p.2.dflt))=d0.map fun p=>(cY p.1,p.2.body,(l7 p.1).map V.int)
end
set_option genCtorIdx false in
structure q4R (X:Cx) (n:String) (t:Txt) (o:Obj) (fd:FuncData):Prop where
 get:X.H.get? (X.FA n)=some o
 dat:o.data=.func fd
 cl:fd.closure=[]
 ps:fd.params=t.1
 bd:fd.body=.stmts t.2.1
 sc:fd.scope=t.2.2
 gl:fd.globals=mainGlobals
 bl:fd.builtins=builtinsNs
 cr:X.H.CodeRec fd.code fd.qualname
 df:∃r,Looks (model X.prog X.w) X.H (seqItems? fd.defaults) r/\j8 X (fun z0 z0=>none) no X.H (vI (l7 n)) (r.getD #[]).toList
section
variable{X:Cx}{h0:Heap}
def EB{p:String×x6}{t:Txt}(o1:AK p (some t)=true)(e1:nQ p.2.body t.2.1=t.2.1)(e2:rZ p.2.body=p.2.body)(e3:p.2.dflt=vI (l7 p.1))(H:∃o fd,q4R X p.1 t o fd):cM X p :=
 v4 H fun o fd F=>
  ⟨o,fd,t.2.1,q0K p.1,F.get,F.dat,F.cl,List.isEmpty_iff.mp (zZ (zZ o1).2).2,⟨(o7 (zZ o1).1 F.ps F.bd F.sc F.gl F.bl).1,F.cr,F.df.elim fun r w=>⟨r,w.1,fun c q hX G=>by subst hX; exact e3.symm▸gR (j8.mono (m:=fun z0 z0=>none) (fun z0 z0 e=>q54 e) G.base0 w.2)⟩⟩,(o7 (zZ o1).1 F.ps F.bd F.sc F.gl F.bl).2,⟨F.sc.symm▸(zZ (zZ o1).2).1,e1,e2⟩⟩
def EA(ok:YQ=true)(eq:Z5){p:String×x6}(hp:p∈d0)(H:∀t,dE p.1=some t->∃o fd,q4R X p.1 t o fd):cM X p:=by
 have o1:=z6.mp ok p hp;have e1:nQ p.2.body (cY p.1)=cY p.1:=congrArg Prod.fst (List.map_inj_left.mp eq p hp);unfold cY at e1;refine qG fun ng=>?_;cases hs:dE p.1 with
 | none=>rw[hs]at o1; exact ff o1
 | some t =>
  refine ng ?_;rw[hs]at o1 e1;exact EB o1 e1 (congrArg (·.2.1) (List.map_inj_left.mp eq p hp)) (congrArg (·.2.2) (List.map_inj_left.mp eq p hp)) (H t hs)
end
section
set_option tactic.hygienic true
section
variable{X:Cx}{h0:Heap}
def KK{h H:Heap}(gk:∀b o,h.get? b=some o->o≠tabObj #[]->H.get? b=some o){cd:Value}{q:PySem.Str}(x:h.CodeRec cd q):H.CodeRec cd q :=
 uN x fun c o vs t x=>⟨c,o,vs,t,x.1,gk _ _ x.2.1 fun e=>by
  cases Data.fields.inj ((congrArg Obj.data e).symm.trans x.2.2.1);exact ff (congrArg Option.isSome x.2.2.2),x.2.2⟩
def B5{o:Obj}{fd:FuncData}(h:o.data=.func fd):o≠tabObj #[]:=KM fun vs e=>Data.noConfusion (h.symm.trans e)
def B0(U:j9 X h0){n:String}{t:Txt}{N a:Addr}{nm:PySem.Str}{o:Obj}{fd:FuncData}(hf:h0.fnAt N nm=some (a,o,fd))(fa:h0.nsMap N nm=some (.ref a)->gV h0 n=a)
  (e:(fd.closure,fd.params,fd.body,fd.scope,fd.globals,fd.builtins,h0.codeRecOk fd.code fd.qualname)=([],t.1,.stmts t.2.1,t.2.2,mainGlobals,builtinsNs,true))
  (df:∃r,Looks (model X.prog X.w) X.H (seqItems? fd.defaults) r/\j8 X (fun z0 z0=>none) no X.H (vI (l7 n)) (r.getD #[]).toList):∃o fd,q4R X n t o fd :=
 have z:=Heap.fnAt_spec hf
 ⟨o,fd,U.FA▸fa z.1▸U.gk _ _ z.2.1 (B5 z.2.2),z.2.2,(Prod.mk.inj e).1,(Prod.mk.inj (Prod.mk.inj e).2).1,(Prod.mk.inj (Prod.mk.inj (Prod.mk.inj e).2).2).1,(Prod.mk.inj (Prod.mk.inj (Prod.mk.inj (Prod.mk.inj e).2).2).2).1,(Prod.mk.inj (Prod.mk.inj (Prod.mk.inj (Prod.mk.inj (Prod.mk.inj e).2).2).2).2).1,(Prod.mk.inj (Prod.mk.inj (Prod.mk.inj (Prod.mk.inj (Prod.mk.inj (Prod.mk.inj e).2).2).2).2).2).1,KK U.gk (.of_ok (Prod.mk.inj (Prod.mk.inj (Prod.mk.inj (Prod.mk.inj (Prod.mk.inj (Prod.mk.inj e).2).2).2).2).2).2),df⟩
noncomputable abbrev q72(s:FnShape):=(s.closure,s.params,s.body,s.scope,s.globals,s.builtins,s.codeOk)
def lF{n:String}{a:Addr}(hm:(kP.find? fun p=>p.1==n)=none)(h:h0.nsMap mainGlobals (tx n)=some (.ref a)):gV h0 n=a:=by
 unfold gV;exact(hm)▸(congrArg (fun x=>(nV x).getD 0) h)
def lU{M:Model}{h:Heap}{v:Value}(e:v=.none):Looks M h (seqItems? v) none:=e▸Looks.of_pure rfl
theorem NZ:∀l:List Int,q4O (vI l)=l.map .int
 | []=>rfl
 | i::l=>congrArg (WData.int i::·) (NZ l)
def SP(U:j9 X h0){l:List Int}{v:Value}(h:litAt h0 (.tuple (l.map .int)) v=true):∃r,Looks (model X.prog X.w) X.H (seqItems? v) r/\j8 X (fun z0 z0=>none) no X.H (vI l) (r.getD #[]).toList :=
 uN (UC h) fun a o vs n z=>⟨some vs,fun A Q E s' k q=>by
  rw[z.1];refine wpAny_bind (wpAny_load (k _ _ (U.gk _ _ z.2.1 (cZ z.2.2.1))) ?_);rw[z.2.2.2.1];exact wpAny_pure q,YD (fun x hx v h=>(zC.mp hx).elim fun i y=>oQ U x v (y.2▸rfl) h) _ (NZ l▸z.2.2.2.2)⟩
abbrev HR(X:Cx)(h0:Heap)(n:String)(t:Txt):Prop:=(∃o fd,q4R X n t o fd)/\((kP.find? fun p=>p.1==n)=none->h0.nsMap mainGlobals (tx n)=some (.ref (gV h0 n)))
def AZ(U:j9 X h0)(hm:g8 h0=nM){n:String}{m:String×String×String×Nat}{r:MethRec}(e:(kP.find? fun p=>p.1==n)=some m)(hr:lX (tx m.2.2.1) (W3 m.2.2.2)=some r):HR X h0 n (r.params,r.body,r.scope) :=
 (Option.bind_eq_some_iff.mp ((List.map_inj_left.mp hm m (List.mem_of_find?_eq_some e)).trans (congrArg (Option.map fun r=>r.shape (tx m.2.1)) hr))).elim fun N x=>(zN.mp x.2).elim fun f y =>
  ⟨B0 U y.1 (fun g=>by
   unfold gV;rw[e];show((cA h0 m.2.1).bind fun N=>nV (h0.nsMap N (tx m.2.2.1))).getD 0=_;rw[x.1];exact congrArg (fun x=>(nV x).getD 0) g) (congrArg q72 y.2) ⟨none,lU (congrArg FnShape.defaults y.2),by unfold l7; rw[e]; exact rfl⟩,fun z=>ff (congrArg Option.isNone (e.symm.trans z))⟩
def AY(U:j9 X h0)(h5:tY h0=n9)(hd:(rU.all fun p=>(h0.fnAt mainGlobals (Str.ofString p.1)).any fun f=>litAt h0 (.tuple (p.2.2.map .int)) f.2.2.defaults)=true){n:String}{f:String×Nat×List Int}{r:DefRec}(e:(kP.find? fun p=>p.1==n)=none)(e5:(rU.find? fun p=>p.1==n)=some f)(hr:PM f.2.1=some r):HR X h0 n (r.params,r.body,r.scope) :=
 have hn:f.1=n:=eq_of_beq (List.find?_some (p:=fun p:String×Nat×List Int=>p.1==n) e5)
 (zN.mp ((List.map_inj_left.mp h5 f (List.mem_of_find?_eq_some e5)).trans (congrArg (Option.map DefRec.shape) hr))).elim fun s x=>(zN.mp x.1).elim fun y z=>by
  have d:=z6.mp hd f (List.mem_of_find?_eq_some e5);rw[z.1]at d;subst hn;exact⟨B0 U z.1 (lF e) ((congrArg q72 z.2).trans (congrArg q72 x.2)) (by unfold l7; rw[e,e5]; exact SP U d),fun z0=>lF e ((Heap.fnAt_spec z.1).1)▸((Heap.fnAt_spec z.1).1)⟩
def q19{q:Program}(hq:recsOf q=R0){h1:Heap}{loose:List PySem.Str}{mean:ExcName->Option Value}{mb:PySem.Str->Option Value}(U:j9 X h0)(T:Top q loose mean (h0.nsMap mainGlobals) mb h1)(gk:∀b o,h1.get? b=some o->o≠tabObj #[]->X.H.get? b=some o)
  {n:String} {r:DefRec} (e:(kP.find? fun p=>p.1==n)=none) (e5:(rU.find? fun p=>p.1==n)=none) (hr:(R0.find? fun d=>d.name==tx n)=some r):HR X h0 n (r.params,r.body,r.scope) :=
 uN (T.fn r (hq.symm▸List.mem_of_find?_eq_some hr)) fun a o pm code z=>z.elim fun doc z =>
  have g1:h0.nsMap mainGlobals (tx n)=some (.ref a):=(congrArg _ (eq_of_beq (List.find?_some (p:=fun d:DefRec=>d.name==tx n) hr):r.name=tx n).symm).trans z.1
  ⟨⟨o,_,U.FA▸(lF e g1).symm▸gk _ _ z.2.1 (B5 z.2.2.1),z.2.2.1,rfl,rfl,rfl,rfl,rfl,rfl,KK gk z.2.2.2,none,Looks.of_pure rfl,by unfold l7; rw[e,e5]; rfl⟩,fun z0=>(lF e g1).symm▸g1⟩
def q18{q:Program}(hq:recsOf q=R0){h1:Heap}{loose:List PySem.Str}{mean:ExcName->Option Value}{mb:PySem.Str->Option Value}(U:j9 X h0)(T:Top q loose mean (h0.nsMap mainGlobals) mb h1)(gk:∀b o,h1.get? b=some o->o≠tabObj #[]->X.H.get? b=some o)
  (h5:tY h0=n9) (hm:g8 h0=nM)
  (hd:(rU.all fun p=>(h0.fnAt mainGlobals (Str.ofString p.1)).any fun f=>litAt h0 (.tuple (p.2.2.map .int)) f.2.2.defaults)=true) {n:String} {t:Txt} (hs:dE n=some t):HR X h0 n t:=by
 unfold dE at hs;cases e:kP.find? fun p=>p.1==n with
 | some m =>
  rw[e]at hs;exact(zN.mp hs).elim fun r z=>z.2▸AZ U hm e z.1
 | none =>
  rw[e]at hs;cases e5:rU.find? fun p=>p.1==n with
  | some f =>
   rw[e5]at hs;exact(zN.mp hs).elim fun r z=>z.2▸AY U h5 hd e e5 z.1
  | none =>
   rw[e5]at hs;exact(zN.mp hs).elim fun r z=>z.2▸q19 hq U T gk e e5 z.1
end
end
section
set_option tactic.hygienic true
section
noncomputable def V5(p:String×V):Bool:=match p.2 with
 | .int i=>Z4.any fun c=>c.1==p.1&&c.2==i
 | .fn n=>n==p.1&&(n !="roll"&&((kP.find? fun q=>q.1==n).isNone&&(WH.contains n||d0.any fun d=>d.1==n)))
 | .blt n=>n==p.1&&(EN.contains n&&(q59.contains n&&(decide (bootBuiltins (tx n)=some (fA n))&&!(tx n=="__name__"))))
 | .spans=>p.1=="KID_SPANS"
 | _=>false
def IK:(kA.filter fun p=>!V5 p).map (fun p=>(p.1,q0W p.2,kS 9 p.2))=[("FIRST_ROWS",BB,true),("MARKED_ROWS",oE,true)]:=rfl
def q3P:(cN.all fun p=>q6A.contains (p.1,p.2.1)&&p.2.2==p.1++"."++p.2.1)=true:=by decide +kernel
end
section
variable{X:Cx}{h0:Heap}
def DC(U:j9 X h0){y:String}{d:WData}(h:oP h0 y d=true){x:String}{v:V}(e:(x,q0W v,kS 9 v)=(y,d,true)):∃u,h0.nsMap mainGlobals (tx x)=some u/\yG X (fun z0 z0=>none) no X.H v u :=
 ((Option.any_eq_true ..).mp (((Prod.mk.inj e).1▸h:oP h0 x d=true))).elim fun u z=>⟨u,z.1,oQ U v u (Prod.mk.inj (Prod.mk.inj e).2).2 ((Prod.mk.inj (Prod.mk.inj e).2).1▸z.2)⟩
def q2X(U:j9 X h0){x:String}{i:Int}(h:(Z4.all fun p=>oP h0 p.1 (.int p.2))=true)(e:(Z4.any fun c=>c.1==x&&c.2==i)=true):∃u,h0.nsMap mainGlobals (tx x)=some u/\yG X (fun z0 z0=>none) no X.H (.int i) u :=
 (List.any_eq_true.mp e).elim fun c z=>DC U (z6.mp h c z.1) (v:=.int i) (congr (congrArg Prod.mk (eq_of_beq (zZ z.2).1).symm) (congrArg (fun i=>(WData.int i,true)) (eq_of_beq (zZ z.2).2).symm))
def q69{n:String}(h:(WH.all fun c=>(nV (h0.nsMap mainGlobals (tx c))).isSome)=true)(hF:∀p∈d0,(kP.find? fun q=>q.1==p.1)=none->h0.nsMap mainGlobals (tx p.1)=some (.ref (gV h0 p.1)))(hm:(kP.find? fun q=>q.1==n)=none)(e:(WH.contains n||d0.any fun d=>d.1==n)=true):h0.nsMap mainGlobals (tx n)=some (.ref (gV h0 n)) :=
 (Bool.or_eq_true_iff.mp e).elim (fun e=>(Option.isSome_iff_exists.mp (z6.mp h n (qX.mp e))).elim fun a q=>(Q6 q).trans (congrArg (fun a=>some (Value.ref a)) (lF hm (Q6 q)).symm)) fun e=>(List.any_eq_true.mp e).elim fun d z=>(eq_of_beq z.2:d.1=n)▸hF d z.1 ((eq_of_beq z.2:d.1=n).symm▸hm)
def LM(h0:Heap)(H:Heap)(X:Cx)(mb:PySem.Str->Option Value)(p:String×V):Prop:=∃u,(h0.nsMap mainGlobals (tx p.1)=some u\/h0.nsMap mainGlobals (tx p.1)=none/\mb (tx p.1)=some u)/\yG X (fun z0 z0=>none) no H p.2 u
def HC(U:j9 X h0){mb:PySem.Str->Option Value}(h6:oP h0 "FIRST_ROWS" BB=true) (h7:oP h0 "MARKED_ROWS" oE=true) (h8:(Z4.all fun p=>oP h0 p.1 (.int p.2))=true) (fn:∀n,(kP.find? fun q=>q.1==n)=none->(WH.contains n||d0.any fun d=>d.1==n)=true->h0.nsMap mainGlobals (tx n)=some (.ref (gV h0 n)))
  (bl:∀n,EN.contains n=true->h0.nsMap mainGlobals (tx n)=none) (hb2:∀x:PySem.Str,x≠"__name__"->mb x=bootBuiltins x) (sp:LM h0 X.H X mb ("KID_SPANS",.spans)) {p:String×V} (hp:p∈kA):LM h0 X.H X mb p:=by
 cases e:V5 p with
 | false =>
  have z:=z5 (f:=fun p:String×V=>(p.1,q0W p.2,kS 9 p.2)) (zO (p:=fun p=>!V5 p) |>.mpr ⟨hp,(congrArg not e:(!V5 p)=true)⟩);rw[IK]at z;exact((qV.mp z).elim (DC U h6) fun z=>DC U h7 (qO.mp z)).elim fun u z=>⟨u,.inl z.1,z.2⟩
 | true =>
  clear hp;obtain⟨x,v⟩:=p;cases v with
  | int i=>exact(q2X U h8 e).elim fun u q=>⟨u,.inl q.1,q.2⟩
  | fn n=>exact(eq_of_beq (zZ e).1:n=x)▸⟨_,.inl (fn n (Option.isNone_iff_eq_none.mp (zZ (zZ (zZ e).2).2).1) (zZ (zZ (zZ e).2).2).2),congrArg Value.ref (congrFun U.FA n).symm,bne_iff_ne.mp (zZ (zZ e).2).1⟩
  | blt n =>
   exact(eq_of_beq (zZ e).1:n=x)▸⟨fA n,.inr ⟨bl n (zZ (zZ e).2).1,(hb2 _ (zV.mp (fU (zZ (zZ (zZ (zZ e).2).2).2).2))).trans (zT (zZ (zZ (zZ (zZ e).2).2).2).1)⟩,rfl,(zZ (zZ (zZ e).2).2).1⟩
  | spans=>exact(eq_of_beq (show(x=="KID_SPANS")=true from e)).symm▸sp
  | _=>exact ff e
def IQ(U:j9 X h0)(h:q6A.all (oV (BS h0) (gV h0))=true){p:String×String×String}(hp:p∈cN):findIn X.K (.ref (X.FA p.1)) (tx p.2.1)=some (some (.ref (X.FA p.2.2)))/\typeIn X.K (.ref (X.FA p.2.2))=some (.type "function") :=
 (eq_of_beq (zZ (z6.mp q3P p hp)).2:p.2.2=_)▸HY U (z6.mp h (p.1,p.2.1) (qX.mp (zZ (z6.mp q3P p hp)).1))
def CJ(U:j9 X h0)(h:hY h0=true){mb:PySem.Str->Option Value}(hb:X.H.Ns builtinsNs mb)(hb2:∀x:PySem.Str,x≠"__name__"->mb x=bootBuiltins x)
  (hF:∀p∈d0,(kP.find? fun q=>q.1==p.1)=none->h0.nsMap mainGlobals (tx p.1)=some (.ref (gV h0 p.1))):yW X :=
 have a4:=zZ (zZ (zZ (zZ h).2).2).2;have a10:=zZ (zZ (zZ (zZ (zZ (zZ a4.2).2).2).2).2).2
 ⟨U.kin a4.1,fun c hc=>SN U (z6.mp (zZ (zZ h).2).1 c hc),fun p hp=>IQ U (zZ (zZ (zZ h).2).2).1 hp,((Option.any_eq_true ..).mp (zZ (zZ (zZ (zZ (zZ a4.2).2).2).2).2).1).elim fun o z=>⟨o,U.gk _ _ z.1 (cZ (eq_of_beq z.2))⟩,(aM U (zZ a4.2).1).1,(aM U (zZ a4.2).1).2.1,fun p hp=>(HC U (zZ (zZ a4.2).2).1 (zZ (zZ (zZ a4.2).2).2).1 (zZ (zZ (zZ (zZ a4.2).2).2).2).1 (fun n=>q69 (zZ a10.2).1 hF) (fun n hn=>Option.isNone_iff_eq_none.mp (z6.mp a10.1 n (qX.mp hn))) hb2 ⟨_,.inl (aM U (zZ a4.2).1).2.2,rfl⟩ hp).elim fun u z=>⟨_,mb,u,U.ns (Heap.Ns.of_isNs (zZ h).1),hb,z⟩⟩
end
end
set_option genCtorIdx false in
structure GF (X:Cx) (c P:Addr):Prop where
 g:∃mg,X.H.Ns mainGlobals mg/\X.H.BuiltinsAt mg P
 hd:CodeHd X.H c P
 gP:mainGlobals≠P
set_option genCtorIdx false in
structure LR (X:Cx) (P:Addr) (f:Flow) (s:Shared):Prop where
 f:f=.ret (.bool true)
 base:∀b o,X.H.get? b=some o->s.heap.get? b=some o
 gens:s.gens=#[]
 os:s.os=X.os
 tab:∃ps,s.heap.get? P=some (tabObj ps)
set_option genCtorIdx false in
structure UL (c:Fx) (P:Addr) (ps:Array Value) (p:Mt):Prop where
 pv:c.Pv P
 no:¬c.own P
 tab:p.s.heap.get? P=some (tabObj ps)
def LX(c:Fx)(P:Addr)(ps:Array Value)(t:Sem Flow)(W:y5->Kf->St->Prop):Prop:=∀ρ p,At c ρ p->UL c P ps p->W ρ LQ p.σ->wA c t (LR c.X P) p.s
noncomputable def bR:Nm:=[(tx "k",.local),(tx "n",.local),(tx "at",.free),(tx "nums",.free),(tx "len",.globalImplicit)]
section
variable{c:Fx}{P:Addr}{ps:Array Value}{C:yA}{p p':Mt}{ρ:y5}
def UL.step(t:UL c P ps p)(G:yJ c p)(s:yC c.own p p'):UL c P ps p':=⟨t.pv,t.no,s.keep P _ (G.nmu t.pv) t.no t.tab⟩
def AG{v:V}{f:Flow}(h:At c ρ p)(t:UL c P ps p)(r:q5A c p (.ret v) f)(q:Fl.ret v=.ret (.bool true)):LR c.X P f p.s:=by
 cases q;obtain⟨u,rfl,r⟩:=r;exact⟨congrArg Flow.ret (r:u=.bool true),h.g.base,h.g.gens,h.g.os,_,t.tab⟩
def q3I{t:Sem Flow}{W:y5->Kf->St->Prop}(H:SX c t W):LX c P ps t W:=fun ρ p h pt q=>H ρ p LQ _ h q fun ρ1 p1 fl f h1 s1 r1 q1=>by
 cases fl with
 | ret v=>exact AG h1 (pt.step h.g s1) r1 q1
 | _=>cases q1
def oT{a:Stmt}{r:List Stmt}{ax:Sx}{rx:List Sx}(H:SX c (exec a c.env) (ws C ax))(Hr:LX c P ps (execs r c.env) (xA C rx)):LX c P ps (execs (a::r) c.env) (xA C (ax::rx)):=fun ρ p h pt q =>
 wpAny_execs_cons (H ρ p _ _ h q fun ρ1 p1 fl f h1 s1 r1 q1=>by
  cases fl with
  | next=>cases r1; exact Hr ρ1 p1 h1 (pt.step h.g s1) q1
  | cont=>cases q1
  | ret v=>obtain⟨u,rfl,r1⟩:=r1; exact AG (v:=v) h1 (pt.step h.g s1) ⟨u,rfl,r1⟩ q1)
def q62{x y:String}{W:List V->Prop}(h:lc (kM ρ [x,y]) W):∃v w,ρ x=some v/\ρ y=some w/\W [v,w]:=by
 unfold kM kM kM at h;cases e1:ρ x with
 | none=>rw[e1]at h; exact h.elim
 | some v =>
  cases e2:ρ y with
  | none=>rw[e1,e2]at h; exact h.elim
  | some w=>rw[e1,e2]at h; exact⟨v,w,rfl,rfl,h⟩
def F8{env:Env}{scope:Scope}{cn ca:Addr}(hn:env.cells.lookup (tx "nums")=some cn) (ha:env.cells.lookup (tx "at")=some ca) (hs:scope.names=bR):closureFor scope env=pure [(tx "nums",cn),(tx "at",ca)]:=by
 unfold closureFor;rw[hs,bR];simp only[List.forIn_cons,List.forIn_nil];simp only[show((NameKind.local==NameKind.free)=false)from rfl,show((NameKind.free==NameKind.free)=true)from rfl,show((NameKind.globalImplicit==NameKind.free)=false)from rfl,if_true,Bool.false_eq_true,if_false,pure_bind,((by unfold cellOf; rw[ha]:cellOf env (tx "at")=pure ca)),((by unfold cellOf; rw[hn]:cellOf env (tx "nums")=pure cn))]
def HW{cd:Addr}(NH:GF c.X cd P)(W:rV c ["nums","at"]) {params:Arguments} {body:List Stmt} {scope:Scope} {pos:Pos} {r:List Stmt} {rx:List Sx} (hd0:params.defaults=[]) (hk0:params.kw_defaults=[]) (ha:annTrees params none c.env=[]) (hs:scope.names=bR)
  (hCL:∀qual doc pm c' ctv cn ca,c.X.CL "roll" ["nums","at"] (fnX (tx "roll") qual params body scope [(tx "nums",cn),(tx "at",ca)] .none .none doc pm none (.ref c') ctv)) (hcode:c.env.code=.ref cd)
  (hkn:c.env.kindOf (tx "nums")=some .cell) (hka:c.env.kindOf (tx "at")=some .cell) (hkr:c.env.kindOf (tx "roll")=some .local)
  (Hr:∀Pv' own',rV ⟨c.X,c.A,c.env,Pv',own'⟩ []->SX ⟨c.X,c.A,c.env,Pv',own'⟩ (execs r c.env) (xA C rx)) :
  LX c P #[] (execs (.FunctionDef (tx "roll") params body [] none [] scope none (tx "roll") pos::r) c.env) (xA C (.defn "roll" "roll" ["nums","at"]::rx)):=fun ρ p h pt q=>by
 refine qG fun ng=>?_;refine uL (q62 q) fun vn va en ea q=>?_;refine(xY q).elim fun ov q=>?_;refine uL (h.cells "nums" vn en (.inl hkn)) fun cn un hcn kn rn=>?_;refine uL (h.cells "at" va ea (.inl hka)) fun ca ua hca ka ra=>?_;have G:=h.g;refine(NH.g).elim fun mg z=>z.elim fun hg z=>z.elim fun bm z=>z.elim fun ob z=>z.elim fun b1 z=>z.elim fun b2 z=>z.elim fun b3 z=>z.elim fun b4 z=>z.elim fun b5 b6=>?_;refine ng ?_;refine wpAny_execs_cons (nestDef_K hd0 hk0 ha (makeFunction_K (c:=cd) (P:=P) (ps:=#[]) (F8 hcn hca hs) h.e.glob (hg.keeps G.base) hcode (NH.hd.keeps G.base) pt.tab trivial rfl NH.gP ⟨bm,ob,b1,b2,b3,b4,G.base _ _ b5,b6⟩ fun c' ctv doc h' tk hx hge hlt hrec hPn=>?_));generalize hfo:fnMade (tx "roll") (qualnameIn c.env (tx "roll") (tx "roll")) params body scope [(tx "nums",cn),(tx "at",ca)] doc ((mg "__name__").getD .none) c' ctv=fo;have fs:∀b,p.s.heap.objs.size<=b->p.s.heap.get? b=none:=fun b hb=>by
  cases q:p.s.heap.get? b with
  | none=>rfl
  | some o=>exact absurd (Heap.lt_size q) (Nat.not_lt.mpr hb)
 have kp:∀b o,b≠P->p.s.heap.get? b=some o->(h'.push fo).get? b=some o:=fun b o n e=>zX _ (hx b o n e);have tP:∃ps',(h'.push fo).get? P=some (tabObj ps'):=⟨_,zX _ hPn⟩;have tk':∀b o,p.s.heap.get? b=some o->∃o',(h'.push fo).get? b=some o':=fun b o e=>by
  by_cases z:b=P
  ·exact z▸tP.elim fun z0 z=>⟨_,z⟩
  ·exact⟨o,kp b o z e⟩
 generalize hPv:(fun b=>c.Pv b/\b≠cn/\b≠ca)=Pv';have nc:∀b,Pv' b↔c.Pv b/\b≠cn/\b≠ca:=fun b=>hPv▸Iff.rfl;have sub:∀b,Pv' b->c.Pv b:=fun b z=>((nc b).mp z).1;have kk:iJ (NN c.Pv p) (NN Pv' ⟨p.m,p.σ,{p.s with heap:=h'.push fo,toks:=tk}⟩) p.s.heap (h'.push fo):=fun b o n e=>⟨fun z=>n (z.imp id (sub b)),kp b o (fun z=>n (.inr (z▸pt.pv))) e⟩;have kv:∀x v,c.V p x v->yG c.X p.m (NN Pv' ⟨p.m,p.σ,{p.s with heap:=h'.push fo,toks:=tk}⟩) (h'.push fo) x v:=fun x v r=>r.mono (fun z0 z0 e=>e) kk;have pn:=W.wr "nums" (.head _) cn hcn;have pa:=W.wr "at" (.tail _ (.head _)) ca hca;have lP:c.env.locals≠P:=fun z=>pt.no (z▸W.privL);have cP:∀x b,c.env.cells.lookup x=some b->b≠P:=fun x b e z=>(h.noC x b e).2.elim fun v t=>t.elim fun o t=>((fun e n z=>n (qN (e.symm.trans (z▸pt.tab))):∀{b o},p.s.heap.get? b=some o->o≠tabObj #[]->b≠P)) t.1 (fun y=>Data.noConfusion ((congrArg Obj.data y).symm.trans t.2)) z;have G1:yJ ⟨c.X,c.A,c.env,Pv',fun b=>b=c.env.locals⟩ ⟨p.m,p.σ,{p.s with heap:=h'.push fo,toks:=tk}⟩ :=
  ⟨fun b o e=>kp b o (fun z=>gO (G.priv P pt.pv).1 (z▸e)) (G.base b o e),fun g n ob e=>(G.rep g n ob e).elim fun a z=>⟨a,z.1,wM.to (c:=c) (p:=p) (fun z0 z0 e=>e) kv (fun o e=>kp a o (fun y=>(G.at_ g n a z.1).2.2 (y▸pt.pv)) e) z.2⟩,G.non,G.inj,
   fun g n a e=>⟨(G.at_ g n a e).1.elim fun o z=>tk' a o z,(G.at_ g n a e).2.1,fun z=>(G.at_ g n a e).2.2 (sub a z)⟩,fun a z=>⟨(G.priv a (sub a z)).1,(G.priv a (sub a z)).2.elim fun o z=>tk' a o z⟩,((fun b z=>(nc b).mpr ⟨G.own _ (z▸W.privL),z▸(W.neL _ _ hcn).symm,z▸(W.neL _ _ hca).symm⟩:∀b,b=c.env.locals->Pv' b)),G.gens,G.os⟩
 have W1:rV ⟨c.X,c.A,c.env,Pv',fun b=>b=c.env.locals⟩ []:=⟨rfl,fun z0 z=>((absurd z qW)),fun z0 z=>((absurd z qW)),W.neL⟩;have nf:∀b,p.s.heap.get? b=none->¬NN Pv' ⟨p.m,p.σ,{p.s with heap:=h'.push fo,toks:=tk}⟩ b:=fun b e z=>G.fresh e (z.imp id (sub b));have rc:Fx.V ⟨c.X,c.A,c.env,Pv',fun b=>b=c.env.locals⟩ ⟨p.m,p.σ,{p.s with heap:=h'.push fo,toks:=tk}⟩ (.clos "roll" [vn,va]) (.ref h'.objs.size):=by
  refine⟨[un,ua],dH ⟨kv _ _ (rn.gv (zZ ov).1),kv _ _ (ra.gv (zZ (zZ ov).2).1),trivial⟩,_,rfl,nf _ (fs h'.objs.size (qF hge (z9 hlt))),fo,fnX (tx "roll") (qualnameIn c.env (tx "roll") (tx "roll")) params body scope [(tx "nums",cn),(tx "at",ca)] .none .none doc ((mg "__name__").getD .none) none (.ref c') ctv,c',["nums","at"],
   ⟨zY _ (by rw[<-hfo]; rfl),by rw[<-hfo],hCL _ _ _ _ _ _ _,rfl,nf _ (fs _ hge),hrec.push _,⟨rfl,rfl,trivial⟩,⟨⟨fun z=>z.elim (h.noC _ _ hcn).1 fun z=>((nc _).mp z).2.1 rfl,kN (fun o e=>kp _ o (cP _ _ hcn) e) kn⟩,⟨fun z=>z.elim (h.noC _ _ hca).1 fun z=>((nc _).mp z).2.2 rfl,kN (fun o e=>kp _ o (cP _ _ hca) e) ka⟩,trivial⟩⟩⟩
 refine wA.any (kX (c:=⟨c.X,c.A,c.env,Pv',fun b=>b=c.env.locals⟩) W1 (At.to (A':=c.A) h G1 (fun z0 z0 z0 e=>e) kv (fun o e=>kp _ o lP e) (fun x b e o z=>kp b o (cP x b e) z) fun z0 z=>.inl z) (.inl hkr) rc.tt fun p2 h2 s2 e2=>?_);refine(tP).elim fun ps' tP=>?_;have P2:UL ⟨c.X,c.A,c.env,Pv',fun b=>b=c.env.locals⟩ P ps' ⟨p.m,p.σ,{p.s with heap:=h'.push fo,toks:=tk}⟩:=⟨(nc P).mpr ⟨pt.pv,(cP _ _ hcn).symm,(cP _ _ hca).symm⟩,fun z=>lP z.symm,tP⟩;exact q3I (Hr Pv' _ W1) _ p2 h2 (P2.step G1 s2) (e2.symm▸q)
end
section
variable{c:Fx}{p:Mt}{A:Around}{d:x6}{fd:FuncData}{b:List Stmt}{P:Addr}{ρ:y5}{Wr:List String}
def HN{n:Nat}{o:Obj}{a:Addr}{vs:List V}{args:List Value}{W:y5->Kf->St->Prop}(hn:w5 (n+1) A)(hlim:p.s.heap.NoLimit)(ho:p.s.heap.get? a=some o)(hd:o.data=.func fd)(FS:q0L d fd b)(cr:p.s.heap.CodeRec fd.code fd.qualname)
  (hdf:fd.defaults=.none) (hcp:d.caps=[]) (hcl:fd.closure=[]) (hw:∀x∈Wr,fd.scope.names.lookup (tx x)=some .cell) (e:y5.sets xV (d.caps++d.params) ([]++vs)=some ρ) (hlen:d.params.length=vs.length) (G:yJ c p) (ra:y6 (c.V p) vs args) (hP:c.Pv P) (tP:p.s.heap.get? P=some (tabObj #[]))
  (HB:∀c':Fx,c'.X=c.X->c'.env.scope=fd.scope->c'.env.code=fd.code->c'.A=A.deeper c'.env->w5 n c'.A->rV c' Wr->LX c' P #[] (execs b c'.env) W) (q:W ρ LQ p.σ) :
  codeAny (model c.X.prog c.X.w) A (.call (.ref a) ⟨args,[]⟩) (fun r s'=>r=.ok (.ret (.bool true))/\LR c.X P (.ret (.bool true)) s') p.s:=by
 refine codeAny_call_function (qI (qJ ..) hn.2.2) ho hd FS.co FS.gen FS.body cr ?_;refine qG fun ng=>?_;refine wI (cX (args:=args) FS.po FS.va FS.ko FS.kw) fun K eK hK=>?_;refine v4 (hK none) fun e1 e2 eq=>?_;refine ng ?_;rw[eK];refine wpAny_bind ((lU hdf).here ?_);rw[eq,FS.ps];have ndp:(d.params.map tx).Nodup:=(List.nodup_append.mp (qU (f:=tx)▸FS.nd:(d.caps.map tx++d.params.map tx).Nodup)).2.1;refine ZC (z:=[]) ndp (.inl ⟨ra.length.symm.trans (hlen.symm.trans (qH ..).symm),rfl⟩) ?_;have rv:y6 (c.V p) vs (args++[]):=(qS args).symm▸ra;refine wA.any (c:=⟨c.X,A.in1,c.env,c.Pv,c.own⟩) (ZR (c:=⟨c.X,A.in1,c.env,c.Pv,c.own⟩) (us:=[]) (cap:=[]) FS hw e (congrArg List.length hcp) hlen ⟨G.base,G.rep,G.non,G.inj,G.at_,G.priv,G.own,G.gens,G.os⟩ rv (by rw[hcp,hcl]; trivial) (by rw[hcl]; trivial) trivial fun env Pn s1 hsc hco hfr k1 fP h1=>?_);have hn':w5 n (A.deeper env):=⟨hn.1,by have:=hn.2.1; show A.units+3+20*n+60<cLine; exact yX [_,_,_] (LF.c 1 (.a (.a (.a (.v 0) (.m 20 (.a (.v 1) (.k 1)))) (.k 60)) (.k 1)) (.v 2) .n) 0 (.a (.a (.a (.a (.v 0) (.k 3)) (.m 20 (.v 1))) (.k 60)) (.k 1)) (.v 2) rfl this,by have:=hn.2.2; show A.depth+1+2*n<recursionLimit; exact yX [_,_,_] (LF.c 1 (.a (.a (.v 0) (.m 2 (.a (.v 1) (.k 1)))) (.k 1)) (.v 2) .n) 0 (.a (.a (.a (.v 0) (.k 1)) (.m 2 (.v 1))) (.k 1)) (.v 2) rfl this⟩;obtain⟨h1,W1⟩:=h1 (A.deeper env);refine⟨hlim.keeps k1,codeAny_func (wA.any (c:=⟨c.X,A.deeper env,env,fun a=>c.Pv a\/Pn a,Pn⟩) (wpAny_mono (HB ⟨c.X,A.deeper env,env,fun a=>c.Pv a\/Pn a,Pn⟩ rfl hsc hco rfl hn' W1 ρ ⟨p.m,p.σ,s1⟩ h1 ⟨.inl hP,fun z=>gO (fP P z) tP,k1 _ _ tP⟩ q) (fun f s' z=>?_) fun z0 z0 z=>z))⟩;cases z.f;exact⟨rfl,z⟩
end
section
def q6G(d:DefRec)(x1 x2 x3:Stmt)(ps:Arguments)(b:List Stmt)(sc:Scope)(r:List Stmt):Bool :=
 RH x4 ["nums","at"] d.params d.scope&&(J0 (x4.body.take 3) d.scope.names ["nums","at"] [x1,x2,x3]&&(J0 (x4.body.drop 4) d.scope.names [] r&&(RH wC [] ps sc&&(J0 wC.body sc.names [] b&&d.scope.names.lookup (tx "roll")==some .local))))
noncomputable def UO(a:PySem.Str)(ap:Pos):Arguments:=⟨[],[⟨a,none,ap⟩],none,[],[],none,[]⟩
end
set_option genCtorIdx false in
structure GE (d:DefRec) (x1 x2 x3:Stmt) (a:PySem.Str) (ap:Pos) (b:List Stmt) (sc:Scope) (pos:Pos) (r:List Stmt):Prop where
 bd:d.body=x1::x2::x3::.FunctionDef (tx "roll") (UO a ap) b [] none [] sc none (tx "roll") pos::r
 ok:q6G d x1 x2 x3 (UO a ap) b sc r=true
 tr:(nQ (x4.body.take 3) [x1,x2,x3],nQ (x4.body.drop 4) r,nQ wC.body b)=([x1,x2,x3],r,b)
 fx:(rZ (x4.body.take 3)++.defn "roll" "roll" ["nums","at"]::rZ (x4.body.drop 4),rZ wC.body)=(x4.body,wC.body)
 nm:sc.names=bR
 df:d.params.defaults=[]
section
variable{c:Fx}{C:yA}{nm:Nm}{wr:List String}{P:Addr}{ps:Array Value}
def IC(O:mI c C nm)(W:rV c wr){x1 x2 x3:Stmt}{a a':String}{e e' t:Ex}{y z:List Sx}(h:J0 [.asg a e,.iff t y z,.asg a' e'] nm wr [x1,x2,x3]=true){r:List Stmt}{rx:List Sx}(H:LX c P ps (execs r c.env) (xA C rx)):
  LX c P ps (execs (nQ [.asg a e,.iff t y z,.asg a' e'] [x1,x2,x3]++r) c.env) (xA C (rZ [.asg a e,.iff t y z,.asg a' e']++rx)) :=
 yB h fun h1 h=>yB h fun h2 h=>yB h fun h3 z0=>oT (XY O W (hJ O (zZ h1).1) (zZ h1).2) (oT (yB h2 fun g1 g=>NG (tt O g1) (U7 y O W (zZ g).1) (U7 z O W (zZ g).2)) (oT (XY O W (hJ O (zZ h3).1) (zZ h3).2) H))
theorem sY{X:Cx}{m:Mp}{N:Addr->Prop}{h:Heap}:∀{xs:List Value}{l:List Int},IntsAre xs l->j8 X m N h (vI l) xs
 | _,_,.nil=>rfl
 | _,_,.cons _ _ h=>⟨_,_,rfl,⟨_,rfl⟩,sY h⟩
end
section
set_option tactic.hygienic true
def N8(ok:YQ=true){p:String×x6}(hp:p∈d0):∃t,dE p.1=some t:=by
 have o:=z6.mp ok p hp;cases e:dE p.1 with
 | none=>rw[e]at o; exact ff o
 | some t=>exact⟨t,rfl⟩
def q7R{X:Cx}{s:Shared}{env:Env}{P:Addr}{A:Around}(hb:∀b o,X.H.get? b=some o->s.heap.get? b=some o)(hP:X.H.get? P=none)(tP:s.heap.get? P=some (tabObj #[]))(hg:s.gens=#[])(ho:s.os=X.os):yJ ⟨X,A,env,fun a=>a=P,no⟩ ⟨fun z0 z0=>none,⟨[],[]⟩,s⟩ :=
 ⟨hb,fun g n ob e=>(nomatch g,e),fun z0 z0 z0=>rfl,fun z0 z0 z0 z0 z0 e=>(nomatch e),fun z0 z0 z0 e=>(nomatch e),fun a z=>⟨z▸hP,_,z▸tP⟩,fun z0 z=>z.elim,hg,ho⟩
section
variable{q:Program}{loose:List PySem.Str}{mean:ExcName->Option Value}{mg mb:PySem.Str->Option Value}{h h0:Heap}{d:DefRec}{fa c P:Addr}{o:Obj}{fd:FuncData}{R:Prop}{X:Cx}
def HO(T:Top q loose mean mg mb h)(hq:d∈recsOf q)(hmg:mg d.name=some (.ref fa))(ho:h.get? fa=some o)(hd:o.data=.func fd)(k:∀c P,fd.code=.ref c->TabsAt [(c,P)] h->R):R :=
 uN (T.tab d hq) fun a o' fd' c z=>z.elim fun P z =>
  k c P (((Data.func.inj (hd.symm.trans (((qN (ho.symm.trans (((Value.ref.inj (qN (hmg.symm.trans z.1)):fa=a))▸z.2.1)):o=o'))▸z.2.2.1)):fd=fd'))▸z.2.2.2.1) fun x hx=>qO.mp hx▸⟨CodeHd.of z.2.2.2.2.1 z.2.2.2.2.2,z.2.2.2.2.2.2⟩
def V8(T:h.Ns mainGlobals mg)(h1:hY h0=true)(hk:∀b o,h0.get? b=some o->h.get? b=some o):mg=h0.nsMap mainGlobals :=
 (Heap.Ns.eq_nsMap T).trans (Heap.Ns.eq_nsMap (Heap.Ns.keeps (Heap.Ns.of_isNs (zZ h1).1) hk)).symm
def RB(T:Top q loose mean mg mb h)(hT9:TabsAt [(c,P)] h)(hH:X.H=ghostOf h [(c,P)]):GF X c P:=by
 have hTP:h.get? P=some (tabObj #[]):=(hT9 _ (.head _)).2;have g:∀a o,h.get? a=some o->(∀es ep,o.data≠.dict es ep)->a≠mainGlobals:=fun a o e n z=>gE T.g fun og es ep y=>n es ep ((qN (e.symm.trans (z▸y.1)))▸y.2.1);refine⟨⟨mg,hH▸ghost_ns hT9 T.g,?_⟩,hH▸(ghost_code hT9).1,(g P _ hTP fun z0 z0 z=>Data.noConfusion z).symm⟩;exact v4 T.bmain fun bm ob z=>⟨bm,ob,z.1,z.2.1,g bm ob z.2.2.1 fun es ep y=>Data.noConfusion (z.2.2.2.2.2.symm.trans y),fun (y:bm=P)=>Value.noConfusion ((congrArg Obj.cls (qN (z.2.2.1.symm.trans (y▸hTP)))).symm.trans z.2.2.2.1),hH▸ghost_get hT9 z.2.2.1 (cZ z.2.2.2.1),z.2.2.2⟩
def V1(h:hY h0=true):(rU.all fun p=>(h0.fnAt mainGlobals (Str.ofString p.1)).any fun f=>litAt h0 (.tuple (p.2.2.map .int)) f.2.2.defaults)=true :=
 (zZ (zZ (zZ (zZ (zZ (zZ (zZ (zZ (zZ (zZ (zZ h).2).2).2).2).2).2).2).2).2).2).2
set_option genCtorIdx false in
structure S2 (X:Cx) (c P:Addr):Prop where
 S:yW X
 lim:X.H.NoLimit
 FO:∀p∈XS,p.1≠"roll"->cM X p
 NH:GF X c P
def HM(hq:recsOf q=R0)(ok:YQ=true)(eq:Z5)(U:j9 X h0)(hH:X.H=ghostOf h [(c,P)])(hT:JZ h0)(hk:∀b o,h0.get? b=some o->h.get? b=some o)(T:Top q loose mean mg mb h)(hT9:TabsAt [(c,P)] h):S2 X c P :=
 have h1:hY h0=true:=congrArg Prod.fst hT
 ⟨CJ U h1 (hH▸ghost_ns hT9 T.b) T.builtins fun p hp hm=>(N8 ok hp).elim fun t hs=>((fun {n t} (hs:dE n=some t)=>q18 hq U (V8 T.g h1 hk▸T) (fun b o e hn=>hH▸ghost_get hT9 e hn) (congrArg (·.2.1) hT) (congrArg (·.2.2) hT) (V1 h1) hs) hs).2 hm,T.nolimit.elim fun mc z=>⟨mc,hH▸ghost_ns hT9 z.1,z.2⟩,
  fun p hp hne=>EA ok eq (zO.mpr ⟨hp,bne_iff_ne.mpr hne⟩) fun t hs=>((fun {n t} (hs:dE n=some t)=>q18 hq U (V8 T.g h1 hk▸T) (fun b o e hn=>hH▸ghost_get hT9 e hn) (congrArg (·.2.1) hT) (congrArg (·.2.2) hT) (V1 h1) hs) hs).1,RB T hT9 hH⟩
def aG(an:PySem.Str)(ap:Pos)(b:List Stmt)(sc:Scope):String->List String->FuncData->Prop:=fun f names fd=>f="roll"/\names=["nums","at"]/\∃qual doc pm c' ctv cn ca,fd=fnX (tx "roll") qual (UO an ap) b sc [(tx "nums",cn),(tx "at",ca)] .none .none doc pm none (.ref c') ctv
def C0{x1 x2 x3:Stmt}{an:PySem.Str}{ap:Pos}{b:List Stmt}{sc:Scope}{pos:Pos}{r:List Stmt}(LK:GE d x1 x2 x3 an ap b sc pos r)(hX:X.CL=aG an ap b sc):iL X:=fun f names fd h=>by
 rw[hX]at h;refine qG fun ng=>?_;obtain⟨e1,e2,qual,doc,pm,c',ctv,cn,ca,rfl⟩:=h;refine ng ?_;exact⟨e1,rfl,e2,b,(o7 (zZ (zZ (zZ (zZ LK.ok).2).2).2).1 (fd:=fnX (tx "roll") qual (UO an ap) b sc [(tx "nums",cn),(tx "at",ca)] .none .none doc pm none (.ref c') ctv) rfl rfl rfl rfl rfl).1,rfl,⟨(zZ (zZ (zZ (zZ (zZ LK.ok).2).2).2).2).1,(congrArg (·.2.2) LK.tr :),(congrArg (·.2) LK.fx :)⟩⟩
def J6{A:Around}{n:Nat}(h:w5 (n+1) A)(args:Args):w5 n (A.under (.builtin "type.__call__" args)) :=
 VW h ((mE A args).1.trans h.1) (qF (mE A args).2.1 (Nat.le_succ _)) ((mE A args).2.2▸qL (by decide) _)
def D0{n:Nat}{x1 x2 x3:Stmt}{an:PySem.Str}{ap:Pos}{b:List Stmt}{sc:Scope}{pos:Pos}{r:List Stmt}(LK:GE d x1 x2 x3 an ap b sc pos r)(L:S2 X c P)(hX:X.CL=aG an ap b sc){c':Fx}(e:c'.X=X)(h1:c'.env.scope=d.scope)(h2:c'.env.code=.ref c)(hr:w5 (n+7) c'.A)(hnm:∀x∈["nums","at"],d.scope.names.lookup (tx x)=some .cell) (hki:d.scope.kind=.function) (W:rV c' ["nums","at"]) :
  LX c' P #[] (execs d.body c'.env) (xA (y4 D n) x4.body):=by
 subst e;have RO:=C0 LK hX;have O:∀Pv' own',mI ⟨c'.X,c'.A,c'.env,Pv',own'⟩ (y4 D n) d.scope.names:=fun Pv' own'=>⟨L.S,hr.room,F4 L.S L.lim L.FO RO rfl n _ ((hr.le (Nat.le_succ _):w5 (n+6) c'.A)),fun args=>F4 L.S L.lim L.FO RO rfl n _ (J6 hr args),congrArg Scope.names h1,h1▸hki⟩;have z:=IC (c:=c') (C:=y4 D n) (P:=P) (ps:=#[]) (O c'.Pv c'.own) W (zZ (zZ LK.ok).2).1 (HW (cd:=c) (pos:=pos) (params:=UO an ap) (body:=b) (scope:=sc) (r:=nQ (x4.body.drop 4) r) L.NH W rfl rfl rfl LK.nm (fun qual doc pm c' ctv cn ca=>Eq.mpr (congrFun (congrFun (congrFun hX _) _) _) (⟨rfl,rfl,qual,doc,pm,c',ctv,cn,ca,rfl⟩:aG an ap b sc _ _ _)) h2 ((fun e=>by unfold Env.kindOf; rw[h1]; exact e:∀{x k},d.scope.names.lookup x=some k->c'.env.kindOf x=some k) (hnm "nums" (.head _))) ((fun e=>by unfold Env.kindOf; rw[h1]; exact e:∀{x k},d.scope.names.lookup x=some k->c'.env.kindOf x=some k) (hnm "at" (.tail _ (.head _)))) ((fun e=>by unfold Env.kindOf; rw[h1]; exact e:∀{x k},d.scope.names.lookup x=some k->c'.env.kindOf x=some k) (eq_of_beq (zZ (zZ (zZ (zZ (zZ LK.ok).2).2).2).2).2)) fun Pv' own' W'=>U7 (x4.body.drop 4) (O Pv' own') W' (zZ (zZ (zZ LK.ok).2).2).1);have z:LX c' P #[] (execs (nQ (x4.body.take 3) [x1,x2,x3]++.FunctionDef (tx "roll") (UO an ap) b [] none [] sc none (tx "roll") pos::nQ (x4.body.drop 4) r) c'.env) (xA (y4 D n) (rZ (x4.body.take 3)++.defn "roll" "roll" ["nums","at"]::rZ (x4.body.drop 4))):=z;have t1:nQ (x4.body.take 3) [x1,x2,x3]=[x1,x2,x3]:=congrArg Prod.fst LK.tr;have t2:nQ (x4.body.drop 4) r=r:=congrArg (·.2.1) LK.tr;have t3:rZ (x4.body.take 3)++.defn "roll" "roll" ["nums","at"]::rZ (x4.body.drop 4)=x4.body:=congrArg Prod.fst LK.fx;rw[t1,t2,t3]at z;rw[LK.bd];exact z
end
def MP{args:List WData}{vals:List Value}{as:List Addr}{s:Shared}{R:WRecords}{cl:PySem.Str->Option Addr}{pp:Params}(hpre:PySem.Challenge.rw_qd0084_01.row.toRowW.claim.pre args=true)(hlay:WData.layableAll args=true)(hrd:ReadsAllW R cl s.heap vals args as)(hwl:WellAll pp s.heap vals args)(hlo:∀a∈as,(a==sysModules)=false)
  {G:List WData->List Value->Prop} (k:∀ns la lv m,IntsAre lv ns->s.heap.get? la=some (seqObj "list" lv.toArray m)->ns.length<=63->G [ofPy (.list (ns.map .int))] [.ref la]):G args vals:=by
 wrow_args hpre hlay hrd hwl hlo
 rename_i ns _ _ _ _ _ _ _ la lv _ hL _ hW _ hI _ hlen _
 refine qG fun ng=>?_;cases hW with
 | list e1 e2 =>
  refine ng ?_;refine qG fun ng=>?_;obtain⟨ol,z1,z2,m,z3⟩:=hL;refine ng ?_;cases e1.symm.trans z1;exact k ns la lv _ hI (by rw[e1,(Data.seq.inj z3).1]) (Int.ofNat_le.mp (Int.not_lt.mp hlen))
def RS{ns:List Int}{mean:ExcName->Option Value}{cl:PySem.Str->Option Addr}{H:Heap}{s1 s':Shared}{X:Cx}{P c:Addr}(hX:X.H=H)(hO:X.os=s1.os)(z:LR X P (.ret (.bool true)) s'):GoodW PySem.Challenge.rw_qd0084_01.row.toRowW.claim cl mean [ofPy (.list (ns.map .int))] {heap:=H,gens:=s1.gens,drawn:=s1.drawn,toks:=s1.toks,os:=s1.os} (.ok (.ret (.bool true))) s'/\GrownAll [(c,P)] s'.heap:=by
 subst hX;refine⟨⟨.inl ⟨.bool true,.bool true,[],rfl,fun z0=>rfl,.bool _,?_,fun z0=>⟨List.nodup_nil,by simp⟩⟩,z.base,z.os.trans hO,z.gens⟩,z.tab,trivial⟩;have h2:WTm.holds [] (.eq .res (.lit (.bool true))) {args:=[ofPy (PyData.list (List.map PyData.int ns))],res:=some (.bool true),after:=[ofPy (PyData.list (List.map PyData.int ns))]}=true:=by
  simp[WTm.holds,WTm.value,same]
 show(WShape.has [] (.bool true) .bool&&WTm.holds [] (.eq .res (.lit (.bool true))) {args:=[ofPy (PyData.list (List.map PyData.int ns))],res:=some (.bool true),after:=[ofPy (PyData.list (List.map PyData.int ns))]})=true;rw[h2]; rfl
def D1{n:Nat}(LS:c4 n)(hn:n<330){X:Cx}{c P fa la:Addr}{d:DefRec}{s:Shared}{o:Obj}{fd:FuncData}{ns:List Int}{lv:List Value}{m:Nat}{x1 x2 x3:Stmt}{an:PySem.Str}{ap:Pos}{b:List Stmt}{sc:Scope}{pos:Pos}{r:List Stmt}(LK:GE d x1 x2 x3 an ap b sc pos r)(L:S2 X c P)(hX:X.CL=aG an ap b sc)
  (hb:∀b o,X.H.get? b=some o->s.heap.get? b=some o) (hP:X.H.get? P=none) (hTP:s.heap.get? P=some (tabObj #[])) (hg:s.gens=#[]) (hO:s.os=X.os) (ho:s.heap.get? fa=some o) (hd:o.data=.func fd) (cr:s.heap.CodeRec fd.code fd.qualname) (hc:fd.code=.ref c) (hdf:fd.defaults=.none) (hcl:fd.closure=[]) (h1:fd.params=d.params) (h2:fd.body=.stmts d.body) (h3:fd.scope=d.scope) (h4:fd.globals=mainGlobals) (h5:fd.builtins=builtinsNs)
  (hI:IntsAre lv ns) (hL:s.heap.get? la=some (seqObj "list" lv.toArray m)) (hlen:ns.length<=63) :
  codeAny (model X.prog X.w) callerA (.call (.ref fa) ⟨[.ref la],[]⟩) (fun r s'=>r=.ok (.ret (.bool true))/\LR X P (.ret (.bool true)) s') s:=by
 have FS:=o7 (zZ LK.ok).1 h1 h2 h3 h4 h5;refine HN (c:=⟨X,callerA,newEnv sc 0 0 [] "" none .none none 0,fun a=>a=P,no⟩) (p:=⟨fun z0 z0=>none,⟨[],[]⟩,s⟩) (n:=n+7) (W:=xA (y4 D n) x4.body) (vs:=[.lst (vI ns)]) (ρ:=y5.set xV "script" (.lst (vI ns))) ⟨rfl,?_,?_⟩ (L.lim.keeps (q7R (env:=newEnv sc 0 0 [] "" none .none none 0) (A:=callerA) hb hP hTP hg hO).base) ho hd FS.1 cr hdf rfl hcl FS.2 rfl rfl (q7R (env:=newEnv sc 0 0 [] "" none .none none 0) (A:=callerA) hb hP hTP hg hO) ⟨⟨lv,sY hI,la,rfl,fun z=>z.elim (fun z=>gE z fun g n ob z=>nomatch z.1) ((fun z=>Value.noConfusion (congrArg Obj.cls (qN (hTP.symm.trans ((congrArg s.heap.get? z).symm.trans hL)))):la≠P)),m,hL⟩,trivial⟩ rfl hTP
  (fun c' e g1 g2 hA hr W=>D0 LK L hX e (g1.trans h3) (g2.trans hc) (hA▸hr) (fun x hx=>h3▸FS.2 x hx) (h3▸FS.1.kind) W) (LS ns hlen _ rfl)
 ·exact qI (yX [_] (LF.c 20 (.a (.v 0) (.k 1)) (.k 330) .n) 0 (.a (.a (.k 4) (.m 20 (.a (.a (.v 0) (.k 7)) (.k 1)))) (.k 60)) (.k 6804) rfl hn) (show(6804:Nat)<cLine by unfold cLine; decide)
 ·exact qI (yX [_] (LF.c 2 (.a (.v 0) (.k 1)) (.k 330) .n) 0 (.a (.k 301) (.m 2 (.a (.a (.v 0) (.k 7)) (.k 1)))) (.k 975) rfl hn) (show(975:Nat)<recursionLimit by unfold recursionLimit; decide)
def NX{n:Nat}(LS:c4 n)(hn:n<330)(ok:YQ=true)(eq:Z5){q:Program}{loose:List PySem.Str}{XP}{d:DefRec}{kwd}(hq:recsOf q=R0)(hd0:d∈R0){x1 x2 x3:Stmt}{an:PySem.Str}{ap:Pos}{b:List Stmt}{sc:Scope}{pos:Pos}{r:List Stmt}(LK:GE d x1 x2 x3 an ap b sc pos r):
  WalkO q loose XP hkHook.says PySem.Challenge.rw_qd0084_01.row.toRowW d kwd (fun f vs=>PySem.call f vs):=fun w s₀ s₁ mg mb G Y fa o pm cd doc dV kV ho hd hcd hD hmg hg args vals as hpre hlay hrd hwl hlo =>
 Y.elim fun h0 hT=>HO G.T (hq.symm▸hd0) hmg ho hd fun c P hc hT9=>by
  refine MP (s:=s₁) hpre hlay hrd hwl hlo (G:=fun args vals=>wpAny _ callerA (PySem.call (.ref fa) vals) (fun v s'=>GoodWG _ _ _ args s₁ (.ok (.ret v)) s') (fun e s'=>GoodWG _ _ _ args s₁ (.error e) s') s₁) fun ns la lv m hI hL hlen=>enter_call (kn_post hT9 (fun z0 z0=>rfl) ?_);refine codeAny_mono (D1 LS hn LK (HM (X:=⟨PySem.Challenge.rw_qd0084_01.row.prog,w,gV h0,ghostOf s₁.heap [(c,P)],s₁.os,BS h0,aG an ap b sc⟩) hq ok eq ⟨rfl,rfl,fun b o e hn=>ghost_get hT9 (hT.2 b o e) hn⟩ rfl hT.1 hT.2 G.T hT9) rfl (fun b o e=>of_hideAll _ e) (hideAll_none _ (.head _)) (hT9 _ (.head _)).2 hg rfl ho hd hcd hc (hD.pos.elim (·.2) fun z=>absurd LK.df z.1) rfl rfl rfl rfl rfl rfl hI hL hlen) fun res s' z=>?_;obtain⟨rfl,z⟩:=z;exact RS rfl rfl z
end
def O2:YQ=true:=by decide +kernel
def SW:Z5:=by unfold Z5; rfl
def q3G:∃d x1 x2 x3 an ap b sc pos r,(R0.find? fun r=>r.name==Str.ofString "law")=some d/\GE d x1 x2 x3 an ap b sc pos r:=⟨_,_,_,_,_,_,_,_,_,_,rfl,⟨rfl,by decide +kernel,rfl,rfl,rfl,rfl⟩⟩
def law_w{n:Nat}(LS:c4 n)(hn:n<330):LawW:=fun q loose XP d kwd hq hd=>by
 obtain⟨d',x1,x2,x3,an,ap,b,sc,pos,r,e,LK⟩:=q3G;cases e.symm.trans hd;exact NX LS hn O2 SW hq (List.mem_of_find?_eq_some hd) LK
end
section
def wF{α:Type}{a:α}{P:Prop}(h:none=some a):P:=by cases h
def DW{α:Type}{a:α}{P:Prop}(h:some a=none):P:=by cases h
def j0{P:Prop}(h:true=false):P:=by cases h
def wQ{P:Prop}(h:false=true):P:=by cases h
def vT{a b:Bool}(h:(a&&b)=true):a=true:=by cases a <;> first | rfl | exact h
def pM{a b:Bool}(h:(a&&b)=true):b=true:=by cases a <;> first | exact h | cases h
def kQ{a b:Bool}(h:a=true)(h':b=true):(a&&b)=true:=by cases h; exact h'
inductive Un where
 | undef | null | number
 | num (b f:Bool)
 | str (f:Bool)
 deriving DecidableEq
inductive Pt where
 | u (x:Un)
 | a (ro:Bool) (k:List Pt)
 | t (ro:Bool) (l:List (List Pt×Int))
abbrev Kd:=List Pt
abbrev vB:=List (List Pt×Int)
noncomputable def Un.word:Un->List Nat
 | .undef=>[117,110,100,101,102,105,110,101,100]
 | .null=>[110,117,108,108]
 | .number=>[110,117,109,98,101,114]
 | .num false false=>[48]
 | .num false true=>[48,33]
 | .num true false=>[49]
 | .num true true=>[49,33]
 | .str false=>[39,97,39]
 | .str true=>[39,97,39,33]
noncomputable def MZ(b:Bool):Nat:=if b then 49 else 48
mutual
noncomputable def word:Pt->List Nat
 | .u x=>x.word
 | .a ro k=>65::MZ ro::40::(text k++[41])
 | .t ro l=>84::MZ ro::40::(eJ l++[41])
noncomputable def text:List Pt->List Nat
 | []=>[]
 | p::r=>word p++uJ r
noncomputable def uJ:List Pt->List Nat
 | []=>[]
 | p::r=>124::(word p++uJ r)
noncomputable def eJ:List (List Pt×Int)->List Nat
 | []=>[]
 | (k,g)::r=>(jH g++text k)++vZ r
noncomputable def vZ:List (List Pt×Int)->List Nat
 | []=>[]
 | (k,g)::r=>44::((jH g++text k)++vZ r)
end
noncomputable def tI(g:Int):Bool:=g==0||g==1||g==2
mutual
noncomputable def dG:Pt->Bool
 | .u _=>true
 | .a _ k=>yY k
 | .t _ l=>mD l
noncomputable def yY:List Pt->Bool
 | []=>true
 | p::r=>dG p&&yY r
noncomputable def mD:List (List Pt×Int)->Bool
 | []=>true
 | (k,g)::r=>tI g&&yY k&&mD r
end
def wU{k:Kd}:yY k=true↔∀p∈k,dG p=true:=by
 induction k with
 | nil=>simp[yY]
 | cons p r ih=>simp[yY,ih]
noncomputable def q7K(c:Nat):Bool:=c==41||c==44||c==124
def dl:List Nat->Prop
 | []=>True
 | c::_=>q7K c=true
def Z0:List Nat->Prop
 | []=>True
 | c::_=>c=41\/c=44
def SQ:∀{r:List Nat},Z0 r->dl r
 | [],_=>trivial
 | _::_,.inl rfl=>rfl
 | _::_,.inr rfl=>rfl
def q7D{r:List Nat}:Z0 (41::r):=.inl rfl
def XE:∀{k:List Pt}{r:List Nat},Z0 r->dl (uJ k++r)
 | [],_,h=>SQ h
 | _::_,_,_=>rfl
def eM:∀{l:vB}{r:List Nat},Z0 (vZ l++41::r)
 | [],_=>.inl rfl
 | (_,_)::_,_=>.inr rfl
def KQ:∀{a b:Bool},MZ a=MZ b->a=b
 | true,true,_=>rfl
 | false,false,_=>rfl
noncomputable def q3R:List Nat->Bool
 | []=>true
 | c::w=>!q7K c&&q3R w
def AH{c:Nat}{x w:List Nat}(d:dl (c::x))(h:q3R (c::w)=true):False:=nomatch (congrArg not d).symm.trans (vT h)
theorem DN:∀{w w' r r':List Nat},q3R w=true->q3R w'=true->dl r->dl r'->w++r=w'++r'->w=w'/\r=r'
 | [],[],_,_,_,_,_,_,e=>⟨rfl,e⟩
 | [],_::_,_,_,_,h,d,_,e=>(AH (Eq.mp (congrArg dl e) d) h).elim
 | _::_,[],_,_,h,_,_,d,e=>(AH (Eq.mp (congrArg dl e.symm) d) h).elim
 | _::_,_::_,_,_,h,h',d,d',e =>
  have⟨e1,e2⟩:=List.cons.inj e;have⟨e3,e4⟩:=DN (pM h) (pM h') d d' e2
  ⟨congr (congrArg _ e1) e3,e4⟩
noncomputable def q0E(l:List Nat):Un :=
 if l.length=9 then .undef else if l.length=6 then .number else if l.length=1 then .num (l.head?==some 49) false else if l.length=2 then .num (l.head?==some 49) true
 else if l.length=3 then .str false else if l.head?=some 110 then .null else .str true
def iB:∀x:Un,q0E x.word=x
 | .undef=>rfl | .null=>rfl | .number=>rfl | .num false false=>rfl | .num false true=>rfl | .num true false=>rfl | .num true true=>rfl | .str false=>rfl | .str true=>rfl
def q4K:∀x:Un,q3R x.word=true
 | .undef=>rfl | .null=>rfl | .number=>rfl | .num false false=>rfl | .num false true=>rfl | .num true false=>rfl | .num true true=>rfl | .str false=>rfl | .str true=>rfl
noncomputable def q7J:Un->Nat
 | .undef=>117 | .null=>110 | .number=>110 | .num false _=>48 | .num true _=>49 | .str _=>39
def q31:∀(x:Un)(r:List Nat),(x.word++r).head?=some (q7J x)
 | .undef,_=>rfl | .null,_=>rfl | .number,_=>rfl | .num false false,_=>rfl | .num false true,_=>rfl | .num true false,_=>rfl | .num true true,_=>rfl | .str false,_=>rfl | .str true,_=>rfl
noncomputable def Z2(c:Nat):Bool:=c != 65&&c != 84&&c != 41&&c != 44
def WL:∀(x:Un),Z2 (q7J x)=true
 | .undef=>rfl | .null=>rfl | .number=>rfl | .num false _=>rfl | .num true _=>rfl | .str _=>rfl
def WN{c d:Nat}(h:Z2 c=true)(h':Z2 d=false):c≠d:=fun e=>nomatch h.symm.trans ((congrArg Z2 e).trans h')
def VB{x:Un}{r:List Nat}{c:Nat}{w:List Nat}(e:x.word++r=c::w)(h':Z2 c=false):False :=
 WN (WL x) h' (qN ((q31 x r).symm.trans (congrArg List.head? e)))
def UH:∀(p:Pt){r:List Nat},Z0 (word p++r)->False
 | .a _ _,_,h=>h.elim nofun nofun
 | .t _ _,_,h=>h.elim nofun nofun
 | .u x,r,h=>by
  have e:=q31 x r
  change Z0 (x.word++r)at h
  match h':x.word++r with
  | []=>rw[h']at e; cases e
  | c::w =>
   rw[h']at e h;cases e;exact h.elim (WN (WL x) rfl) (WN (WL x) rfl)
def cI{g:Int}(h:tI g=true):∃c:Nat,jH g=[c]/\g=(c:Int)-48/\c≠41:=by
 unfold tI at h;refine((Bool.or_eq_true _ _).mp h).elim (fun h=>?_) fun h=>?_
 ·refine((Bool.or_eq_true _ _).mp h).elim (fun h=>?_) fun h=>?_
  ·exact⟨48,by rw[eq_of_beq h]; decide,eq_of_beq h,by decide⟩
  ·exact⟨49,by rw[eq_of_beq h]; decide,eq_of_beq h,by decide⟩
 ·exact⟨50,by rw[eq_of_beq h]; decide,eq_of_beq h,by decide⟩
def HF{g g':Int}{r r':List Nat}(h:tI g=true)(h':tI g'=true)(e:jH g++r=jH g'++r'):g=g'/\r=r':=by
 obtain⟨c,a,rfl,_⟩:=cI h;obtain⟨c',a',rfl,_⟩:=cI h';rw[a,a']at e;cases e;exact⟨rfl,rfl⟩
def BG{g:Int}{x r:List Nat}(h:tI g=true)(e:jH g++x=41::r):False:=by
 refine gZ (cI h) fun c a z0 n=>?_;rw[a]at e;cases e;exact n rfl
def q7B{a b:List Nat}{c:Nat}{r r':List Nat}(e:(a++[c])++r=(b++[c])++r'):a++c::r=b++c::r':=(qZ a [c] r).symm.trans (e.trans (qZ b [c] r'))
def S9{a b a' b' r r':List Nat}(e:(a++b)++r=(a'++b')++r'):a++(b++r)=a'++(b'++r'):=(qZ a b r).symm.trans (e.trans (qZ a' b' r'))
def TI(k k':List Pt):Prop:=∀{r r':List Nat},yY k=true->yY k'=true->Z0 r->Z0 r'->uJ k++r=uJ k'++r'->k=k'/\r=r'
def QR:∀{k k':List Pt},TI k k'->∀{r r':List Nat},yY k=true->yY k'=true->Z0 r->Z0 r'->text k++r=text k'++r'->k=k'/\r=r'
 | [],[],_,_,_,_,_,_,_,e=>⟨rfl,e⟩
 | [],q::_,_,_,_,_,_,d,_,e=>(UH q (Eq.mp (congrArg Z0 (e.trans (qZ ..))) d)).elim
 | p::_,[],_,_,_,_,_,_,d,e=>(UH p (Eq.mp (congrArg Z0 (e.symm.trans (qZ ..))) d)).elim
 | _::_,_::_,H,_,_,h,h',d,d',e=>H h h' d d' (congrArg (List.cons 124) e)
def PI(l l':List (List Pt×Int)):Prop:=∀{r r':List Nat},mD l=true->mD l'=true->vZ l++41::r=vZ l'++41::r'->l=l'/\r=r'
def PG:∀{l l':List (List Pt×Int)},PI l l'->∀{r r':List Nat},mD l=true->mD l'=true->eJ l++41::r=eJ l'++41::r'->l=l'/\r=r'
 | [],[],_,_,_,_,_,e=>⟨rfl,(List.cons.inj e).2⟩
 | [],(_,_)::_,_,_,_,_,h,e=>(BG (vT (vT h)) ((S9 (a':=[]) (b':=[]) (S9 (a':=[]) (b':=[]) e.symm)))).elim
 | (_,_)::_,[],_,_,_,h,_,e=>(BG (vT (vT h)) ((S9 (a':=[]) (b':=[]) (S9 (a':=[]) (b':=[]) e)))).elim
 | (_,_)::_,(_,_)::_,H,_,_,h,h',e=>H h h' (congrArg (List.cons 44) e)
mutual
theorem XM:∀(p q:Pt){r r':List Nat},dG p=true->dG q=true->dl r->dl r'->word p++r=word q++r'->p=q/\r=r'
 | .u x,.u y,_,_,_,_,d,d',e =>
  have⟨a,b⟩:=DN (q4K x) (q4K y) d d' e
  ⟨congrArg Pt.u ((iB x).symm.trans ((congrArg q0E a).trans (iB y))),b⟩
 | .a ro k,.a ro' k',_,_,h,h',_,_,e =>
  have⟨e1,e2⟩:=List.cons.inj (List.cons.inj e).2;have⟨e3,e4⟩:=QR (fun {_ _}=>bV k k') h h' q7D q7D (q7B (List.cons.inj e2).2)
  ⟨congr (congrArg Pt.a (KQ e1)) e3,(List.cons.inj e4).2⟩
 | .t ro l,.t ro' l',_,_,h,h',_,_,e =>
  have⟨e1,e2⟩:=List.cons.inj (List.cons.inj e).2;have⟨e3,e4⟩:=PG (fun {_ _}=>aC l l') h h' (q7B (List.cons.inj e2).2)
  ⟨congr (congrArg Pt.t (KQ e1)) e3,e4⟩
 | .u _,.a _ _,_,_,_,_,_,_,e=>(VB e rfl).elim
 | .u _,.t _ _,_,_,_,_,_,_,e=>(VB e rfl).elim
 | .a _ _,.u _,_,_,_,_,_,_,e=>(VB e.symm rfl).elim
 | .t _ _,.u _,_,_,_,_,_,_,e=>(VB e.symm rfl).elim
 | .a _ _,.t _ _,_,_,_,_,_,_,e=>nomatch (List.cons.inj e).1
 | .t _ _,.a _ _,_,_,_,_,_,_,e=>nomatch (List.cons.inj e).1
theorem bV:∀(k k':List Pt){r r':List Nat},yY k=true->yY k'=true->Z0 r->Z0 r'->uJ k++r=uJ k'++r'->k=k'/\r=r'
 | [],[],_,_,_,_,_,_,e=>⟨rfl,e⟩
 | [],_::_,_,_,_,_,d,_,e=>((Eq.mp (congrArg Z0 e) d:Z0 (124::_)).elim nofun nofun)
 | _::_,[],_,_,_,_,_,d,e=>((Eq.mp (congrArg Z0 e.symm) d:Z0 (124::_)).elim nofun nofun)
 | p::k,q::k',_,_,h,h',d,d',e =>
  have⟨e1,e2⟩:=XM p q (vT h) (vT h') (XE d) (XE d') (S9 (List.cons.inj e).2);have⟨e3,e4⟩:=bV k k' (pM h) (pM h') d d' e2
  ⟨congr (congrArg _ e1) e3,e4⟩
theorem aC:∀(l l':List (List Pt×Int)){r r':List Nat},mD l=true->mD l'=true->vZ l++41::r=vZ l'++41::r'->l=l'/\r=r'
 | [],[],_,_,_,_,e=>⟨rfl,(List.cons.inj e).2⟩
 | [],(_,_)::_,_,_,_,_,e=>nomatch (List.cons.inj e).1
 | (_,_)::_,[],_,_,_,_,e=>nomatch (List.cons.inj e).1
 | (k,g)::l,(k',g')::l',_,_,h,h',e =>
  have⟨e1,e2⟩:=HF (vT (vT h)) (vT (vT h')) (S9 (S9 (List.cons.inj e).2));have⟨e3,e4⟩:=QR (fun {_ _}=>bV k k') (pM (vT h)) (pM (vT h')) eM eM e2;have⟨e5,e6⟩:=aC l l' (pM h) (pM h') e4
  ⟨congr (congrArg _ (congr (congrArg _ e3) e1)) e5,e6⟩
end
def QZ{p q:Pt}(hp:dG p=true)(hq:dG q=true)(e:word p=word q):p=q :=
 (XM p q (r:=[]) (r':=[]) hp hq trivial trivial (congrArg (·++[]) e)).1
def q57{p q:Kd}(hp:yY p=true)(hq:yY q=true)(e:text p=text q):p=q :=
 (QR (r:=[]) (r':=[]) (fun {_ _}=>bV p q) hp hq trivial trivial (congrArg (·++[]) e)).1
noncomputable def q7L(x:Un):Pt->Bool
 | .u y=>y==x
 | _=>false
noncomputable def lG(S:List Pt)(x:Un):Bool:=S.any (q7L x)
def q38{x:Un}{p:Pt}(h:q7L x p=true):p=.u x:=by
 cases p with
 | u y=>exact congrArg Pt.u (eq_of_beq h)
 | _=>exact absurd h Bool.false_ne_true
def vV{S:List Pt}{x:Un}:lG S x=true↔Pt.u x∈S :=
 List.any_eq_true.trans ⟨fun h=>h.elim fun p h=>q38 h.2▸h.1,fun h=>⟨_,h,beq_self_eq_true x⟩⟩
noncomputable def BT(f:Un->Bool)(x:Un):Bool:=match x with
 | .num b g=>bif g then !f (.num b false)&&!f .number else !f .number
 | .str g=>bif g then !f (.str false)else true
 | _=>true
noncomputable def AB(f:Un->Bool)(p:Pt):Bool:=match p with
 | .u x=>BT f x
 | _=>true
noncomputable def jW(S:List Pt):Pt->Bool:=AB (lG S)
def WJ{S S':List Pt}(h:∀p,p∈S↔p∈S')(x:Un):lG S x=lG S' x :=
 Bool.eq_iff_iff.mpr (vV.trans ((h _).trans vV.symm))
def rQ{S S':List Pt}(h:∀p,p∈S↔p∈S')(p:Pt):jW S p=jW S' p:=congrFun (congrArg AB (funext (WJ h))) p
def T8{f f':Un->Bool}(h:∀x,(!f x)=true->(!f' x)=true){x:Un}(k:BT f x=true):BT f' x=true:=by
 cases x with
 | num b g=>cases g with
  | true=>exact zE.mpr ((zE.mp k).imp (h _) (h _))
  | false=>exact h _ k
 | str g=>cases g with
  | true=>exact h _ k
  | false=>rfl
 | _=>rfl
def e7{S S':List Pt}(h:∀p∈S',p∈S){p:Pt}(k:jW S p=true):jW S' p=true:=by
 cases p with
 | u x =>
  refine T8 (f:=lG S) (fun x q=>?_) k;cases z:lG S' x with
  | false=>rfl
  | true=>rw[vV.mpr (h _ (vV.mp z))]at q; exact q
 | _=>rfl
def q0R(p q:Pt):Prop:=pJ (word p) (word q)=true
def MC(k:Kd):Prop:=k.Pairwise q0R
open Classical in
def dd(l:List Pt):List Pt:=l.foldr (fun p r=>if p∈r then r else p::r) []
def JG(l:List Pt):List Pt:=(dd l).mergeSort fun p q=>!pJ (word q) (word p)
def yF(ps:List Pt):Kd:=JG (ps.filter (jW ps))
def KN(l:List Pt):(dd l).Nodup/\∀p,p∈dd l↔p∈l:=by
 induction l with
 | nil=>exact⟨.nil,fun p=>Iff.rfl⟩
 | cons x l ih =>
  unfold dd at ih ⊢;rw[List.foldr_cons]
  split
  ·next m=>exact⟨ih.1,fun p=>(ih.2 p).trans ⟨.tail _,fun h=>(qV.mp h).elim (fun e=>e▸(ih.2 x).mp m) id⟩⟩
  ·next m=>exact⟨List.nodup_cons.mpr ⟨m,ih.1⟩,fun p=>qV.trans ((or_congr Iff.rfl (ih.2 p)).trans qV.symm)⟩
def xW{k:Kd}(h:∀p∈k,dG p=true):yY k=true:=wU.mpr h
def vO(l:List Pt)(h:yY l=true):MC (JG l)/\∀p,p∈JG l↔p∈l:=by
 have mm:∀p,p∈JG l↔p∈l:=fun p=>(List.mergeSort_perm (dd l) fun p q=>!pJ (word q) (word p)).mem_iff.trans ((KN l).2 p);have so:=List.pairwise_mergeSort (le:=fun p q:Pt=>!pJ (word q) (word p)) (fun a b c h h'=>congrArg not (mX (word c) (word b) (word a) (eI h') (eI h))) (fun a b=>by
  show(!pJ (word b) (word a)||!pJ (word a) (word b))=true;cases h:pJ (word b) (word a)with
  | false=>rfl
  | true=>exact(congrArg not (fR _ _ h):(!pJ (word a) (word b))=true)) (dd l)
 refine⟨(List.Pairwise.and so ((List.mergeSort_perm (dd l) fun p q=>!pJ (word q) (word p)).nodup_iff.mpr (KN l).1)).imp_of_mem fun {a b} ha hb z=>?_,mm⟩;show pJ (word a) (word b)=true;cases e:pJ (word a) (word b)with
 | true=>rfl
 | false=>exact absurd (QZ (wU.mp h a ((mm a).mp ha)) (wU.mp h b ((mm b).mp hb)) (VK _ _ e (eI z.1))) z.2
def T7:yF []=[]:=List.mergeSort_nil
def rM{l:List Pt}(f:Pt->Bool)(h:yY l=true):yY (l.filter f)=true:=xW fun p hp=>wU.mp h p ((zO.mp hp).1)
def jO{ps:List Pt}(h:yY ps=true):MC (yF ps):=(vO _ (rM _ h)).1
def xE{ps:List Pt}(h:yY ps=true)(p:Pt):p∈yF ps↔p∈ps/\jW ps p=true:=by
 unfold yF;rw[(vO _ (rM _ h)).2];exact zO
def EV{ps:List Pt}(h:yY ps=true):yY (yF ps)=true:=xW fun p hp=>wU.mp h p ((xE h p).mp hp).1
def wW(k:Kd):Prop:=MC k/\∀p∈k,jW k p=true
def rP{ps:List Pt}(h:yY ps=true):wW (yF ps) :=
 ⟨jO h,fun p hp=>e7 (fun q hq=>((xE h q).mp hq).1) ((xE h p).mp hp).2⟩
def HT{p:Pt}:¬q0R p p:=by unfold q0R; rw[HV]; simp
def MC.nodup{k:Kd}(h:MC k):k.Nodup:=List.Pairwise.imp (S:=fun a b=>a≠b) (fun {a b} (l:q0R a b) (e:a=b)=>HT (e▸l)) h
def cF:∀{k k':Kd},MC k->MC k'->(∀p,p∈k↔p∈k')->k=k':=by
 intro k k' h h' e;refine List.Perm.eq_of_pairwise (le:=q0R) (fun a b z0 z0 h1 h2=>?_) h h' (((List.perm_ext_iff_of_nodup h.nodup h'.nodup).mpr e:k.Perm k'));unfold q0R at h1 h2;rw[fR _ _ h1]at h2; cases h2
def fM{ps ps':List Pt}(h:yY ps=true)(h':yY ps'=true)(e:∀p,p∈ps↔p∈ps'):yF ps=yF ps' :=
 cF (jO h) (jO h') fun p=>by rw[xE h,xE h',e,rQ e]
def pB{k:Kd}(h:yY k=true)(c:wW k):yF k=k :=
 cF (jO h) c.1 fun p=>by
  rw[xE h];exact⟨fun z=>z.1,fun z=>⟨z,c.2 p z⟩⟩
def iX{k:Kd}(c:wW k)(f:Pt->Bool):wW (k.filter f) :=
 ⟨List.Pairwise.filter _ c.1,fun p hp=>e7 (fun q hq=>(zO.mp hq).1) (c.2 p ((zO.mp hp).1))⟩
noncomputable def aZ(b:Bool):Int:=if b then 1 else 0
def K8:∀{a b:Bool},aZ a=aZ b->a=b
 | true,true,_=>rfl
 | false,false,_=>rfl
noncomputable def wZ:List Nat:=[110,101,118,101,114]
noncomputable def pD:Un->yD
 | .undef=>.key [117,110,100,101,102,105,110,101,100]
 | .null=>.key [110,117,108,108]
 | .number=>.key [110,117,109,98,101,114]
 | .num b f=>.num (aZ b) (aZ f)
 | .str f=>.str [97] (aZ f)
noncomputable def q7W:yD->Un
 | .key w=>q0E w
 | .num n f=>.num (n==1) (f==1)
 | .str _ f=>.str (f==1)
 | _=>.undef
def iU:∀b:Bool,(aZ b==1)=b
 | true=>rfl
 | false=>rfl
def XH:∀x:Un,q7W (pD x)=x
 | .undef=>rfl
 | .null=>rfl
 | .number=>rfl
 | .num b f=>congr (congrArg Un.num (iU b)) (iU f)
 | .str f=>congrArg Un.str (iU f)
def aH{x y:Un}(h:pD x=pD y):x=y:=(XH x).symm.trans ((congrArg q7W h).trans (XH y))
noncomputable def y9(q8:List yD)(t:Int):Option yD:=if 0<=t then q8[t.toNat]? else none
def kW{q8:List yD}{t:Int}{r:yD}(h:y9 q8 t=some r):∃n:Nat,t=n/\n<q8.length/\q8[n]?=some r:=by
 unfold y9 at h
 split at h
 ·rename_i h0
  exact⟨t.toNat,(Int.toNat_of_nonneg h0).symm,(List.getElem?_eq_some_iff.mp h).1,h⟩
 ·exact wF h
def bS{q8:List yD}(n:Nat):y9 q8 n=q8[n]?:=if_pos (zD n)
def tD{q8:List yD}(nd:q8.Nodup){t t':Int}{r:yD}(h:y9 q8 t=some r)(h':y9 q8 t'=some r):t=t':=by
 obtain⟨n,rfl,l,e⟩:=kW h;obtain⟨m,rfl,_,e'⟩:=kW h';exact congrArg Nat.cast ((List.getElem?_inj l nd).mp (e.trans e'.symm))
def xG{q8 q9:List yD}(p:q8 <+: q9){t:Int}{r:yD}(h:y9 q8 t=some r):y9 q9 t=some r:=by
 refine qG fun ng=>?_;obtain⟨n,rfl,l,e⟩:=kW h;obtain⟨x,rfl⟩:=p;refine ng ?_;exact(bS n).trans ((List.getElem?_append_left l).trans e)
def gU(q8:List yD)(t:Int):List Int->Prop
 | []=>t=2
 | [i]=>t=i
 | i::j::r=>∃ids,y9 q8 t=some (.uni ids)/\ids.Perm (i::j::r)/\ids.Pairwise (·<·)
mutual
def xS(q8:List yD):Int->Pt->Prop
 | t,.u x=>y9 q8 t=some (pD x)
 | t,.a ro k=>∃e ids,y9 q8 t=some (.arr e (aZ ro))/\yP q8 ids k/\gU q8 e ids
 | t,.t ro l=>∃es,y9 q8 t=some (.tpl es (aZ ro))/\uV q8 es l
def yP(q8:List yD):List Int->List Pt->Prop
 | [],[]=>True
 | i::is,p::ps=>xS q8 i p/\yP q8 is ps
 | _,_=>False
def uV(q8:List yD):List (Int×Int)->List (List Pt×Int)->Prop
 | [],[]=>True
 | (e,g)::es,(k,g')::l=>g=g'/\(∃ids,yP q8 ids k/\gU q8 e ids)/\uV q8 es l
 | _,_=>False
end
def wO(q8:List yD)(t:Int)(k:Kd):Prop:=∃ids,yP q8 ids k/\gU q8 t ids
section
variable{q8 q9:List yD}{t t':Int}
def gU.mono(p:q8 <+: q9):∀{ids:List Int},gU q8 t ids->gU q9 t ids
 | [],h=>h
 | [_],h=>h
 | _::_::_,h=>by
  refine qG fun ng=>?_;refine wI (h) fun x a b=>?_;refine ng ?_;exact⟨x,xG p a,b⟩
mutual
theorem xS.mono(pr:q8 <+: q9):∀{p:Pt}{t:Int},xS q8 t p->xS q9 t p
 | .u _,_,h=>xG pr h
 | .a _ _,_,h=>by
  refine uL (h) fun e ids a b c=>?_;exact⟨e,ids,xG pr a,yP.mono pr b,c.mono pr⟩
 | .t _ _,_,h=>by
  refine wI (h) fun es a b=>?_;exact⟨es,xG pr a,uV.mono pr b⟩
theorem yP.mono(pr:q8 <+: q9):∀{k:List Pt}{ids:List Int},yP q8 ids k->yP q9 ids k
 | [],[],_=>trivial
 | _::_,_::_,h=>⟨xS.mono pr h.1,yP.mono pr h.2⟩
 | [],_::_,h=>h.elim
 | _::_,[],h=>h.elim
theorem uV.mono(pr:q8 <+: q9):∀{l:List (List Pt×Int)}{es:List (Int×Int)},uV q8 es l->uV q9 es l
 | [],[],_=>trivial
 | (_,_)::_,(_,_)::_,h=>by
  refine qG fun ng=>?_;obtain⟨h1,⟨ids,h2,h3⟩,h4⟩:=h;refine ng ?_;exact⟨h1,⟨ids,yP.mono pr h2,h3.mono pr⟩,uV.mono pr h4⟩
 | [],_::_,h=>h.elim
 | (_,_)::_,[],h=>h.elim
end
def wO.mono(pr:q8 <+: q9){k:Kd}(h:wO q8 t k):wO q9 t k :=
 h.elim fun ids h=>⟨ids,h.1.mono pr,h.2.mono pr⟩
def oF(nd:q8.Nodup):∀{ids:List Int},gU q8 t ids->gU q8 t' ids->t=t'
 | [],h,h'=>h.trans h'.symm
 | [_],h,h'=>h.trans h'.symm
 | _::_::_,h,h'=>by
  refine(h).elim fun x z=>z.elim fun a z=>z.elim fun b c=>?_;refine gZ (h') fun y a' b' c'=>?_;cases List.Perm.eq_of_pairwise (le:=(·<·)) (fun a b z0 z0 h1 h2=>absurd h2 (Int.not_lt.mpr (Int.le_of_lt h1))) c c' (b.trans b'.symm);exact tD nd a a'
mutual
theorem cE(nd:q8.Nodup):∀{p:Pt}{t t':Int},xS q8 t p->xS q8 t' p->t=t'
 | .u _,_,_,h,h'=>tD nd h h'
 | .a _ _,_,_,h,h'=>by
  refine qG fun ng=>?_;refine(h).elim fun e z=>z.elim fun ids z=>z.elim fun a z=>z.elim fun b c=>?_;refine uL (h') fun e' ids' a' b' c'=>?_;refine ng ?_;cases m9 nd b b';cases oF nd c c';exact tD nd a a'
 | .t _ _,_,_,h,h'=>by
  refine qG fun ng=>?_;refine(h).elim fun es z=>z.elim fun a b=>?_;refine wI (h') fun es' a' b'=>?_;refine ng ?_;cases U3 nd b b';exact tD nd a a'
theorem m9(nd:q8.Nodup):∀{k:List Pt}{ids ids':List Int},yP q8 ids k->yP q8 ids' k->ids=ids'
 | [],[],[],_,_=>rfl
 | _::_,_::_,_::_,h,h'=>congr (congrArg _ (cE nd h.1 h'.1)) (m9 nd h.2 h'.2)
 | [],_::_,_,h,_=>h.elim
 | [],_,_::_,_,h=>h.elim
 | _::_,[],_,h,_=>h.elim
 | _::_,_,[],_,h=>h.elim
theorem U3(nd:q8.Nodup):∀{l:List (List Pt×Int)}{es es':List (Int×Int)},uV q8 es l->uV q8 es' l->es=es'
 | [],[],[],_,_=>rfl
 | (_,_)::_,(_,_)::_,(_,_)::_,h,h'=>by
  refine qG fun ng=>?_;obtain⟨h1,⟨ids,h2,h3⟩,h4⟩:=h;obtain⟨h1',⟨ids',h2',h3'⟩,h4'⟩:=h';refine ng ?_;cases m9 nd h2 h2';cases oF nd h3 h3';subst h1; cases h1';exact congrArg _ (U3 nd h4 h4')
 | [],_::_,_,h,_=>h.elim
 | [],_,_::_,_,h=>h.elim
 | (_,_)::_,[],_,h,_=>h.elim
 | (_,_)::_,_,[],_,h=>h.elim
end
def q73(nd:q8.Nodup){k:Kd}(h:wO q8 t k)(h':wO q8 t' k):t=t':=by
 refine wI (h) fun ids a b=>?_;refine wI (h') fun ids' a' b'=>?_;cases m9 nd a a';exact oF nd b b'
theorem jQ:∀{k:List Pt}{ids:List Int},yP q8 ids k->ids.length=k.length
 | [],[],_=>rfl
 | _::_,_::_,h=>congrArg Nat.succ (jQ h.2)
 | [],_::_,h=>h.elim
 | _::_,[],h=>h.elim
theorem wG:∀{k:List Pt}{ids:List Int},yP q8 ids k->(∀p∈k,∃i∈ids,xS q8 i p)/\∀i∈ids,∃p∈k,xS q8 i p
 | [],[],_=>⟨nofun,nofun⟩
 | p::k,i::is,h=>by
  refine qG fun ng=>?_;refine(wG h.2).elim fun a b=>?_;refine ng ?_;refine⟨fun q hq=>?_,fun j hj=>?_⟩
  ·cases hq with
   | head=>exact⟨i,.head _,h.1⟩
   | tail _ hq=>exact(a q hq).elim fun j x=>⟨j,.tail _ x.1,x.2⟩
  ·refine qG fun ng=>?_;cases hj with
   | head=>exact ng (⟨p,.head _,h.1⟩)
   | tail _ hj=>exact ng ((b j hj).elim fun q x=>⟨q,.tail _ x.1,x.2⟩)
 | [],_::_,h=>h.elim
 | _::_,[],h=>h.elim
end
noncomputable def Y5:Pt->Bool
 | .u _=>false
 | _=>true
noncomputable def nl(k:List Pt):Nat:=(k.filter Y5).length
noncomputable def FT:List (List Int):=[[],[0],[0,0],[0,0,0],[0,2],[2,0],[0,2,0],[0,1],[1],[1,2],[0,0,2],[2,0,0]]
mutual
def kO:Pt->Prop
 | .u _=>True
 | .a _ k=>xL k/\wW k/\nl k<=2
 | .t _ l=>cL l/\l.map (·.2)∈FT
def xL:List Pt->Prop
 | []=>True
 | p::r=>kO p/\xL r
def cL:List (List Pt×Int)->Prop
 | []=>True
 | (k,_)::r=>(xL k/\wW k/\nl k<=2)/\cL r
end
def yM{k:Kd}:xL k↔∀p∈k,kO p:=by
 induction k with
 | nil=>exact⟨fun z0=>nofun,fun z0=>trivial⟩
 | cons p r ih=>exact(and_congr Iff.rfl ih).trans zB.symm
def kF{l:vB}:cL l↔∀q∈l,xL q.1/\wW q.1/\nl q.1<=2:=by
 induction l with
 | nil=>exact⟨fun z0=>nofun,fun z0=>trivial⟩
 | cons p r ih=>exact(and_congr Iff.rfl ih).trans (zB (p:=fun q:List Pt×Int=>xL q.1/\wW q.1/\nl q.1<=2)).symm
def tO:∀{l:List Int},l∈FT->∀g∈l,tI g=true:=by unfold FT; decide
mutual
theorem wS:∀{p:Pt},kO p->dG p=true
 | .u _,_=>rfl
 | .a _ _,h=>wD h.1
 | .t _ _,h=>sT h.1 (tO h.2)
theorem wD:∀{k:List Pt},xL k->yY k=true
 | [],_=>rfl
 | _::_,h=>kQ (wS h.1) (wD h.2)
theorem sT:∀{l:List (List Pt×Int)},cL l->(∀g∈l.map (·.2),tI g=true)->mD l=true
 | [],_,_=>rfl
 | (_,_)::_,h,hg=>kQ (kQ (hg _ (.head _)) (wD h.1.1)) (sT h.2 fun x hx=>hg x (.tail _ hx))
end
noncomputable def q6F(w:List Nat):Bool:=w==[117,110,100,101,102,105,110,101,100]||w==[110,117,108,108]||w==[110,117,109,98,101,114]
noncomputable def rW:yD->Nat
 | .key w=>if q6F w then 0 else 3
 | .num _ _=>0
 | .str _ _=>0
 | .arr _ _=>1
 | .tpl _ _=>2
 | .uni _=>4
 | _=>5
noncomputable def UT:Pt->Nat
 | .u _=>0
 | .a _ _=>1
 | .t _ _=>2
section
variable{q8:List yD}{t:Int}
def b8:∀{p:Pt},xS q8 t p->∃r,y9 q8 t=some r/\rW r=UT p
 | .u x,h=>⟨_,h,by cases x <;> rfl⟩
 | .a _ _,h=>v4 h fun z0 z0 h=>⟨_,h.1,rfl⟩
 | .t _ _,h=>h.elim fun z0 h=>⟨_,h.1,rfl⟩
def KI:∀p:Pt,UT p<3
 | .u _=>(by decide:0<3)
 | .a _ _=>(by decide:1<3)
 | .t _ _=>(by decide:2<3)
def JE{p:Pt}{r:yD}(h:xS q8 t p)(e:y9 q8 t=some r):rW r=UT p :=
 (b8 h).elim fun z0 x=>(congrArg rW (qN (e.symm.trans x.1))).trans x.2
def QI{p:Pt}{r:yD}(h:xS q8 t p)(e:y9 q8 t=some r)(n:3<=rW r):False :=
 absurd (JE h e▸n) (Nat.not_le.mpr (KI p))
def N9{p:Pt}{x:List Int}(h:xS q8 t p)(e:y9 q8 t=some (.uni x)):False:=QI h e (show 3<=4 from Nat.le_succ 3)
def fB{p q:Pt}(h:xS q8 t p)(h':xS q8 t q):UT p=UT q :=
 (b8 h).elim fun z0 x=>x.2.symm.trans (JE h' x.1)
def T6(h2:y9 q8 2=some (.key wZ)):∀{k k':Kd}{ids ids':List Int},yP q8 ids k->yP q8 ids' k'->gU q8 t ids->gU q8 t ids'->ids.Perm ids'
 | _,_,[],[],_,_,_,_=>.refl _
 | _,q::_,[],[_],_,a',h,h'=>(QI a'.1 (h'.symm.trans h▸h2) (by decide)).elim
 | _,_,[],_::_::_,_,_,h,h'=>h'.elim fun z0 x=>nomatch (h▸x.1).symm.trans h2
 | p::_,_,[_],[],a,_,h,h'=>(QI a.1 (h.symm.trans h'▸h2) (by decide)).elim
 | _,_,[_],[_],_,_,h,h'=>(h.symm.trans h')▸.refl _
 | p::_,_,[_],_::_::_,a,_,h,h'=>h'.elim fun z0 x=>(N9 a.1 (h▸x.1)).elim
 | _,_,_::_::_,[],_,_,h,h'=>h.elim fun z0 x=>nomatch (h'▸x.1).symm.trans h2
 | _,q::_,_::_::_,[_],_,a',h,h'=>h.elim fun z0 x=>(N9 a'.1 (h'▸x.1)).elim
 | _,_,_::_::_,_::_::_,_,_,h,h'=>by
  refine qG fun ng=>?_;refine gZ (h) fun x e p z0=>?_;refine(h').elim fun x' zz=>?_;refine ng ?_;cases e.symm.trans zz.1;exact p.symm.trans zz.2.1
def UQ(q8:List yD)(k:List Pt):Prop:=∀p∈k,∀q t,kO q->xS q8 t p->xS q8 t q->p=q
def X5{k k':List Pt}{ids ids':List Int}(U:UQ q8 k)(f':xL k')(a:yP q8 ids k)(a':yP q8 ids' k')(pm:ids.Perm ids')(p:Pt):p∈k↔p∈k':=by
 refine(wG a).elim fun a1 a2=>?_;refine(wG a').elim fun b1 b2=>?_
 constructor
 ·intro hp;refine(a1 p hp).elim fun i z=>z.elim fun hi s=>?_;refine(b2 i (pm.mem_iff.mp hi)).elim fun q z=>z.elim fun hq s'=>?_;exact U p hp q i (yM.mp f' q hq) s s'▸hq
 ·intro hp;refine(b1 p hp).elim fun i z=>z.elim fun hi s=>?_;refine(a2 i (pm.mem_iff.mpr hi)).elim fun q z=>z.elim fun hq s'=>?_;exact U q hq p i (yM.mp f' p hp) s' s▸hq
def JF{k k':List Pt}{ids ids':List Int}(h2:y9 q8 2=some (.key wZ))(U:UQ q8 k)(f':xL k')(c:wW k)(c':wW k')(a:yP q8 ids k)(a':yP q8 ids' k')(h:gU q8 t ids)(h':gU q8 t ids'):k=k' :=
 cF c.1 c'.1 (X5 U f' a a' (T6 h2 a a' h h'))
mutual
theorem eZ(h2:y9 q8 2=some (.key wZ)):∀{p q:Pt}{t:Int},kO p->kO q->xS q8 t p->xS q8 t q->p=q
 | .u _,.u _,_,_,_,h,h'=>congrArg Pt.u (aH (qN (h.symm.trans h')))
 | .a _ _,.a _ _,_,f,f',h,h'=>by
  refine v4 (h) fun e ids zz=>?_;refine(h').elim fun e' z=>z.elim fun ids' z=>z.elim fun a' z=>z.elim fun b' c'=>?_;exact congr (congrArg Pt.a (K8 (yD.arr.inj (qN (zz.1.symm.trans a'))).2)) (JF h2 (tF h2 f.1) f'.1 f.2.1 f'.2.1 zz.2.1 b' zz.2.2 ((yD.arr.inj (qN (zz.1.symm.trans a'))).1▸c'))
 | .t _ _,.t _ _,_,f,f',h,h'=>by
  refine(h).elim fun es zz=>?_;refine(h').elim fun es' z=>z.elim fun a' b'=>?_;exact congr (congrArg Pt.t (K8 (yD.tpl.inj (qN (zz.1.symm.trans a'))).2)) (eY h2 f.1 f'.1 zz.2 ((yD.tpl.inj (qN (zz.1.symm.trans a'))).1▸b'))
 | .u _,.a _ _,_,_,_,h,h'=>nomatch (fB h h':0=1)
 | .u _,.t _ _,_,_,_,h,h'=>nomatch (fB h h':0=2)
 | .a _ _,.u _,_,_,_,h,h'=>nomatch (fB h h':1=0)
 | .a _ _,.t _ _,_,_,_,h,h'=>nomatch (fB h h':1=2)
 | .t _ _,.u _,_,_,_,h,h'=>nomatch (fB h h':2=0)
 | .t _ _,.a _ _,_,_,_,h,h'=>nomatch (fB h h':2=1)
theorem tF(h2:y9 q8 2=some (.key wZ)):∀{k:List Pt},xL k->UQ q8 k
 | [],_=>nofun
 | _::_,f=>fun p hp q t fq s s'=>by
  cases hp with
  | head=>exact eZ h2 f.1 fq s s'
  | tail _ hp=>exact tF h2 f.2 p hp q t fq s s'
theorem eY(h2:y9 q8 2=some (.key wZ)):∀{l l':List (List Pt×Int)}{es:List (Int×Int)},cL l->cL l'->uV q8 es l->uV q8 es l'->l=l'
 | [],[],[],_,_,_,_=>rfl
 | (_,_)::_,(_,_)::_,(_,_)::_,h,h',s,s'=>by
  obtain⟨s1,⟨ids,s2,s3⟩,s4⟩:=s;obtain⟨s1',⟨ids',s2',s3'⟩,s4'⟩:=s';subst s1; cases s1';exact congr (congrArg _ (congrArg (·,_) (JF h2 (tF h2 h.1.1) h'.1.1 h.1.2.1 h'.1.2.1 s2 s2' s3 s3'))) (eY h2 h.2 h'.2 s4 s4')
 | [],_::_,[],_,_,_,h=>h.elim
 | _::_,[],[],_,_,h,_=>h.elim
 | [],_,_::_,_,_,h,_=>h.elim
 | (_,_)::_,[],(_,_)::_,_,_,_,h=>h.elim
 | (_,_)::_,_::_,[],_,_,h,_=>h.elim
end
def q56(h2:y9 q8 2=some (.key wZ)){k k':List Pt}{ids ids':List Int}(f:xL k)(f':xL k')(a:yP q8 ids k)(a':yP q8 ids' k')(pm:ids.Perm ids')(p:Pt):p∈k↔p∈k' :=
 X5 (tF h2 f) f' a a' pm p
def mA(h2:y9 q8 2=some (.key wZ)){k k':Kd}(f:xL k)(f':xL k')(c:wW k)(c':wW k')(s:wO q8 t k)(s':wO q8 t k'):k=k':=by
 refine qG fun ng=>?_;refine wI (s) fun ids a b=>?_;refine wI (s') fun ids' a' b'=>?_;refine ng ?_;exact JF h2 (tF h2 f) f' c c' a a' b b'
end
section
variable{X Y:Prop}{b:Bool}{N:Nat}{C:yA}{Q:Kv}{σ:St}{ρ:y5}{x:Option V}{v:V}{K:V->Prop}
def bt(h:b=true)(k:X):bb b X Y:=by subst h; exact k
def bf(h:b=false)(k:Y):bb b X Y:=by subst h; exact k
def lo(h:x=some v)(k:K v):ll x K:=by subst h; exact k
def sv(h:x=some v)(k:K v):Sv x K:=by subst h; exact k
def en{f:String}{cap vs:List V}{d:x6}(hs:y5.sets xV (d.caps++d.params) (cap++(vs++sR d vs))=some ρ)(h:xA C d.body ρ (uO Q) σ):uR C (some d) cap vs Q σ:=by
 show lr (y5.sets _ _ _) _;exact(hs)▸h
def cm{f:String}{cap vs:List V}{d:x6}{k:Nat}(hN:k+1<=N)(hD:D f=some d)(hs:y5.sets xV (d.caps++d.params) (cap++(vs++sR d vs))=some ρ)
  (h:∀M,k<=M->xA (xP D (y4 D M)) d.body ρ (uO Q) σ):y4 D N f cap vs Q σ:=by
 cases N with
 | zero=>exact absurd hN (Nat.not_succ_le_zero k)
 | succ M =>
  rw[KG];show uR _ (D f) _ _ _ _;exact(hD)▸(en (f:=f) hs (h M (zJ hN)))
def lv{a b M:Nat}(h:b<=M)(e:Nat.ble a b=true:=by rfl):a<=M:=qF (z8 e) h
def bc(h:b=true->X)(k:b=false->Y):bb b X Y:=by cases b <;> first | exact h rfl | exact k rfl
def dc{p:Prop}{_:Decidable p}(h:p->X)(k:¬p->Y):bb (decide p) X Y:=bc (fun e=>h (zT e)) fun e=>k (of_decide_eq_false e)
def kt(h:b=true)(k:X):ck b X:=by subst h; exact k
def q0P{o:Option Ob}{es:List (Int×V)}{K:List (Int×V)->Prop}(h:o=some (.dI es))(k:K es):WO o K:=by subst h; exact k
def HP{o:Option Ob}{l:List V}{K:List V->Prop}(h:o=some (.list l))(k:K l):xK o K:=by subst h; exact k
def ft{l:List V}(h:l.length<=lim)(k:X):v9 l X:=kt (Nat.ble_eq_true_of_le h) k
def fd{n:Nat}(h:n<lim)(k:X):ck (Nat.blt n lim) X:=kt (Nat.ble_eq_true_of_le h) k
end
section
variable{α:Type}{tg:Tg}{x:String}{B:y5->Kf->St->Prop}{K:Kf}{ρ0 ρ:y5}{σ:St}{v:V}
def lp(enc:α->V)(I:List α->y5->St->Prop){L:List V}{l:List α}(hL:L=l.map enc)(hnil:∀ρ σ,I [] ρ σ->K .next ρ σ)
  (hcons:∀x r ρ σ,I (x::r) ρ σ->∀W:y5->St->Prop,(∀ρ σ,I r ρ σ->W ρ σ)->lr (y5.bind ρ tg (enc x)) fun ρ'=>B ρ' (d6 W K) σ) (h:I l ρ σ):r9 tg B K L ρ σ:=by
 subst hL;revert ρ σ
 induction l with
 | nil=>exact fun h=>hnil _ _ h
 | cons x r ih=>exact fun h=>hcons x r _ _ h _ fun z0 z0 h=>ih h
def OZ(h:∀y,y≠x->ρ y=ρ0 y):y5.set ρ x v=y5.set ρ0 x v:=funext fun y=>by
 unfold y5.set
 by_cases e:y=x
 ·rw[if_pos e,if_pos e]
 ·exact(if_neg e).trans ((if_neg e)▸(h y e))
def l1(enc:α->V)(I:List α->St->Prop){L:List V}{l:List α}(hL:L=l.map enc)(hnil:∀ρ σ,(∀y,y≠x->ρ y=ρ0 y)->I [] σ->K .next ρ σ)
  (hcons:∀a r σ,I (a::r) σ->∀W:y5->St->Prop,(∀σ,I r σ->W (y5.set ρ0 x (enc a)) σ)->B (y5.set ρ0 x (enc a)) (d6 W K) σ) (h:I l σ):r9 (.nm x) B K L ρ0 σ :=
 lp (tg:=.nm x) enc (fun r ρ σ=>(∀y,y≠x->ρ y=ρ0 y)/\I r σ) hL (fun ρ σ h=>hnil ρ σ h.1 h.2)
  (fun a r ρ σ h W w=>(Eq.mpr (congrArg (fun z=>B z (d6 W K) σ) (OZ h.1)) (hcons a r σ h.2 W fun σ h'=>w _ _ ⟨fun z0 n=>if_neg n,h'⟩):B (y5.set ρ x (enc a)) (d6 W K) σ)) ⟨fun z0 z0=>rfl,h⟩
noncomputable def y5.mix(ρ0:y5)(xs:List String)(f:y5):y5:=fun y=>bif xs.contains y then f y else ρ0 y
def Ag(xs:List String)(ρ0 ρ:y5):Prop:=∀y,xs.contains y=false->ρ y=ρ0 y
def Ag.mix{xs:List String}{f:y5}:Ag xs ρ0 (y5.mix ρ0 xs f):=fun y h=>by unfold y5.mix; rw[h]; rfl
def Ag.set{xs:List String}(h:Ag xs ρ0 ρ)(hx:xs.contains x=true):Ag xs ρ0 (y5.set ρ x v):=fun y e=>(if_neg fun z=>nomatch (z▸e).symm.trans hx).trans (h y e)
def Ag.tr{xs ys:List String}{ρ':y5}(h:Ag xs ρ0 ρ)(h':Ag ys ρ ρ')(hs:ys.all xs.contains=true):Ag xs ρ0 ρ':=fun y e=>by
 cases c:ys.contains y with
 | false=>exact(h' y c).trans (h y e)
 | true=>exact nomatch e.symm.trans (z6.mp hs y (qX.mp c))
def Ag.sub{xs ys:List String}{f:y5}(h:Ag xs ρ0 ρ)(hs:ys.all xs.contains=true):Ag xs ρ0 (y5.mix ρ ys f):=h.tr .mix hs
def Ag.mx{xs ys:List String}{f:y5}(hs:ys.all xs.contains=true):Ag xs ρ0 (y5.mix ρ0 ys f):=.sub (fun z0 z0=>rfl) hs
def Ag.eq{xs:List String}(h:Ag xs ρ0 ρ):ρ=y5.mix ρ0 xs ρ:=funext fun y=>by
 unfold y5.mix;cases e:xs.contains y with
 | true=>rfl
 | false=>exact h y e
def lg(xs:List String)(enc:α->V){γ:Type}(st:γ->St)(I:List α->γ->Prop){L:List V}{l:List α}{g0:γ}(hL:L=l.map enc)(hnil:∀f g,I [] g->K .next (y5.mix ρ0 xs f) (st g))
  (hcons:∀x r f g,I (x::r) g->∀W:y5->St->Prop,(∀ρ g,Ag xs ρ0 ρ->I r g->W ρ (st g))->lr (y5.bind (y5.mix ρ0 xs f) tg (enc x)) fun ρ'=>B ρ' (d6 W K) (st g)) (h:I l g0):r9 tg B K L ρ0 (st g0) :=
 lp (tg:=tg) enc (fun r ρ σ=>Ag xs ρ0 ρ/\∃g,σ=st g/\I r g) hL (fun ρ σ h=>h.2.elim fun g z=>z.1▸h.1.eq▸hnil ρ g z.2)
  (fun x r ρ σ h W w=>h.2.elim fun g z=>z.1▸(by have:=hcons x r ρ g z.2 W fun ρ g a i=>w ρ _ ⟨a,g,rfl,i⟩; rwa [<-h.1.eq]at this)) ⟨fun z0 z0=>rfl,g0,rfl,h⟩
def wh(xs:List String){T:y5->Kb->St->Prop}{γ:Type}(st:γ->St)(I:γ->Prop)(μ:γ->Nat)(step:∀f g,I g->∀W:y5->St->Prop,(∀ρ g',Ag xs ρ0 ρ->I g'->μ g'<μ g->W ρ (st g'))->T (y5.mix ρ0 xs f) (fun b σ=>bb b (B (y5.mix ρ0 xs f) (d6 W K) σ) (K .next (y5.mix ρ0 xs f) σ)) (st g)){n:Nat}{g0:γ}(hn:μ g0<n)(h:I g0):G8 T B K n ρ0 (st g0):=by
 suffices H:∀n ρ g,Ag xs ρ0 ρ->μ g<n->I g->G8 T B K n ρ (st g)from H n ρ0 g0 (fun z0 z0=>rfl) hn h
 intro n
 induction n with
 | zero=>exact fun z0 z0 z0 h=>absurd h (Nat.not_lt_zero _)
 | succ n ih =>
  intro ρ g a hn h
  have:=step ρ g h (G8 T B K n) fun ρ' g' a' h' l=>ih ρ' g' a' (qQ l (Nat.le_of_lt_succ hn)) h'
  rw[<-a.eq]at this;exact this
def la(xs:List String)(y:String)(enc:α->V){γ:Type}(va:γ->V)(st:γ->St)(I:List α->γ->Prop){L:List V}{l:List α}{g0:γ}(hL:L=l.map enc)(h0:ρ0 y=some (va g0))(hnil:∀f g,I [] g->K .next (y5.set (y5.mix ρ0 xs f) y (va g)) (st g))
  (hcons:∀x r f g,I (x::r) g->∀W:y5->St->Prop,(∀ρ g,ρ y=some (va g)->Ag (y::xs) ρ0 ρ->I r g->W ρ (st g))->lr (y5.bind (y5.set (y5.mix ρ0 xs f) y (va g)) tg (enc x)) fun ρ'=>B ρ' (d6 W K) (st g)) (h:I l g0):r9 tg B K L ρ0 (st g0):=by
 have E:∀{ρ g},ρ y=some (va g)->Ag (y::xs) ρ0 ρ->ρ=y5.set (y5.mix ρ0 xs ρ) y (va g):=fun {ρ g} e a=>funext fun z=>by
  unfold y5.set
  by_cases h:z=y
  ·exact Eq.mpr (congrArg _ (if_pos h)) ((h)▸e)
  ·rw[if_neg h];unfold y5.mix;cases c:xs.contains z with
   | true=>rfl
   | false=>exact a z (Bool.or_eq_false_iff.mpr ⟨zV.mpr h,c⟩)
 refine lp (tg:=tg) enc (fun r ρ σ=>∃g,σ=st g/\ρ y=some (va g)/\Ag (y::xs) ρ0 ρ/\I r g) hL (fun ρ σ h=>h.elim fun g z=>?_) (fun x r ρ σ h W w=>h.elim fun g z=>?_) ⟨g0,rfl,h0,fun z0 z0=>rfl,h⟩
 ·exact(z.1)▸(E z.2.1 z.2.2.1)▸(hnil ρ g z.2.2.2)
 ·have:=hcons x r ρ g z.2.2.2 W fun ρ g e a i=>w ρ _ ⟨g,rfl,e,a,i⟩
  rw[<-E z.2.1 z.2.2.1]at this;exact z.1▸this
theorem JT{ok:St->Prop->Prop}{B:V->Ko->St->Prop}{K:Kl}(enc:α->V)(f:α->Option V)(Z2:∀{X},X->ok σ X):∀(l:List α)(acc:List V),(∀x∈l,∀K:Ko,K (f x) σ->B (enc x) K σ)->K (acc++l.filterMap f) σ->kZ B ok K (l.map enc) acc σ
 | [],acc,_,h=>(qS acc▸h :)
 | x::r,acc,hb,h=>hb x (.head _) _ (Z2 (JT enc f Z2 r _ (fun y hy=>hb y (.tail _ hy)) (by
   rw[List.filterMap_cons]at h;cases e:f x with
   | none=>rw[e]at h; rw[Option.toList_none,qS]; exact h
   | some v=>rw[e]at h; rw[Option.toList_some,qZ]; exact h)))
end
def UZ{l:List Nat}{X:Prop}(h:l.length<=lim)(k:X):ZU l X:=kt (Nat.ble_eq_true_of_le h) k
def aW{α:Type}{σ:St}{ok:St->Prop->Prop}{B:V->Ko->St->Prop}{K:Kl}(enc:α->V)(g:α->V)(Z2:∀{X},X->ok σ X){l:List α}{L:List V}(hL:L=l.map enc)(hb:∀x∈l,∀K:Ko,K (some (g x)) σ->B (enc x) K σ)(h:K (l.map g) σ):kZ B ok K L [] σ:=by
 rw[hL]
 suffices H:∀(l:List α)(acc:List V),(∀x∈l,∀K:Ko,K (some (g x)) σ->B (enc x) K σ)->K (acc++l.map g) σ->kZ B ok K (l.map enc) acc σ from H l [] hb h
 intro l
 induction l with
 | nil=>exact fun acc z0 h=>(qS acc▸h :)
 | cons x r ih=>exact fun acc hb h=>hb x (.head _) _ (Z2 (ih _ (fun y hy=>hb y (.tail _ hy)) (Eq.mp (congrArg (K · σ) (qZ acc [g x] _).symm) h)))
def LC{α β:Type}{σ:St}{ok:St->Prop->Prop}{B:V->Ko->St->Prop}{K:Kl}(enc:α->V)(f:α->β)(g:β->V)(Z2:∀{X},X->ok σ X){l:List α}{L:List V}(hL:L=l.map enc)(hb:∀x∈l,∀K:Ko,K (some (g (f x))) σ->B (enc x) K σ)(h:K ((l.map f).map g) σ):kZ B ok K L [] σ :=
 aW enc (g∘f) Z2 hL hb (Eq.mp (congrArg (K · σ) qY) h)
def NY{α:Type}{σ:St}{L:List V}{ok:St->Prop->Prop}{B:V->Ko->St->Prop}{K:Kl}(enc:α->V)(f:α->Option V)(Z2:∀{X},X->ok σ X){l:List α}(hL:L=l.map enc)(hb:∀x∈l,∀K:Ko,K (f x) σ->B (enc x) K σ)(h:K (l.filterMap f) σ):kZ B ok K L [] σ:=hL▸JT enc f Z2 l [] hb h
def yV{α:Type}{P:α->Prop}:∀x∈([]:List α),P x:=fun z0 h=>absurd h qW
def AR{n:Nat}(h:n<1000000000):Z3 (n:Int):=⟨Int.le_trans (by decide) (zD n),Int.lt_trans (zI.mpr h) (by decide)⟩
def sm{i:Int}(h:decide (-4611686018427387904<=i/\i<4611686018427387904)=true):Z3 i:=(zT h:-4611686018427387904<=i/\i<4611686018427387904)
section
set_option genInjectivity true
noncomputable def G5:Option V->Int
 | some (.int i)=>i
 | _=>0
noncomputable def q7X:Option V->List Nat
 | some (.str s)=>s
 | _=>[]
noncomputable def q7Y:Option V->List V
 | some (.tup s)=>s
 | _=>[]
noncomputable def q8I:V->Int×Int
 | .tup l=>(G5 l[0]?,G5 l[1]?)
 | _=>(0,0)
noncomputable def q2N(l:List V):yD:=match G5 l[0]? with
 | 1=>.key (q7X l[1]?)
 | 2=>.boo (G5 l[1]?) (G5 l[2]?)
 | 3=>.str (q7X l[1]?) (G5 l[2]?)
 | 4=>.num (G5 l[1]?) (G5 l[2]?)
 | 6=>.uni ((q7Y l[1]?).map fun x=>G5 (some x))
 | 8=>.obj
 | 10=>.par (G5 l[1]?)
 | 11=>.arr (G5 l[1]?) (G5 l[2]?)
 | _=>.tpl ((q7Y l[1]?).map q8I) (G5 l[2]?)
def KO:∀r:yD,q2N r.enc=r
 | .uni l=>congrArg yD.uni ((qY ..).trans (List.map_id l))
 | .tpl l ro=>congrArg (yD.tpl · ro) ((qY ..).trans (List.map_id l))
 | .key _=>rfl | .boo _ _=>rfl | .obj=>rfl | .str _ _=>rfl | .num _ _=>rfl | .par _=>rfl | .arr _ _=>rfl
def oM:∀r:yD,kS 3 (.tup r.enc)=true:=by
 intro r;refine z6.mpr fun x hx=>?_;cases r with
 | uni l =>
  rcases qV.mp hx with rfl | hx
  ·rfl
  ·cases qO.mp hx; exact((fun l=>z6.mpr fun x hx=>(zC.mp hx).elim fun y q=>q.2▸rfl:∀l:List Int,(vI l).all (kS 1)=true)) l
 | tpl l ro =>
  rcases qV.mp hx with rfl | hx
  ·rfl
  ·rcases qV.mp hx with rfl | hx
   ·exact z6.mpr fun x hx=>(zC.mp hx).elim fun y q=>q.2▸rfl
   ·cases qO.mp hx; rfl
 | _=>exact z6.mp rfl x hx
noncomputable def s9(q8:List yD):List V:=q8.map fun r=>.tup r.enc
noncomputable def fJ(q8:List yD):List (List V×V):=q8.zipIdx.map fun p=>(p.1.enc,.int p.2)
noncomputable def q84:List (String×V):=[("rows",.ref true 1),("index",.ref true 2),("decls",.ref true 26),("bounds",.ref true 27),("defaults",.ref true 28),("names",.ref true 29),("origins",.ref true 30),("renamed",.ref true 31),("shaping",.int 0),("putting",.int 0)]
noncomputable def tS(q8:List yD)(G:xF)(L:xF):St:=⟨some (.inst "TypeTable" 3)::some (.list (s9 q8))::some (.dT (fJ q8))::some (.ns q84)::G,L⟩
def ins(q8:List yD)(r:yD):List yD:=if r∈q8 then q8 else q8++[r]
def oH(q8:List yD)(r:yD):Int:=(q8.idxOf r:Nat)
set_option genCtorIdx false in
structure vQ (q8:List yD) (b:Nat) (q9:List yD):Prop where
 pre:q8 <+: q9
 len:q9.length<=q8.length+b
 nd:q9.Nodup
section
variable{q8 q9 rows'':List yD}{G L:xF}{t n f e ro:Int}{r r':yD}{Q:Kv}{N:Nat}{K:V->Prop}
def H4(h:r.enc=r'.enc):r=r':=(KO r).symm.trans ((congrArg q2N h).trans (KO r'))
def DE:y8 (fJ q8) r.enc=if r∈q8 then some (.int (oH q8 r))else none:=by
 have key:∀(l:List yD)(n:Nat),y8 ((l.zipIdx n).map fun p=>(p.1.enc,V.int p.2)) r.enc=if r∈l then some (.int ((n+l.idxOf r:Nat)))else none:=by
  intro l
  induction l with
  | nil=>intro n; rfl
  | cons x l ih =>
   intro n;rw[List.zipIdx_cons,List.map_cons];unfold y8
   by_cases e:x=r
   ·subst e; rw[if_pos rfl,if_pos (.head _),List.idxOf_cons_self]; rfl
   ·rw[if_neg fun z=>e (H4 z),ih];simp only[qV,show ¬r=x from fun z=>e z.symm,false_or,List.idxOf_cons,((zV.mpr e:(x==r)=false)),cond_false,Nat.add_assoc,Nat.add_comm 1]
 have:=key q8 0
 rw[Nat.zero_add]at this;exact this
def EP(nd:q8.Nodup):y9 (ins q8 r) (oH q8 r)=some r/\vQ q8 1 (ins q8 r):=by
 unfold ins oH;rw[bS]
 by_cases h:r∈q8
 ·rw[if_pos h];exact⟨by rw[zS (List.idxOf_lt_length_of_mem h),List.getElem_idxOf],List.prefix_refl _,Nat.le_succ _,nd⟩
 ·rw[if_neg h];refine⟨by rw[List.idxOf_eq_length h]; simp,List.prefix_append _ _,by rw[qM]; exact qT _,?_⟩;rw[List.nodup_append];exact⟨nd,List.nodup_cons.mpr ⟨qW,.nil⟩,fun x hx y hy e=>h (qO.mp hy▸e▸hx)⟩
def dD(hN:1<=N)(nd:q8.Nodup)(hl:q8.length<lim)(K:∀t q9,y9 q9 t=some r->vQ q8 1 q9->Q (.int t) (tS q9 G [])):y4 D N "TypeTable.put" [] [.ref true 0,.tup r.enc] Q (tS q8 G []):=by
 refine cm hN (d:=gI) rfl rfl fun M hM=>?_;refine(EP (r:=r) nd).elim fun i1 i2=>?_;have K':=K _ (ins q8 r) i1 i2;refine kt (oM r) ?_
 by_cases h:r∈q8
 ·have lk:y8 (fJ q8) r.enc=some (.int (oH q8 r)):=DE.trans (if_pos h);rw[show ins q8 r=q8 from if_pos h]at K';refine bt (congrArg Option.isSome lk) ?_;exact kt (oM r) (sv lk K')
 ·have lk:y8 (fJ q8) r.enc=none:=DE.trans (if_neg h);refine bf (congrArg Option.isSome lk) ?_;have hlen:(s9 q8).length=q8.length:=qH ..;refine ft (hlen▸z9 hl) ?_;have h1:s9 (q8++[r])=s9 q8++[.tup r.enc]:=qU ..;refine ft (by rw[<-h1,s9,qH,qM]; exact hl) ?_;refine kt (oM r) (fd (by unfold fJ; rw[qH,List.length_zipIdx]; exact hl) ?_);have h2:fJ (q8++[r])=xQ (fJ q8) r.enc (.int q8.length):=by
   unfold xQ;rw[lk];simp[fJ,List.zipIdx_append]
  rw[show ins q8 r=q8++[r]from if_neg h]at K';unfold tS oH at K';rw[h1,h2,List.idxOf_eq_length h]at K';show Q (.int (s9 q8).length) ⟨(((tS q8 G []).put (.list (s9 q8++[.tup r.enc])) (.ref true 1)).put (.dT (xQ (fJ q8) r.enc (.int (s9 q8).length))) (.ref true 2)).g,[]⟩;rw[hlen];exact K'
end
end
noncomputable def yD.kind:yD->Int
 | .key _=>1 | .boo _ _=>2 | .obj=>8 | .uni _=>6 | .str _ _=>3 | .num _ _=>4 | .par _=>10 | .arr _ _=>11 | .tpl _ _=>12
noncomputable def Q5:yD->Bool
 | .key _=>true | .str _ _=>true | .num _ _=>true | .arr _ _=>true | .tpl _ _=>true
 | _=>false
noncomputable def QW:yD->Int
 | .str _ _=>6
 | .num _ _=>7
 | _=>-1
noncomputable def XG:yD->Option yD
 | .str s f=>if f=1 then some (.str s 0)else none
 | .num n f=>if f=1 then some (.num n 0)else none
 | _=>none
def gT(q8:List yD)(r:yD):Int:=match XG r with
 | some r'=>if r'∈q8 then oH q8 r' else -1
 | none=>-1
section
variable{q8 q9:List yD}{G L:xF}{t n f e ro i:Int}{r r':yD}{Q:Kv}{N:Nat}{K:V->Prop}{acc:List Int}{σ:St}{X Y:Prop}{b:Bool}
def gr(h:y9 q8 t=some r)(hl:q8.length<=lim)(k:K (.tup r.enc)):lH (s9 q8) t K:=by
 obtain⟨n,rfl,h1,h2⟩:=kW h;exact kt (Nat.ble_eq_true_of_le (qQ h1 (qF hl (by decide)))) (sv (v:=.tup r.enc) (by unfold s9; rw[List.getElem?_map,h2]; rfl) k)
def dt{p:Prop}{_:Decidable p}(h:p)(k:X):bb (decide p) X Y:=bt (zU h) k
def df{p:Prop}{_:Decidable p}(h:¬p)(k:Y):bb (decide p) X Y:=bf (decide_eq_false h) k
def AJ(hN:2<=N)(nd:q8.Nodup)(hl:q8.length<lim)(K:∀t q9,y9 q9 t=some (.num n f)->vQ q8 1 q9->Q (.int t) (tS q9 G [])):y4 D N "num_type" [] [.ref true 0,.int n,.int f] Q (tS q8 G []):=by
 refine cm hN (d:=dX) rfl rfl fun M hM=>?_;exact dD (lv hM) (r:=.num n f) nd hl K
def O0(hN:2<=N)(nd:q8.Nodup)(hl:q8.length<lim)(K:∀t q9,y9 q9 t=some (.num n 0)->vQ q8 1 q9->Q (.int t) (tS q9 G [])):y4 D N "num_type" [] [.ref true 0,.int n] Q (tS q8 G []):=by
 refine cm hN (d:=dX) rfl rfl fun M hM=>?_;exact dD (lv hM) (r:=.num n 0) nd hl K
def q4G{x:List Nat}(hN:2<=N)(nd:q8.Nodup)(hl:q8.length<lim)(K:∀t q9,y9 q9 t=some (.str x f)->vQ q8 1 q9->Q (.int t) (tS q9 G [])):y4 D N "str_type" [] [.ref true 0,.str x,.int f] Q (tS q8 G []):=by
 refine cm hN (d:=l6) rfl rfl fun M hM=>?_;exact dD (lv hM) (r:=.str x f) nd hl K
def GU(hN:2<=N)(nd:q8.Nodup)(hl:q8.length<lim)(K:∀t q9,y9 q9 t=some (.arr e ro)->vQ q8 1 q9->Q (.int t) (tS q9 G [])):y4 D N "array_type" [] [.ref true 0,.int e,.int ro] Q (tS q8 G []):=by
 refine cm hN (d:=pT) rfl rfl fun M hM=>?_;exact dD (lv hM) (r:=.arr e ro) nd hl K
def fO(hN:1<=N)(hr:y9 q8 t=some r)(hl:q8.length<=lim)(K:Q (.int r.kind) (tS q8 G [])):y4 D N "kind_of" [] [.ref true 0,.int t] Q (tS q8 G []):=by
 refine cm hN (d:=sM) rfl rfl fun M hM=>?_;refine gr hr hl ?_;cases r <;> exact K
def QX(hN:1<=N)(hr:Q5 r=true)(K:Q (.int (QW r)) ⟨G,[]⟩):y4 D N "whole_of_row" [] [.tup r.enc] Q ⟨G,[]⟩:=by
 refine cm hN (d:=fG) rfl rfl fun M hM=>?_;cases r <;> first | exact K | cases hr
def q0D(hN:1<=N)(hr:y9 q8 t=some r)(hp:Q5 r=true)(hl:q8.length<=lim)(K:Q (.int (gT q8 r)) (tS q8 G [])):y4 D N "regular_twin" [] [.ref true 0,.int t] Q (tS q8 G []):=by
 refine cm hN (d:=fC) rfl rfl fun M hM=>?_;refine gr hr hl ?_;have key:∀{r':yD},XG r=some r'->ck (g9 ((y8 (fJ q8) r'.enc).getD (.int (-1)))) (Q ((y8 (fJ q8) r'.enc).getD (.int (-1))) (tS q8 G [])):=by
  intro r' h;unfold gT at K;rw[h]at K;rw[DE]
  by_cases c:r'∈q8
  ·rw[if_pos c];exact(show(match some r' with | some r'=>if r'∈q8 then oH q8 r' else -1 | none=>-1)=oH q8 r' from if_pos c)▸K
  ·rw[if_neg c];exact(show(match some r' with | some r'=>if r'∈q8 then oH q8 r' else -1 | none=>-1)=-1 from if_neg c)▸K
 cases r with
 | str s f =>
  by_cases hf:f=1
  ·exact dt hf (key (r':=.str s 0) (if_pos hf))
  ·refine df hf ?_
   rwa [show gT q8 (.str s f)=-1 by simp[gT,XG,hf]]at K
 | num s f =>
  by_cases hf:f=1
  ·exact dt hf (key (r':=.num s 0) (if_pos hf))
  ·refine df hf ?_
   rwa [show gT q8 (.num s f)=-1 by simp[gT,XG,hf]]at K
 | key s=>exact K
 | arr s f=>exact K
 | tpl s f=>exact K
 | _=>cases hp
noncomputable def dJ(l:List Int)(i:Int):List Int:=if i∈l then l else l++[i]
theorem fQ{i:Int}:∀{l:List Int},(y8 (vL l) i).isSome=l.contains i
 | []=>rfl
 | j::l=>by
  show(y8 ((j,V.int 1)::vL l) i).isSome=_;unfold y8;rw[List.contains_cons]
  by_cases h:j=i
  ·subst h; rw[if_pos rfl,beq_self_eq_true]; rfl
  ·exact(if_neg h)▸(zV.mpr (Ne.symm h))▸fQ
def q44{l:List Int}{i:Int}:xQ (vL l) i (.int 1)=vL (dJ l i):=by
 unfold xQ dJ;rw[fQ]
 by_cases h:i∈l
 ·rw[if_pos h];exact(if_pos (qX.mpr h)).trans ((qY).trans (List.map_congr_left fun j z0=>ite_self ..))
 ·rw[if_neg h];exact(if_neg (fun z=>h (qX.mp z))).trans ((qU (f:=fun i:Int=>(i,V.int 1)) (l₁:=l) (l₂:=[i])).symm)
def MG{l:List Int}{i:Int}(h:l.Nodup):(dJ l i).Nodup:=by
 unfold dJ
 by_cases q:i∈l
 ·rw[if_pos q]; exact h
 ·rw[if_neg q,List.nodup_append];exact⟨h,List.nodup_cons.mpr ⟨qW,.nil⟩,fun a ha b hb e=>q (qO.mp hb▸e▸ha)⟩
def GN{l:List Int}{i j:Int}:j∈dJ l i↔j∈l\/j=i:=by
 unfold dJ
 by_cases q:i∈l
 ·rw[if_pos q]; exact⟨.inl,fun z=>z.elim id fun z=>z▸q⟩
 ·rw[if_neg q]; exact zH.trans (or_congr Iff.rfl qO)
def DU(h:i∉acc):(y8 (vL acc) i).isSome=false:=fQ.trans (Bool.eq_false_iff.mpr fun z=>h (qX.mp z))
def CK(hN:2<=N)(hr:y9 q8 t=some r)(hp:Q5 r=true)(hl:q8.length<=lim)(K:Q (.bool (!acc.contains (gT q8 r)&&!acc.contains (QW r))) (tS q8 G [])):
  y4 D N "stays_beside" [] [.ref true 0,.iset acc,.int t] Q (tS q8 G []):=by
 refine cm hN (d:=fF) rfl rfl fun M hM=>?_;refine q0D (lv hM) hr hp hl ?_;refine qG fun ng=>?_;cases h:acc.contains (gT q8 r)with
 | true =>
  refine ng ?_;rw[h]at K;exact bt (fQ.trans h) K
 | false =>
  refine ng ?_;rw[h]at K;refine bf (fQ.trans h) ?_;refine gr hr hl ?_;refine QX (lv hM) hp ?_;rw[<-fQ]at K;exact K
def HK(hN:1<=N)(h1:8∉acc)(h2:14∉acc)(K:Q .none ⟨G,[]⟩):y4 D N "join_bools" [] [.iset acc] Q ⟨G,[]⟩:=by
 refine cm hN (d:=pX) rfl rfl fun M hM=>?_;exact bf (DU h1) (bf (DU h2) K)
def q4J(hN:1<=N)(h1:0∉acc)(h2:13∉acc)(h3:1∉acc)(K:Q (.int (-1)) ⟨G,[]⟩):y4 D N "top_of" [] [.iset acc] Q ⟨G,[]⟩:=by
 refine cm hN (d:=ZP) rfl rfl fun M hM=>?_;exact bf (DU h1) (bf (DU h2) (bf (DU h3) K))
def b9:∀{p:Pt},xS q8 t p->∃r,y9 q8 t=some r/\Q5 r=true/\r.kind≠6/\∀x,r≠.uni x
 | .u x,h=>⟨_,h,by cases x <;> rfl,by cases x <;> nofun,by cases x <;> exact nofun⟩
 | .a _ _,h=>v4 h fun z0 z0 h=>⟨_,h.1,rfl,nofun,nofun⟩
 | .t _ _,h=>h.elim fun z0 h=>⟨_,h.1,rfl,nofun,nofun⟩
def Y1:∀{ids:List Int}{k:Kd},yP q8 ids k->gU q8 t ids->(t=2/\ids=[])\/(∃is,y9 q8 t=some (.uni is)/\is.Perm ids)\/∃r,y9 q8 t=some r/\ids=[t]/\rW r<3/\r.kind≠6/\∀x,r≠.uni x
 | [],_,_,hh=>.inl ⟨hh,rfl⟩
 | [_],_::_,hs,hh=>.inr (.inr ((b9 hs.1).elim fun r x=>⟨r,hh▸x.1,hh▸rfl,Eq.symm (JE hs.1 x.1)▸KI _,x.2.2⟩))
 | _::_::_,_,_,hh=>.inr (.inl (hh.elim fun is x=>⟨is,x.1,x.2.1⟩))
def nU{ids:List Int}{k:Kd}(hN:1<=N)(h2:y9 q8 2=some (.key wZ))(hl:q8.length<=lim)(hs:yP q8 ids k)(hh:gU q8 t ids)(K:∀is:List Int,is.Perm ids->(y9 q8 t=some (.uni is)\/∀x,y9 q8 t≠some (.uni x))->Q (.tup (vI is)) (tS q8 G [])):
  y4 D N "parts_of" [] [.ref true 0,.int t] Q (tS q8 G []):=by
 refine cm hN (d:=dY) rfl rfl fun M hM=>?_
 by_cases e2:t=2
 ·subst e2;refine K [] ?_ (.inr fun x h=>nomatch h2.symm.trans h);rcases Y1 hs hh with⟨_,h⟩ | ⟨is,h,_⟩ | ⟨r,h,_,h',_⟩
  ·exact h▸.refl _
  ·exact nomatch h2.symm.trans h
  ·cases h2.symm.trans h; exact absurd h' (by decide)
 refine df e2 ?_;rcases Y1 hs hh with⟨h,_⟩ | ⟨is,h,p⟩ | ⟨r,h,h',_,k6,nu⟩
 ·exact absurd h e2
 ·exact gr h hl (K is p (.inl h))
 ·refine gr h hl ?_;have K':=K [t] (h'▸.refl _) (.inr fun x e=>nu x (qN (h.symm.trans e)));cases r <;> first | exact K' | exact absurd rfl k6
end
def DV{i:Int}{acc:List Int}(h:i∉acc):acc.contains i=false:=Bool.eq_false_iff.mpr fun z=>h (qX.mp z)
noncomputable def FIRST16:List yD:=[.key [97,110,121],.key [117,110,107,110,111,119,110],.key wZ,.key [118,111,105,100],.key [117,110,100,101,102,105,110,101,100],.key [110,117,108,108],.key [115,116,114,105,110,103],.key [110,117,109,98,101,114],.boo 0 0,.boo 1 0,.key [111,98,106,101,99,116],.obj,.uni [8,9],.key [101,114,114,111,114],.boo 0 1,.boo 1 1]
def M5(ps:List Pt):Prop:=∀l:List Pt,l.Nodup->(∀p∈l,p∈ps)->l.length<64
section
variable{q8:List yD}{i:Int}{p:Pt}{S:List Pt}{acc:List Int}
def kK(h:FIRST16 <+: q8){k:Nat}{r:yD}(e:FIRST16[k]?=some r):y9 q8 (k:Int)=some r :=
 h.elim fun z0 q=>q▸(bS k).trans ((List.getElem?_append_left (List.getElem?_eq_some_iff.mp e).1).trans e)
def xX(h:FIRST16 <+: q8):y9 q8 2=some (.key wZ):=kK h (k:=2) rfl
noncomputable def dL:List Int:=[0,1,2,3,6,8,9,10,11,12,13,14,15]
def MS:∀i∈dL,∃k:Nat,i=k/\∃r,FIRST16[k]?=some r/\3<=rW r:=by
 have h:∀k∈[0,1,2,3,6,8,9,10,11,12,13,14,15],∃r,FIRST16[k]?=some r/\3<=rW r:=by
  intro k hk;have z:=z6.mp ((by decide:([0,1,2,3,6,8,9,10,11,12,13,14,15]:List Nat).all (fun k=>(FIRST16[k]?.map rW).any fun n=>decide (3<=n))=true)) k hk;cases q:FIRST16[k]? with
  | none=>rw[q]at z; cases z
  | some r=>rw[q]at z; exact⟨r,rfl,zT z⟩
 intro i hi;obtain⟨k,hk,rfl⟩:=zC.mp (show i∈([0,1,2,3,6,8,9,10,11,12,13,14,15]:List Nat).map (fun k:Nat=>(k:Int))from hi);exact⟨k,rfl,h k hk⟩
def DX(h:FIRST16 <+: q8)(s:xS q8 i p)(hi:i∈dL):False:=by
 obtain⟨k,rfl,r,e,c⟩:=MS i hi;exact QI s (kK h e) c
set_option genCtorIdx false in
structure iH (q8:List yD) (S:List Pt) (acc:List Int):Prop where
 nd:acc.Nodup
 mem:∀j,j∈acc↔∃p∈S,xS q8 j p
 cov:∀p∈S,∃j,xS q8 j p
def iH.few(g:iH q8 S acc)(hn:q8.Nodup)(f:M5 S):acc.length<64:=by
 have uT:∃fn:Int->Pt,∀j,j∈acc->fn j∈S/\xS q8 j (fn j):=Classical.axiomOfChoice (r:=fun j p=>j∈acc->p∈S/\xS q8 j p) fun j=>by
  by_cases h:j∈acc
  ·exact((g.mem j).mp h).elim fun p z=>⟨p,fun z0=>z⟩
  ·exact⟨.u .undef,fun z=>absurd z h⟩
 refine(uT).elim fun fn hf=>?_;have l:=f _ ((List.pairwise_map.mpr (List.Pairwise.imp_of_mem (fun {a b} ha hb ne e=>ne (cE hn (hf a ha).2 (e▸(hf b hb).2))) g.nd):(acc.map fn).Nodup)) fun p hp=>(zC.mp hp).elim fun j x=>x.2▸(hf j x.1).1
 rwa [qH]at l
def keepI(q8:List yD)(acc:List Int)(i:Int):Bool:=match y9 q8 i with
 | some r=>!acc.contains (gT q8 r)&&!acc.contains (QW r)
 | none=>false
def nH{r:yD}(h:y9 q8 i=some r):keepI q8 acc i=(!acc.contains (gT q8 r)&&!acc.contains (QW r)):=by
 unfold keepI; rw[h]
def NA{x:Un}(h:y9 q8 i=some (pD x)):∀{p:Pt},xS q8 i p->p=.u x
 | .u _,s=>congrArg Pt.u (aH (qN (s.symm.trans h)))
 | .a _ _,s=>nomatch (fB (p:=.a _ _) (q:=.u x) s h:1=0)
 | .t _ _,s=>nomatch (fB (p:=.t _ _) (q:=.u x) s h:2=0)
def iH.unit(g:iH q8 S acc){x:Un}(h:y9 q8 i=some (pD x)):acc.contains i=lG S x:=by
 rw[Bool.eq_iff_iff,qX,vV,g.mem];exact⟨fun z=>z.elim fun p z=>NA h z.2▸z.1,fun z=>⟨_,z,h⟩⟩
def iH.no(g:iH q8 S acc)(hb:FIRST16 <+: q8)(h:i∈dL):i∉acc:=fun z =>
 ((g.mem i).mp z).elim fun z0 z=>DX hb z.2 h
def iH.neg(g:iH q8 S acc):acc.contains (-1)=false:=DV fun z =>
 ((g.mem _).mp z).elim fun z0 z=>(b8 z.2).elim fun z0 z=>(kW z.1).elim fun z0 z=>nomatch z.1
def iH.twin(g:iH q8 S acc){x:Un}{r:yD}(h:XG r=some (pD x)):acc.contains (gT q8 r)=lG S x:=by
 unfold gT;rw[h];dsimp only
 by_cases hr:pD x∈q8
 ·rw[if_pos hr];refine g.unit ((bS _).trans ?_);rw[zS (List.idxOf_lt_length_of_mem hr),List.getElem_idxOf]
 ·rw[if_neg hr,g.neg];refine(Bool.eq_false_iff.mpr fun e=>?_).symm;refine(g.cov _ (vV.mp e)).elim fun j hj=>?_;refine gZ (kW hj) fun n z0 z0 q=>?_;exact hr (List.mem_of_getElem? q)
def oZ{a b c d:Bool}(h:a=c)(h':b=d):(!a&&!b)=(!c&&!d):=by rw[h,h']
def iH.keep(g:iH q8 S acc)(hb:FIRST16 <+: q8):∀{p:Pt},xS q8 i p->keepI q8 acc i=jW S p:=by
 intro p hs;cases p with
 | u x =>
  refine(nH hs).trans ?_;cases x with
  | num b f=>cases f with
   | false=>exact oZ g.neg ((g.unit (kK hb (k:=7) rfl):acc.contains 7=lG S .number))
   | true=>exact oZ (g.twin (r:=.num (aZ b) 1) (x:=.num b false) rfl) ((g.unit (kK hb (k:=7) rfl):acc.contains 7=lG S .number))
  | str f=>cases f with
   | false=>exact oZ g.neg ((DV (g.no hb (by unfold dL; decide)):acc.contains 6=false))
   | true=>exact(oZ (g.twin (r:=.str [97] 1) (x:=.str false) rfl) ((DV (g.no hb (by unfold dL; decide)):acc.contains 6=false))).trans (Bool.and_true _)
  | _=>exact oZ g.neg g.neg
 | a _ _=>exact v4 hs fun z0 z0 z=>(nH z.1).trans (oZ g.neg g.neg)
 | t _ _=>exact hs.elim fun z0 z=>(nH z.1).trans (oZ g.neg g.neg)
theorem X4:∀{k:Kd},(∀p∈k,∃i,xS q8 i p)->∃ids,yP q8 ids k
 | [],_=>⟨[],trivial⟩
 | p::k,h=>(h p (.head _)).elim fun i hi=>(X4 (k:=k) fun q hq=>h q (.tail _ hq)).elim fun ids hs=>⟨i::ids,hi,hs⟩
theorem aN(h2:y9 q8 2=some (.key wZ)):∀{k:Kd}{ids:List Int},k.Nodup->xL k->yP q8 ids k->ids.Nodup
 | [],[],_,_,_=>.nil
 | p::k,i::ids,nd,f,s =>
  have n:=List.nodup_cons.mp nd
  List.nodup_cons.mpr ⟨fun hi=>((wG s.2).2 i hi).elim fun q z=>n.1 (eZ h2 f.1 (yM.mp f.2 q z.1) s.1 z.2▸z.1),aN h2 n.2 f.2 s.2⟩
 | [],_::_,_,_,h=>h.elim
 | _::_,[],_,_,h=>h.elim
def oG{t:Int}:∀{ids kept:List Int},ids.Perm kept->kept.Pairwise (·<·)->(kept=[]->t=2)->(∀i,kept=[i]->t=i)->(2<=kept.length->y9 q8 t=some (.uni kept))->gU q8 t ids
 | [],_,p,_,h0,_,_=>h0 (List.nil_perm.mp p)
 | [i],_,p,_,_,h1,_=>h1 i (List.singleton_perm.mp p).symm
 | _::_::_,kept,p,s,_,_,h2=>⟨kept,h2 (p.length_eq▸qP 2 _),p.symm,s⟩
def iH.join(g:iH q8 S acc)(hb:FIRST16 <+: q8)(hn:q8.Nodup)(f:xL S):∃ids,yP q8 ids (yF S)/\ids.Perm ((sortI acc).filter (keepI q8 acc))/\((sortI acc).filter (keepI q8 acc)).Pairwise (·<·):=by
 have ht:=wD f;refine(X4 (q8:=q8) (k:=yF S) fun p hp=>g.cov p ((xE ht p).mp hp).1).elim fun ids hids=>?_;refine⟨ids,hids,(List.perm_ext_iff_of_nodup (aN (xX hb) (jO ht).nodup ((yM.mpr fun p hp=>yM.mp f p ((xE ht p).mp hp).1:xL (yF S))) hids) (List.Pairwise.filter _ (((xH acc).nodup_iff.mpr g.nd:(sortI acc).Nodup)))).mpr fun i=>?_,List.Pairwise.filter _ (((List.Pairwise.and (nY acc) (((xH acc).nodup_iff.mpr g.nd:(sortI acc).Nodup))).imp fun z=>Int.lt_iff_le_and_ne.mpr z:(sortI acc).Pairwise (·<·)))⟩;rw[zO,(xH acc).mem_iff,g.mem]
 constructor
 ·exact fun hi=>((wG hids).2 i hi).elim fun p z =>
   have w:=(xE ht p).mp z.1
   ⟨⟨p,w.1,z.2⟩,(g.keep hb z.2).trans w.2⟩
 ·exact fun z=>z.1.elim fun p w=>((wG hids).1 p ((xE ht p).mpr ⟨w.1,(g.keep hb w.2).symm.trans z.2⟩)).elim fun j y=>cE hn w.2 y.2▸y.1
end
section
variable{q8 q9:List yD}{G L:xF}{N:Nat}{Q:Kv}{acc:List Int}{S:List Pt}{ρ:y5}
def mb{i:Int}(h:dL.contains i=true):i∈dL:=qX.mp h
theorem V2{f:Int->Bool}:∀{l:List Int},(l.filterMap fun i=>if f i then some (V.int i)else none)=vI (l.filter f)
 | []=>rfl
 | x::l=>by
  rw[List.filterMap_cons,List.filter_cons,V2];cases f x <;> rfl
def Y9:(vL acc).map (·.1)=acc:=(qY ..).trans (List.map_id _)
def L7(hN:2<=N)(nd:q8.Nodup)(hb:FIRST16 <+: q8)(hl:q8.length<lim)(e2:ρ "got"=some (.iset acc)) (e3:ρ "tab"=some (.ref true 0)) (g:iH q8 S acc) (ff:xL S) (few:M5 S)
  (K:∀t q9,wO q9 t (yF S)->vQ q8 1 q9->Q (.int t) (tS q9 G [])):xA (xP D (y4 D N)) (o3.body.drop 3) ρ (uO Q) (tS q8 G L):=by
 refine qG fun ng=>?_;refine gZ (g.join hb nd ff) fun ids j1 j2 j3=>?_;refine ng ?_;have sl:(sortI acc).length<64:=(xH acc).length_eq▸(g.few nd few);have kl:((sortI acc).filter (keepI q8 acc)).length<64:=qI (List.length_filter_le _ _) sl;refine lo e2 ?_;refine q4J (lv hN) (g.no hb (mb rfl)) (g.no hb (mb rfl)) (g.no hb (mb rfl)) ?_;refine lo e2 ?_;refine HK (lv hN) (g.no hb (mb rfl)) (g.no hb (mb rfl)) ?_;refine lo e2 ?_;refine⟨acc,congrArg vI Y9,(g.few nd few),?_⟩;refine ft (by rw[qH]; exact z9 (Nat.lt_trans sl (by decide))) ?_;refine JT V.int (fun i=>if keepI q8 acc i then some (.int i)else none) id (sortI acc) [] (fun i hi K' k'=>?_) ?_
 ·refine qG fun ng=>?_;refine wI ((g.mem i).mp ((xH acc).mem_iff.mp hi)) fun p hp sp=>?_;refine gZ (b9 sp) fun r hr pr z0=>?_;refine ng ?_;refine lo e3 ?_;refine lo e2 ?_;refine CK (lv hN) hr pr (z9 hl) ?_;rw[<-nH (acc:=acc) hr];cases h:keepI q8 acc i with
  | true=>exact(show K' (if keepI q8 acc i then some (.int i)else none) _ from k') |> fun k=>by rw[h]at k; exact k
  | false=>exact(show K' (if keepI q8 acc i then some (.int i)else none) _ from k') |> fun k=>by rw[h]at k; exact k
 ·rw[V2];revert j2 j3 kl;generalize (sortI acc).filter (keepI q8 acc)=kept;intro j2 j3 kl;have tl:(vI kept).length<=lim:=by rw[qH]; exact z9 (Nat.lt_trans kl (by decide))
  refine ft tl ?_;cases kept with
  | nil=>exact K 2 q8 ⟨ids,j1,oG j2 j3 (fun z0=>rfl) nofun nofun⟩ ⟨List.prefix_refl _,Nat.le_succ _,nd⟩
  | cons i kept =>
   refine ft tl ?_;cases kept with
   | nil=>exact K i q8 ⟨ids,j1,oG j2 j3 nofun (fun j e=>(List.cons.inj e).1) (fun h=>absurd h (Nat.not_le.mpr (Nat.lt_succ_self 1)))⟩ ⟨List.prefix_refl _,Nat.le_succ _,nd⟩
   | cons j r =>
    refine ft tl ?_;refine df (p:=(400:Int)<(((vI (i::j::r)).length:Nat):Int)) (Int.not_lt.mpr (Int.ofNat_le.mpr (show(vI (i::j::r)).length<=400 by rw[qH]; exact z9 (Nat.lt_trans kl (by decide))))) ?_;refine lo e3 ?_;refine ft tl ?_;exact dD (lv hN) (r:=.uni (i::j::r)) nd hl fun t q9 h st=>K t q9 ⟨ids,j1.mono st.pre,oG j2 j3 nofun nofun (fun z0=>h)⟩ st
end
section
variable{q8 q9:List yD}{G L:xF}{N:Nat}{Q:Kv}{acc ids is:List Int}{S S':List Pt}{k:Kd}{ρ:y5}
theorem ZX{j:Int}:∀{is acc:List Int},j∈is.foldl dJ acc↔j∈acc\/j∈is
 | [],_=>⟨.inl,fun h=>h.elim id nofun⟩
 | i::r,acc=>(ZX (is:=r) (acc:=dJ acc i)).trans ((or_congr GN Iff.rfl).trans (or_assoc.trans (or_congr Iff.rfl qV.symm)))
theorem V3:∀{is acc:List Int},acc.Nodup->(is.foldl dJ acc).Nodup
 | [],_,h=>h
 | i::r,acc,h=>V3 (is:=r) (acc:=dJ acc i) (MG h)
def GL{l:List Int}{i:Int}:(dJ l i).length<=l.length+1:=by
 unfold dJ
 by_cases q:i∈l
 ·rw[if_pos q]; exact Nat.le_succ _
 ·rw[if_neg q,qM]; exact qT _
def KY(f:M5 S')(h:∀p∈S,p∈S'):M5 S:=fun m nd hm=>f m nd fun p hp=>h p (hm p hp)
def iH.step(g:iH q8 S acc)(hn:q8.Nodup)(s:yP q8 ids k)(pm:is.Perm ids):iH q8 (S++k) (is.foldl dJ acc):=by
 refine⟨V3 g.nd,fun j=>ZX.trans ?_,fun p hp=>?_⟩
 ·rw[g.mem]
  constructor
  ·rintro(⟨p,hp,sp⟩ | hj)
   ·exact⟨p,List.mem_append_left _ hp,sp⟩
   ·refine wI ((wG s).2 j (pm.mem_iff.mp hj)) fun p hp sp=>?_;exact⟨p,zM _ hp,sp⟩
  ·rintro⟨p,hp,sp⟩
   rcases zH.mp hp with hp | hp
   ·exact .inl ⟨p,hp,sp⟩
   ·refine qG fun ng=>?_;refine wI ((wG s).1 p hp) fun i hi si=>?_;refine ng ?_;exact .inr (cE hn sp si▸pm.mem_iff.mpr hi)
 ·rcases zH.mp hp with hp | hp
  ·exact g.cov p hp
  ·exact((wG s).1 p hp).elim fun i z=>⟨i,z.2⟩
def QV{l:List (Int×Kd)}{pv:V}(hN:3<=N)(nd:q8.Nodup)(hb:FIRST16 <+: q8)(hl:q8.length<lim)(hm:(!gY pv)=true)(hpv:∀σ (K:List V->Prop),K (l.map fun q=>V.int q.1)->pA σ pv K)(hs:∀q∈l,wO q8 q.1 q.2)(hf:∀q∈l,xL q.2)(hnd:∀q∈l,q.2.Nodup)
  (few:M5 (l.map (·.2)).flatten) (K:∀t q9,wO q9 t (yF (l.map (·.2)).flatten)->vQ q8 1 q9->Q (.int t) (tS q9 G [])):y4 D N "union" [] [.ref true 0,pv] Q (tS q8 G []):=by
 have ff:xL (l.map (·.2)).flatten:=yM.mpr fun p hp=>by
  refine(List.mem_flatten.mp hp).elim fun k zz=>?_;obtain⟨q,hq,rfl⟩:=zC.mp zz.1;exact yM.mp (hf q hq) p zz.2
 refine cm hN (d:=o3) rfl rfl fun M hM=>?_;refine kt hm (hpv _ _ ?_);refine lp (tg:=.nm "t") (fun q:Int×Kd=>V.int q.1) (fun r ρ σ'=>ρ "got"=some (.ref false 0)/\ρ "tab"=some (.ref true 0)/\(∀q∈r,q∈l)/\∃S acc,S++(r.map (·.2)).flatten=(l.map (·.2)).flatten/\σ'=tS q8 G [some (.dI (vL acc))]/\iH q8 S acc) rfl ?_ ?_
  ⟨rfl,rfl,fun z0 h=>h,[],[],rfl,rfl,.nil,fun z0=>⟨nofun,nofun⟩,nofun⟩
 ·rintro ρ σ' ⟨e2,e3,_,S,acc,e1,rfl,g⟩
  cases (qS S).symm.trans e1;refine lo e2 ?_;refine⟨acc,rfl,?_⟩;exact L7 hM (L:=[some .dead]) (ρ:=y5.set ρ "got" (.iset acc)) nd hb hl (if_pos rfl) ((if_neg (show ¬"tab"="got" by decide)).trans e3) g ff few K
 ·rintro q r ρ σ' ⟨e2,e3,hr,S,acc,e1,rfl,g⟩ W w
  refine(hs q (hr q (.head _))).elim fun ids zz=>?_;refine lo e3 ?_;refine nU (lv hM) (xX hb) (z9 hl) zz.1 zz.2 fun is pm z0=>?_;refine l1 V.int (fun r2 σ'=>∃acc2,σ'=tS q8 G [some (.dI (vL acc2))]/\r2.foldl dJ acc2=is.foldl dJ acc/\acc2.length+r2.length<=acc.length+is.length) rfl ?_ ?_ ⟨acc,rfl,rfl,qT _⟩
  ·rintro ρ' σ' hρ ⟨acc2,rfl,f1,_⟩
   exact w _ _ ⟨(hρ _ (by decide)).trans e2,(hρ _ (by decide)).trans e3,fun x hx=>hr x (.tail _ hx),S++q.2,acc2,(qZ ..).trans e1,rfl,(show acc2=_ from f1)▸g.step nd zz.1 pm⟩
  ·rintro i r2 σ' ⟨acc2,rfl,f1,f2⟩ W2 w2
   refine lo e2 ?_;refine fd ?_ ?_
   ·rw[vL,qH];refine qI (qF (qJ _ _) f2) (qQ (Nat.add_lt_add (g.few nd (KY few fun p hp=>e1▸List.mem_append_left _ hp)) ?_) (by decide:64+64<=lim));exact pm.length_eq▸jQ zz.1▸(few _ (hnd q (hr q (.head _))) fun p hp=>List.mem_flatten.mpr ⟨_,zC.mpr ⟨q,(hr q (.head _)),rfl⟩,hp⟩)
   ·rw[q44];exact w2 _ ⟨_,rfl,f1,qF (qR GL _) (qF (qK (Nat.add_right_comm _ _ _)) f2)⟩
end
section
set_option genInjectivity true
set_option genCtorIdx false in
inductive yK where
 | n
 | i (x:Int)
 | a (x:yK)
 | t (l:List (yK×Int))
mutual
def yL(q8:List yD):Int->yK->Prop
 | t,.n=>y9 q8 t=some (.num 0 0)
 | t,.i x=>y9 q8 t=some (.par x)
 | t,.a x=>∃e ro,y9 q8 t=some (.arr e ro)/\yL q8 e x
 | t,.t l=>∃es ro,y9 q8 t=some (.tpl es ro)/\uU q8 es l
def uU(q8:List yD):List (Int×Int)->List (yK×Int)->Prop
 | [],[]=>True
 | (e,g)::es,(x,g')::l=>g=g'/\yL q8 e x/\uU q8 es l
 | _,_=>False
end
mutual
theorem yL.mono{q8 q9:List yD}(pr:q8 <+: q9):∀{x:yK}{t:Int},yL q8 t x->yL q9 t x
 | .n,_,h=>xG pr h
 | .i _,_,h=>xG pr h
 | .a _,_,h=>by
  refine mG (h) fun e ro a b=>?_;exact⟨e,ro,xG pr a,yL.mono pr b⟩
 | .t _,_,h=>by
  refine mG (h) fun es ro a b=>?_;exact⟨es,ro,xG pr a,uU.mono pr b⟩
theorem uU.mono{q8 q9:List yD}(pr:q8 <+: q9):∀{l:List (yK×Int)}{es:List (Int×Int)},uU q8 es l->uU q9 es l
 | [],[],_=>trivial
 | (_,_)::_,(_,_)::_,h=>⟨h.1,yL.mono pr h.2.1,uU.mono pr h.2.2⟩
 | [],_::_,h=>h.elim
 | (_,_)::_,[],h=>h.elim
end
noncomputable def ZI:yK->Nat
 | .n=>0
 | .i _=>5
 | .a _=>1
 | .t _=>2
def c5{q8:List yD}{t:Int}:∀{x:yK},yL q8 t x->∃r,y9 q8 t=some r/\rW r=ZI x
 | .n,h=>⟨_,h,rfl⟩
 | .i _,h=>⟨_,h,rfl⟩
 | .a _,h=>v4 h fun z0 z0 h=>⟨_,h.1,rfl⟩
 | .t _,h=>v4 h fun z0 z0 h=>⟨_,h.1,rfl⟩
def v5{q8:List yD}{t:Int}{x y:yK}(h:yL q8 t x)(h':yL q8 t y):ZI x=ZI y :=
 (c5 h).elim fun z0 a=>(c5 h').elim fun z0 b=>a.2.symm.trans ((congrArg rW (qN (a.1.symm.trans b.1))).trans b.2)
mutual
theorem pL{q8:List yD}:∀{x y:yK}{t:Int},yL q8 t x->yL q8 t y->x=y
 | .n,.n,_,_,_=>rfl
 | .i _,.i _,_,h,h'=>congrArg yK.i (yD.par.inj (qN (h.symm.trans h')))
 | .a _,.a _,_,h,h'=>by
  refine qG fun ng=>?_;refine mG (h) fun e ro a b=>?_;refine mG (h') fun e' ro' a' b'=>?_;refine ng ?_;exact congrArg yK.a (pL b ((yD.arr.inj (qN (a.symm.trans a'))).1▸b'))
 | .t _,.t _,_,h,h'=>by
  refine qG fun ng=>?_;refine v4 (h) fun e ro zz=>?_;refine mG (h') fun e' ro' a' b'=>?_;refine ng ?_;exact congrArg yK.t (sD zz.2 ((yD.tpl.inj (qN (zz.1.symm.trans a'))).1▸b'))
 | .n,.i _,_,h,h'=>nomatch (v5 h h':0=5)
 | .n,.a _,_,h,h'=>nomatch (v5 h h':0=1)
 | .n,.t _,_,h,h'=>nomatch (v5 h h':0=2)
 | .i _,.n,_,h,h'=>nomatch (v5 h h':5=0)
 | .i _,.a _,_,h,h'=>nomatch (v5 h h':5=1)
 | .i _,.t _,_,h,h'=>nomatch (v5 h h':5=2)
 | .a _,.n,_,h,h'=>nomatch (v5 h h':1=0)
 | .a _,.i _,_,h,h'=>nomatch (v5 h h':1=5)
 | .a _,.t _,_,h,h'=>nomatch (v5 h h':1=2)
 | .t _,.n,_,h,h'=>nomatch (v5 h h':2=0)
 | .t _,.i _,_,h,h'=>nomatch (v5 h h':2=5)
 | .t _,.a _,_,h,h'=>nomatch (v5 h h':2=1)
theorem sD{q8:List yD}:∀{l l':List (yK×Int)}{es:List (Int×Int)},uU q8 es l->uU q8 es l'->l=l'
 | [],[],[],_,_=>rfl
 | (_,_)::_,(_,_)::_,(_,_)::_,h,h'=>by
  obtain⟨h1,h2,h3⟩:=h;refine(h').elim fun h4 zz=>?_;subst h1; cases h4;exact congr (congrArg _ (congrArg (·,_) (pL h2 zz.1))) (sD h3 zz.2)
 | [],_::_,[],_,h=>h.elim
 | _::_,[],[],h,_=>h.elim
 | [],_,_::_,h,_=>h.elim
 | (_,_)::_,[],(_,_)::_,_,h=>h.elim
 | (_,_)::_,_::_,[],h,_=>h.elim
end
mutual
noncomputable def xD(ps:List Int):yK->Bool
 | .n=>false
 | .i x=>ps.contains x
 | .a x=>xD ps x
 | .t l=>lW ps l
noncomputable def lW(ps:List Int):List (yK×Int)->Bool
 | []=>false
 | (x,_)::r=>xD ps x||lW ps r
end
mutual
noncomputable def u9:yK->Nat
 | .n=>0
 | .i _=>0
 | .a x=>u9 x+1
 | .t l=>H3 l+1
noncomputable def H3:List (yK×Int)->Nat
 | []=>0
 | (x,_)::r=>max (u9 x) (H3 r)
end
noncomputable def AT:List (List Int):=[[0],[0,3],[3,0],[0,3,0],[0,0],[3],[0,1],[0,2],[1,3],[2,0],[0,0,3],[3,0,0],[]]
mutual
def j4:yK->Prop
 | .n=>True
 | .i x=>x=0\/x=1\/x=2
 | .a x=>j4 x
 | .t l=>JU l/\l.map (·.2)∈AT
def JU:List (yK×Int)->Prop
 | []=>True
 | (x,_)::r=>j4 x/\JU r
end
abbrev Ev:=Bool×Int×Kd
noncomputable def jB:Kd:=[.u .undef]
def yR(p:List Pt×Int):Kd:=if p.2=1 then yF (p.1++jB)else p.1
noncomputable def yS:List Int->Nat
 | []=>0
 | g::r=>if 1<g then 0 else yS r+1
noncomputable def gL(ps as:List Int):Nat:=min (yS ps) (yS as)
noncomputable def back(ps as:List Int):Nat:=if yS as<as.length then min (yS ps.reverse) (yS as.reverse)else 0
noncomputable def left(ps:vB)(as:List Int):vB:=cut ps (gL (ps.map (·.2)) as) (ps.length-back (ps.map (·.2)) as)
noncomputable def xO:vB->Option Kd
 | [(k,g)]=>if g=2 then some k else none
 | _=>none
def t6(f b:Nat)(lf:vB)(g:Int)(l:vB)(m i:Nat):Option Kd :=
 if i<f then(l[i]?).map yR
 else if m-i<=b then(l[l.length+i-m]?).map yR
 else match xO lf with
  | some k=>some (if g=3 then[.a false k]else k)
  | none=>if m-b-f=1/\g=3 then some [.t false lf]
   else if m-b-f=1/\g=2/\lf≠[]then some (yF (lf.flatMap yR))else none
def wK(ps:vB)(as:List Int)(at_:Nat):Option Kd:=t6 (gL (ps.map (·.2)) as) (back (ps.map (·.2)) as) (left ps as) (as.getD at_ 0) ps as.length at_
noncomputable def q2K(x:Int)(l:List Int):Nat:=(l.filter (·==x)).length
noncomputable def apart(ps as:List Int):Bool :=
 if as.contains 3 then false else if q2K 0 ps<q2K 0 as then true else !as.contains 2&&(ps.contains 2||decide (as.length<ps.length))
noncomputable def reg:Pt->Pt
 | .u (.num b _)=>.u (.num b false)
 | .u (.str _)=>.u (.str false)
 | p=>p
def kU(k:Kd):Kd:=yF (k.map reg)
noncomputable def g4:Pt->Bool
 | .u .undef=>true
 | _=>false
noncomputable def yE(k:Kd):Kd:=k.filter fun p=>!g4 p
noncomputable def yO:Pt->Option vB
 | .u _=>none
 | .a _ k=>some [(k,2)]
 | .t _ l=>some l
noncomputable def lM:Pt->Bool
 | .a _ _=>true
 | _=>false
def M6(w:Bool)(ps:List Int):yK->Kd->List Ev
 | .i x,k=>if x∈ps then[(w,x,kU k)]else[]
 | _,_=>[]
abbrev YG:List Int->yK->Kd->List Ev:=M6 false
mutual
def walk(ps:List Int):yK->Kd->List Ev
 | .n,_=>[]
 | .i x,k=>if x∈ps then[(true,x,kU k)]else[]
 | .a α,k=>k.flatMap fun p=>match yO p with
  | some q=>walk ps α (yF (q.flatMap yR))
  | none=>[]
 | .t l,k=>k.flatMap fun p=>match yO p with
  | some q=>if lM p||!apart (q.map (·.2)) (l.map (·.2))then jG ps (wK q (l.map (·.2))) l 0 else[]
  | none=>[]
def jG(ps:List Int)(gf:Nat->Option Kd):List (yK×Int)->Nat->List Ev
 | [],_=>[]
 | (α,g)::r,at_=>(match gf at_ with
  | none=>[]
  | some k=>if g≠1 then walk ps α k else if yE k=[]then YG ps α k else walk ps α (yE k))++jG ps gf r (at_+1)
end
def x8(ps:List Int)(α:yK)(g:Int)(k:Kd):List Ev:=if g≠1 then walk ps α k else if yE k=[]then YG ps α k else walk ps α (yE k)
mutual
theorem tL(ps:List Int):∀(α:yK)(k:Kd),xD ps α=false->walk ps α k=[]
 | .n,k,_=>by simp[walk]
 | .i x,k,h=>by
  simp only[xD]at h;simp only[walk];rw[if_neg];intro z;rw[qX.mpr z]at h; cases h
 | .a α,k,h=>by
  simp only[xD]at h;simp only[walk];rw[List.flatMap_eq_nil_iff];intro p _
  split
  ·exact tL ps α _ h
  ·rfl
 | .t l,k,h=>by
  simp only[xD]at h;simp only[walk];rw[List.flatMap_eq_nil_iff];intro p _
  split
  ·split
   ·exact aV ps _ l 0 h
   ·rfl
  ·rfl
theorem aV(ps:List Int)(gf:Nat->Option Kd):∀(l:List (yK×Int))(n:Nat),lW ps l=false->jG ps gf l n=[]
 | [],_,_=>by simp[jG]
 | (α,g)::r,n,h=>by
  simp only[lW,Bool.or_eq_false_iff]at h;simp only[jG];rw[aV ps gf r (n+1) h.2,qS]
  split
  ·rfl
  ·split
   ·exact tL ps α _ h.1
   ·split
    ·cases α <;> simp only[YG,M6]
     rw[if_neg];intro z
     have:=h.1
     simp only[xD]at this;rw[qX.mpr z]at this; cases this
    ·exact tL ps α _ h.1
end
theorem NV(ps:List Int)(gf:Nat->Option Kd):∀(l:List (yK×Int))(n:Nat),jG ps gf l n=(l.zipIdx n).flatMap (fun q=>match gf q.2 with
  | some k=>x8 ps q.1.1 q.1.2 k
  | none=>[])
 | [],_=>by simp[jG]
 | (α,g)::r,n=>by
  simp only[jG,List.zipIdx_cons,List.flatMap_cons,NV ps gf r (n+1)]
  congr 1
  cases gf n <;> rfl
end
section
variable{q8 q9:List yD}{G L:xF}{N Z:Nat}{Q:Kv}{t:Int}{k:Kd}
def TU(b:FIRST16 <+: q8):wO q8 4 jB:=⟨[4],⟨kK b (k:=4) rfl,trivial⟩,rfl⟩
def XU(hN:4<=N)(nd:q8.Nodup)(hb:FIRST16 <+: q8)(hl:q8.length<lim)(hs:wO q8 t k)(f:xL k)(hn:k.Nodup)(fu:xL jB)(few:M5 (k++jB))(K:∀t' q9,wO q9 t' (yF (k++jB))->vQ q8 1 q9->Q (.int t') (tS q9 G [])):
  y4 D N "add_undef" [] [.ref true 0,.int t] Q (tS q8 G []):=by
 refine cm hN (d:=rC) rfl rfl fun M hM=>?_;have e:(([(t,k),(4,jB)]:List (Int×Kd)).map (·.2)).flatten=k++jB:=by
  show k++(jB++[])=_;rw[qS]
 exact QV (lv hM) (l:=[(t,k),(4,jB)]) nd hb hl rfl (fun z0 z0 h=>h)
  (fun q hq=>(qV.mp hq).elim (fun e=>e▸hs) fun h=>qO.mp h▸TU hb)
  (fun q hq=>(qV.mp hq).elim (fun e=>e▸f) fun h=>qO.mp h▸fu)
  (fun q hq=>(qV.mp hq).elim (fun e=>e▸hn) fun h=>qO.mp h▸List.nodup_cons.mpr ⟨qW,.nil⟩)
  (e▸few) (fun t' q9 a b=>K t' q9 (e▸a) b)
end
mutual
noncomputable def SS:Pt->List V
 | .u x=>[.str [117],.str x.word]
 | .a ro k=>[.str [97],.int (aZ ro),.lst (jL k)]
 | .t ro l=>[.str [116],.int (aZ ro),.lst (jY l)]
noncomputable def jL:List Pt->List V
 | []=>[]
 | p::r=>.tup (SS p)::jL r
noncomputable def jY:List (List Pt×Int)->List V
 | []=>[]
 | (k,g)::r=>.tup [.lst (jL k),.int g]::jY r
end
noncomputable abbrev jR(p:Pt):V:=.tup (SS p)
noncomputable abbrev lC(q:List Pt×Int):V:=.tup [.lst (jL q.1),.int q.2]
theorem xU:∀k:Kd,jL k=k.map jR
 | []=>rfl
 | _::r=>congrArg _ (xU r)
theorem x5:∀l:vB,jY l=l.map lC
 | []=>rfl
 | _::r=>congrArg _ (x5 r)
mutual
noncomputable def c6:Pt->Nat
 | .u _=>0
 | .a _ k=>Z1 k+1
 | .t _ l=>q2O l+1
noncomputable def Z1:List Pt->Nat
 | []=>0
 | p::r=>max (c6 p) (Z1 r)
noncomputable def q2O:List (List Pt×Int)->Nat
 | []=>0
 | (k,_)::r=>max (Z1 k) (q2O r)
end
def uG{p:Pt}{k:Kd}(h:p∈k):c6 p<=Z1 k:=by
 induction h with
 | head=>exact zP ..
 | tail _ _ ih=>exact qF ih (zQ ..)
def pZ{q:List Pt×Int}{l:vB}(h:q∈l):Z1 q.1<=q2O l:=by
 induction h with
 | head=>exact zP ..
 | tail _ _ ih=>exact qF ih (zQ ..)
section
variable{α:Type}{f:α->List Nat}{t:List α->List Nat}{c:Nat}
def AA(h0:t []=[])(h1:∀q r,t (q::r)=c::(f q++t r))(r:List α):∀p:α,lN [c] (f p::r.map f)=f p++t r:=by
 induction r with
 | nil=>exact fun p=>(qS _).symm.trans (congrArg _ h0.symm)
 | cons q r ih=>exact fun p=>(congrArg (f p++[c]++·) (ih q)).trans ((qZ (f p) [c] _).trans (congrArg _ (h1 q r).symm))
def II(h0:t []=[])(h1:∀q r,t (q::r)=c::(f q++t r))(r:List α):((r.map f).map List.length).sum+r.length=(t r).length:=by
 induction r with
 | nil=>exact(congrArg List.length h0).symm
 | cons q r ih =>
  rw[h1];exact(congrArg Nat.succ (Nat.add_assoc ..)).trans (congrArg Nat.succ ((congrArg ((f q).length+·) ih).trans qM.symm))
end
def i7:∀k:Kd,lN [124] (k.map word)=text k
 | []=>rfl
 | p::r=>AA (t:=uJ) rfl (fun z0 z0=>rfl) r p
noncomputable abbrev gQ(q:List Pt×Int):List Nat:=jH q.2++text q.1
def aD:∀l:vB,lN [44] (l.map gQ)=eJ l
 | []=>rfl
 | p::r=>AA (f:=gQ) (t:=vZ) rfl (fun z0 z0=>rfl) r p
def NL:∀k:Kd,(text k).length<=(uJ k).length
 | []=>qT _
 | _::_=>Nat.le_succ _
def TF:∀l:vB,(eJ l).length<=(vZ l).length
 | []=>qT _
 | _::_=>Nat.le_succ _
def i0{k:Kd}(h:MC k):sortS (k.map word)=k.map word :=
 (vN (.refl _) (List.pairwise_map.mpr (h.imp fun l=>fR _ _ l))).symm
def H0:∀b:Bool,jH (aZ b)=[MZ b]
 | true=>by decide
 | false=>by decide
def MQ:∀b:Bool,Z3 (aZ b)
 | true=>sm rfl
 | false=>sm rfl
def iG:∀{l:List Int},l∈FT->l.length<=3:=by unfold FT; decide
noncomputable def q4L:Un->Nat
 | .undef=>0 | .null=>1 | .number=>2 | .num b f=>3+b.toNat+2*f.toNat | .str f=>7+f.toNat
noncomputable def q7U:Nat->Un
 | 0=>.undef | 1=>.null | 2=>.number | 3=>.num false false | 4=>.num true false | 5=>.num false true | 6=>.num true true | 7=>.str false | _=>.str true
def iA:∀x:Un,q7U (q4L x)=x/\q4L x<9/\x.word.length<=9
 | .undef=>⟨rfl,by decide⟩ | .null=>⟨rfl,by decide⟩ | .number=>⟨rfl,by decide⟩ | .num false false=>⟨rfl,by decide⟩ | .num false true=>⟨rfl,by decide⟩ | .num true false=>⟨rfl,by decide⟩ | .num true true=>⟨rfl,by decide⟩ | .str false=>⟨rfl,by decide⟩ | .str true=>⟨rfl,by decide⟩
def L6{x y:Un}(h:q4L x=q4L y):x=y:=(iA x).1.symm.trans ((congrArg q7U h).trans (iA y).1)
def tJ{l:List Un}(h:l.Nodup):l.length<=9:=by
 have nd:(l.map q4L).Nodup:=List.pairwise_map.mpr (h.imp fun n e=>n (L6 e))
 have:=nd.length_le_of_subset (l₂:=List.range 9) fun x hx=>(zC.mp hx).elim fun y z=>z.2▸List.mem_range.mpr (iA y).2.1
 rwa [qH,List.length_range]at this
noncomputable def q7V:Pt->Option Un
 | .u x=>some x
 | _=>none
noncomputable def UE(k:List Pt):List Un:=k.filterMap q7V
def UD{x:Un}:∀{p:Pt},q7V p=some x->p=.u x
 | .u _,e=>congrArg _ (qN e)
def aU{k:List Pt}(h:k.Nodup):(UE k).Nodup:=by
 unfold UE;rw[List.Nodup,List.pairwise_filterMap];exact h.imp fun n x e y e' z=>n ((UD e).trans (z▸(UD e').symm))
def UF(k:List Pt):k.length=nl k+(UE k).length:=by
 induction k with
 | nil=>rfl
 | cons p r ih=>cases p with
  | u x=>exact congrArg Nat.succ ih
  | _=>exact(congrArg Nat.succ ih).trans (Nat.succ_add ..).symm
def cG{k:Kd}(h:MC k):k.length<=nl k+9:=UF k▸qL (tJ (aU h.nodup)) _
def bH{k:Kd}(c:wW k){n:Nat}(h:nl k<=n)(h':n<=54):k.length<64:=qI (qF (cG c.1) (qR (qF h h') 9)) (by decide)
def YJ{a w:Nat}:(a+1)*w=w+a*w:=(Nat.succ_mul ..).trans (Nat.add_comm ..)
def JN{W:Nat}(k:Kd)(h:∀p∈k,Y5 p=true->(word p).length<=W):(uJ k).length<=(UE k).length*10+nl k*(W+1):=by
 induction k with
 | nil=>exact zA _
 | cons p r ih =>
  have ih:=ih fun q hq=>h q (.tail _ hq);have e:(uJ (p::r)).length=((word p).length+1)+(uJ r).length:=(congrArg Nat.succ (qM ..)).trans (Nat.succ_add ..).symm;rw[e];cases p with
  | u x=>exact qF (Nat.add_le_add (z7 (iA x).2.2) ih) (qK ((Nat.add_assoc ..).symm.trans (congrArg (·+_) YJ.symm)))
  | a ro k=>exact qF (Nat.add_le_add (z7 (h _ (.head _) rfl)) ih) (qK ((Nat.add_left_comm ..).trans (congrArg (_+·) YJ.symm)))
  | t ro l=>exact qF (Nat.add_le_add (z7 (h _ (.head _) rfl)) ih) (qK ((Nat.add_left_comm ..).trans (congrArg (_+·) YJ.symm)))
def QS{W n:Nat}{k:Kd}(c:wW k)(hn:nl k<=n)(h:∀p∈k,Y5 p=true->(word p).length<=W):(text k).length<=90+n*(W+1) :=
 qF (NL k) (qF (JN k h) (Nat.add_le_add (z4 10 (tJ (aU c.1.nodup))) (z4 _ hn)))
noncomputable def wl:Nat->Nat
 | 0=>9
 | d+1=>6*wl d+286
def q8M:∀d,9<=wl d
 | 0=>qT _
 | d+1=>qF (by decide:9<=286) (qP ..)
def U9{g:Int}(h:tI g=true):(jH g).length=1:=by
 refine wI (cI h) fun c e z0=>?_;rw[e]; rfl
mutual
theorem aY:∀(d:Nat)(p:Pt),c6 p<=d->kO p->(word p).length<=wl d
 | d,.u x,_,_=>qF (iA x).2.2 (q8M d)
 | d+1,.a _ k,h,f=>by
  have t:=QS f.2.1 f.2.2 fun p hp z0=>gD d k (zJ h) f.1 p hp;refine qF (qK (congrArg (·+3) (qM (bs:=[41])))) (qF (qR t 4) ?_);rw[wl]; exact yX [_] LF.n 0 (.a (.a (.k 90) (.m 2 (.a (.v 0) (.k 1)))) (.k 4)) (.a (.m 6 (.v 0)) (.k 286)) rfl
 | d+1,.t _ l,h,f=>by
  have l3:=iG f.2;rw[qH]at l3;refine qF (qK (congrArg (·+3) (qM (bs:=[41])))) (qF (qR (qF (qF (TF l) (QY d l (zJ h) f.1 (tO f.2))) (z4 _ l3)) 4) ?_);rw[wl]; exact yX [_] LF.n 0 (.a (.m 3 (.a (.k 94) (.m 2 (.v 0)))) (.k 4)) (.a (.m 6 (.v 0)) (.k 286)) rfl
theorem gD:∀(d:Nat)(k:List Pt),Z1 k<=d->xL k->∀p∈k,(word p).length<=wl d
 | _,[],_,_=>nofun
 | d,p::k,h,f=>zB.mpr ⟨aY d p (qF (zP ..) h) f.1,gD d k (qF (zQ ..) h) f.2⟩
theorem QY:∀(d:Nat)(l:List (List Pt×Int)),q2O l<=d->cL l->(∀g∈l.map (·.2),tI g=true)->(vZ l).length<=l.length*(94+2*wl d)
 | _,[],_,_,_=>zA _
 | d,(k,g)::l,h,f,ht=>by
  rw[List.length_cons,YJ];exact(List.length_cons).symm▸(qM).symm▸(qM).symm▸(U9 (ht g (.head _))).symm▸(yX [_,_,_,_] (LF.c 1 (.v 0) (.a (.k 90) (.m 2 (.a (.v 1) (.k 1)))) (LF.c 1 (.v 2) (.v 3) .n)) 0 (.a (.a (.a (.k 1) (.v 0)) (.v 2)) (.k 1)) (.a (.a (.k 94) (.m 2 (.v 1))) (.v 3)) rfl (QS f.1.2.1 f.1.2.2 fun p hp z0=>gD d k (qF (zP ..) h) f.1.1 p hp) (QY d l (qF (zQ ..) h) f.2 fun g hg=>ht g (.tail _ hg)))
end
set_option genCtorIdx false in
structure xB (k:Kd):Prop where
 fit:xL k
 can:wW k
 dp:Z1 k<=4
def xB.word{k:Kd}(h:xB k){p:Pt}(hp:p∈k):(word p).length<=85738:=gD 4 k h.dp h.fit p hp
def xB.text{k:Kd}(h:xB k)(hn:nl k<=54):(text k).length<=5000000:=qF (QS h.can hn fun z0 hp z0=>h.word hp) (by decide)
def xB.nodup{k:Kd}(h:xB k):k.Nodup:=h.can.1.nodup
def xB.len{k:Kd}(h:xB k)(hn:nl k<=54):k.length<64:=bH h.can hn (qT _)
set_option genCtorIdx false in
structure uB (b:Nat) (q8:List yD):Prop where
 nd:q8.Nodup
 base:FIRST16 <+: q8
 len:q8.length+b<=lim
section
variable{α:Type}{q8 q9 r1 r2:List yD}{G:xF}{N a b c:Nat}{Q:Kv}{t g:Int}{k:Kd}{l:List α}{ps:List Pt}
def vQ.trans(h:vQ q8 a r1)(h':vQ r1 b r2):vQ q8 (a+b) r2:=⟨h.pre.trans h'.pre,qF h'.len (qF (qR h.len b) (qK (Nat.add_assoc ..))),h'.nd⟩
def vQ.le(h:vQ q8 a r1)(l:a<=b):vQ q8 b r1:=⟨h.pre,qF h.len (qL l _),h.nd⟩
def uB.refl(h:uB b q8):vQ q8 a q8:=⟨List.prefix_refl _,qJ ..,h.nd⟩
def uB.ext(h:uB (a+b) q8)(e:vQ q8 a r1):uB b r1:=⟨e.nd,h.base.trans e.pre,qF (qR e.len b) (qF (qK (Nat.add_assoc ..)) h.len)⟩
def uB.le(h:uB b q8)(l:a<=b):uB a q8:=⟨h.nd,h.base,qF (qL l _) h.len⟩
def uB.lt(h:uB (b+1) q8):q8.length<lim:=qQ (zG (Nat.succ_pos b)) h.len
def uB.two(h:uB b q8):y9 q8 2=some (.key wZ):=xX h.base
def tX(h:nl ps<=54):M5 ps:=fun l nd hs=>by
 rw[UF l];exact qI (Nat.add_le_add (qF ((List.Nodup.length_le_of_subset (List.Pairwise.filter _ nd) fun p hp=>zO.mpr ⟨hs p (zO.mp hp).1,(zO.mp hp).2⟩:(l.filter Y5).length<=nl ps)) h) (tJ (aU nd))) (by decide)
def vY{a b:List Pt}:nl (a++b)=nl a+nl b:=(congrArg List.length (List.filter_append ..)).trans qM
def sU:xL jB:=⟨trivial,trivial⟩
def q4N{B:V->Ko->St->Prop}{ok:St->Prop->Prop}{K:Kl}(enc:α->V)(f:α->Kd)(Z2:∀{σ X},X->ok σ X){L:List V}(hL:L=l.map enc)(h:uB (l.length+b) q8)
  (step:∀x∈l,∀r1,uB (b+1) r1->q8 <+: r1->∀W:Ko,(∀t r2,wO r2 t (f x)->vQ r1 1 r2->W (some (.int t)) (tS r2 G []))->B (enc x) W (tS r1 G []))
  (k:∀(dn:List (Int×Kd))r1,dn.map (·.2)=l.map f->(∀q∈dn,wO r1 q.1 q.2)->uB b r1->vQ q8 l.length r1->K (dn.map fun q:Int×Kd=>.int q.1) (tS r1 G [])):kZ B ok K L [] (tS q8 G []):=by
 subst hL
 suffices H:∀(r:List α)(dn:List (Int×Kd))r1 n,(∀x∈r,x∈l)->dn.map (·.2)++r.map f=l.map f->(∀q∈dn,wO r1 q.1 q.2)->uB (r.length+b) r1->n+r.length=l.length->vQ q8 n r1->kZ B ok K (r.map enc) (dn.map fun q:Int×Kd=>.int q.1) (tS r1 G [])from H l [] q8 0 (fun z0 h=>h) rfl yV h (Nat.zero_add _) h.refl
 intro r
 induction r with
 | nil=>exact fun dn r1 n z0 e s T e2 E=>k dn r1 ((qS _).symm.trans e) s (Nat.zero_add b▸T) (e2▸E)
 | cons x r ih =>
   intro dn r1 n hr e s T e2 E;have T':uB (1+(r.length+b)) r1:=T.le (qK (by rw[List.length_cons,Nat.add_comm 1,Nat.add_right_comm]));refine step x (hr x (.head _)) r1 (T'.le (by rw[Nat.add_comm b 1]; exact qL (qP ..) 1)) E.pre _ fun t r2 hs E2=>Z2 ?_;refine Eq.mp (congrArg (kZ B ok K (r.map enc) · _) (qU (l₁:=dn) (l₂:=[(t,f x)]))) (ih (dn++[(t,f x)]) r2 (n+1) (fun y hy=>hr y (.tail _ hy)) ?_ (fun q hq=>(zH.mp hq).elim (fun z=>(s q z).mono E2.pre) fun z=>qO.mp z▸hs) (T'.ext E2) ((Nat.add_right_comm n 1 _).trans e2) (E.trans E2));rw[qU,qZ];exact e
def q5E{n:Nat}(hN:4<=N)(h:uB (n+1) q8)(hs:wO q8 t k)(hk:xB k)(hn:nl k<=53)(K:∀t' r',wO r' t' (yF (k++jB))->vQ q8 1 r'->Q (.int t') (tS r' G [])):y4 D N "add_undef" [] [.ref true 0,.int t] Q (tS q8 G []) :=
 XU hN h.nd h.base h.lt hs hk.fit hk.nodup sU (tX (vY▸qF hn (by decide))) K
def B7(e:g=1):yR (k,g)=yF (k++jB):=if_pos e
def B6(e:¬g=1):yR (k,g)=k:=if_neg e
def l9{n:Nat}(hN:5<=N)(h:uB (n+1) q8)(hs:wO q8 t k)(hk:xB k)(hn:nl k<=53)(hg:g≠3)(K:∀t' r',wO r' t' (yR (k,g))->vQ q8 1 r'->Q (.int t') (tS r' G [])):y4 D N "elem_read" [] [.ref true 0,.tup [.int t,.int g]] Q (tS q8 G []):=by
 refine cm hN (d:=rD) rfl rfl fun M hM=>?_;refine df hg ?_;refine dc (fun e=>?_) fun e=>K t q8 ((B6 e).symm▸hs) h.refl;exact q5E hM h hs hk hn fun t' r' s E=>K t' r' ((B7 e).symm▸s) E
def b7{es:List (Int×Int)}{l:vB}(h:uV q8 es l):∃z:List ((Int×Int)×(List Pt×Int)),z.map (·.1)=es/\z.map (·.2)=l/\∀q∈z,q.1.2=q.2.2/\wO q8 q.1.1 q.2.1:=by
 induction l generalizing es with
 | nil=>cases es with
  | nil=>exact⟨[],rfl,rfl,yV⟩
  | cons _ _=>exact h.elim
 | cons p l ih=>cases es with
  | nil=>exact h.elim
  | cons e es=>exact(ih h.2.2).elim fun z w=>⟨(e,p)::z,congrArg _ w.1,congrArg _ w.2.1,zB.mpr ⟨⟨h.1,h.2.1⟩,w.2.2⟩⟩
def cK{l:List (Int×Kd)}{pv:V}{n:Nat}(hN:3<=N)(h:uB (n+1) q8)(hm:(!gY pv)=true)(hpv:∀σ (K:List V->Prop),K (l.map fun q=>V.int q.1)->pA σ pv K)(hs:∀q∈l,wO q8 q.1 q.2)(hk:∀q∈l,xB q.2)(hn:nl (l.map (·.2)).flatten<=54)(K:∀t r',wO r' t (yF (l.map (·.2)).flatten)->vQ q8 1 r'->Q (.int t) (tS r' G [])):y4 D N "union" [] [.ref true 0,pv] Q (tS q8 G []) :=
 QV hN h.nd h.base h.lt hm hpv hs (fun q hq=>(hk q hq).fit) (fun q hq=>(hk q hq).nodup) (tX hn) K
def AO{e ro:Int}{σ:xF}(hN:1<=N)(K:Q (.int e) ⟨σ,[]⟩):y4 D N "row_elem" [] [.ref true 0,.tup [.int 11,.int e,.int ro]] Q ⟨σ,[]⟩:=cm hN (d:=dZ) rfl rfl fun M hM=>K
def TN{z:List ((Int×Int)×(List Pt×Int))}{ro:Int}(hN:6<=N)(h:uB (z.length+(b+1)) q8)(z3:∀q∈z,q.1.2=q.2.2/\wO q8 q.1.1 q.2.1)(hk:∀q∈z,xB q.2.1/\xB (yR q.2)/\nl q.2.1<=2/\q.2.2≠3)(hl:z.length<=3)(hn:nl (z.map fun q=>yR q.2).flatten<=54)
  (K:∀t r',wO r' t (yF (z.map fun q=>yR q.2).flatten)->vQ q8 (z.length+1) r'->Q (.int t) (tS r' G [])):y4 D N "row_elem" [] [.ref true 0,.tup [.int 12,.tup (z.map fun q=>jA q.1),.int ro]] Q (tS q8 G []):=by
 refine cm hN (d:=dZ) rfl rfl fun M hM=>?_;refine ft (by rw[qH]; exact qF hl (by decide)) ?_;refine q4N (b:=b+1) (fun q=>jA q.1) (fun q:(Int×Int)×(List Pt×Int)=>yR q.2) id rfl h (fun q hq r1 T p W w=>?_) fun dn r1 e s T E=>?_
 ·exact l9 (lv hM) T ((z3 q hq).2.mono p) (hk q hq).1 (qF (hk q hq).2.2.1 (by decide)) ((z3 q hq).1▸(hk q hq).2.2.2) fun t r' s E=>w t r' (Eq.mp (congrArg (fun g=>wO r' t (yR (q.2.1,g))) (z3 q hq).1) s) E
 ·exact cK (lv hM) (l:=dn) T rfl (fun z0 z0 h=>h) s (fun q hq=>(zC.mp (e▸z5 hq:q.2∈z.map fun q=>yR q.2)).elim fun x z=>z.2▸(hk x z.1).2.1) (e▸hn) fun t r' s E2=>K t r' (e▸s) (E.trans E2)
def rR{es:List (Int×Int)}{l:vB}{ro:Int}(hN:6<=N)(h:uB (l.length+(b+1)) q8)(hs:uV q8 es l)(hk:∀q∈l,xB q.1/\xB (yR q)/\nl q.1<=2/\q.2≠3)(hl:l.length<=3)(hn:nl (l.map yR).flatten<=54)
  (K:∀t r',wO r' t (yF (l.map yR).flatten)->vQ q8 (l.length+1) r'->Q (.int t) (tS r' G [])):y4 D N "row_elem" [] [.ref true 0,.tup [.int 12,.tup (es.map jA),.int ro]] Q (tS q8 G []) :=
 (b7 hs).elim fun z ⟨z1,z2,z3⟩=>by
  subst z1 z2;rw[qH]at h hl K;rw[qY]at hn K ⊢;exact TN hN h z3 (fun q hq=>hk q.2 (z5 hq)) hl hn K
end
noncomputable def q0S(f:Nat->Int):Nat->List Int->List V
 | _,[]=>[]
 | i,g::r=>.tup [.int (f i),.int g]::q0S f (i+1) r
def IT{f:Nat->Int}{l:List (Int×Int)}:∀{i:Nat},(∀j,f (i+j)=(l.getD j (0,0)).1)->q0S f i (l.map (·.2))=l.map jA:=by
 induction l with
 | nil=>exact fun z0=>rfl
 | cons e l ih=>exact fun {i} h=>congr (congrArg _ (congrArg (fun v=>V.tup [.int v,.int e.2]) (h 0))) (ih fun j=>(congrArg f (Nat.succ_add_eq_add_succ i j)).trans (h (j+1)))
def mY{l:List (Int×Int)}{P:List V->Prop}(h:∀f,P (q0S f 0 (l.map (·.2)))):P (l.map jA) :=
 IT (i:=0) (f:=fun j=>(l.getD j (0,0)).1) (fun j=>by rw[Nat.zero_add])▸h _
def iE(P:List Int->Prop):List (List Int)->Prop
 | []=>True
 | s::r=>P s/\iE P r
def iE.mem{P:List Int->Prop}{s:List Int}{l:List (List Int)}(h:s∈l)(a:iE P l):P s:=by
 induction h with
 | head=>exact a.1
 | tail _ _ ih=>exact ih a.2
noncomputable def vE:List (List Int):=FT++[[0,3],[3,0],[0,3,0],[3],[1,3],[0,0,3],[3,0,0]]
def cT{s:List Int}(h:s∈FT):s∈vE:=List.mem_append_left _ h
def XX:∀{s:List Int},s∈AT->s∈vE:=by unfold AT vE FT; decide
def iR:∀{s:List Int},s∈vE->s.length<=3:=by unfold vE FT; decide
section
variable{q8:List yD}{G:xF}{N n:Nat}{Q:Kv}{t g ro:Int}
def q5C(s:List Int):Prop:=∀(f:Nat->Int)(ev:V)(M:Nat)(G:xF)(Q:Kv)(ro:Int)(q8:List yD),(∀Q':Kv,(∀t r',Q (.int t) (tS r' G [])->Q' (.int t) (tS r' G []))->y4 D M "TypeTable.put" [] [.ref true 0,.tup [.int 12,.tup (q0S f 0 s),.int ro]] Q' (tS q8 G [])) ->
 xA (xP D (y4 D M)) (vK.body.drop 1) (y5.set (y5.set (y5.set (y5.set xV "tab" (.ref true 0)) "elems" ev) "ro" (.int ro)) "rows" (.lst (q0S f 0 s))) (uO Q) (tS q8 G [])
def L4:iE q5C vE:=⟨fun f ev M G Q ro q8 h=>by exact h _ fun z0 z0 z=>z,fun f ev M G Q ro q8 h=>by exact h _ fun z0 z0 z=>z,fun f ev M G Q ro q8 h=>by exact h _ fun z0 z0 z=>z,fun f ev M G Q ro q8 h=>by exact h _ fun z0 z0 z=>z,fun f ev M G Q ro q8 h=>by exact h _ fun z0 z0 z=>z,fun f ev M G Q ro q8 h=>by exact h _ fun z0 z0 z=>z,fun f ev M G Q ro q8 h=>by exact h _ fun z0 z0 z=>z,fun f ev M G Q ro q8 h=>by exact h _ fun z0 z0 z=>z,fun f ev M G Q ro q8 h=>by exact h _ fun z0 z0 z=>z,fun f ev M G Q ro q8 h=>by exact h _ fun z0 z0 z=>z,fun f ev M G Q ro q8 h=>by exact h _ fun z0 z0 z=>z,fun f ev M G Q ro q8 h=>by exact h _ fun z0 z0 z=>z,fun f ev M G Q ro q8 h=>by exact h _ fun z0 z0 z=>z,fun f ev M G Q ro q8 h=>by exact h _ fun z0 z0 z=>z,fun f ev M G Q ro q8 h=>by exact h _ fun z0 z0 z=>z,fun f ev M G Q ro q8 h=>by exact h _ fun z0 z0 z=>z,fun f ev M G Q ro q8 h=>by exact h _ fun z0 z0 z=>z,fun f ev M G Q ro q8 h=>by exact h _ fun z0 z0 z=>z,fun f ev M G Q ro q8 h=>by exact h _ fun z0 z0 z=>z,trivial⟩
def hZ{es:List (Int×Int)}{ev:V}(hN:2<=N)(h:uB (n+1) q8)(hs:es.map (·.2)∈vE)(hv:∀σ (K:List V->Prop),K (es.map jA)->pA σ ev K)(Z2:∀{σ X},X->O1 (es.map jA) ev σ X)(ho:g9 ev=true)(K:∀t r',y9 r' t=some (.tpl es ro)->vQ q8 1 r'->Q (.int t) (tS r' G [])):
  y4 D N "tuple_type" [] [.ref true 0,ev,.int ro] Q (tS q8 G []):=by
 have l3:=iR hs;rw[qH]at l3;refine cm hN (d:=vK) rfl rfl fun M hM=>?_;refine hv _ _ ?_;refine ft (by rw[qH]; exact qF l3 (by decide)) ?_;refine aW jA jA Z2 rfl (fun q z0 K k=>k) ?_;exact mY (P:=fun L=>(∀Q':Kv,(∀t r',Q (.int t) (tS r' G [])->Q' (.int t) (tS r' G []))->y4 D M "TypeTable.put" [] [.ref true 0,.tup [.int 12,.tup L,.int ro]] Q' (tS q8 G []))->xA (xP D (y4 D M)) (vK.body.drop 1) (y5.set (y5.set (y5.set (y5.set xV "tab" (.ref true 0)) "elems" ev) "ro" (.int ro)) "rows" (.lst L)) (uO Q) (tS q8 G []))
  (fun f=>L4.mem hs f ev M G Q ro q8) fun Q' k=>dD (lv hM) (r:=.tpl es ro) h.nd h.lt fun t r' e E=>k t r' (K t r' e E)
def YY{p:Pt}(hN:2<=N)(h:uB (n+1) q8)(hs:xS q8 t p)(K:∀t' r',xS r' t' (reg p)->vQ q8 1 r'->Q (.int t') (tS r' G [])):y4 D N "regular_one" [] [.ref true 0,.int t] Q (tS q8 G []):=by
 have hl:=z9 h.lt;refine cm hN (d:=uP) rfl rfl fun M hM=>?_;cases p with
 | u x =>
  have K0:=fun e:reg (.u x)=.u x=>K t q8 (e.symm▸hs) h.refl;refine gr hs hl ?_;cases x with
  | num b f=>cases f with
   | false=>exact K0 rfl
   | true =>
    refine gr hs hl ?_;exact dD (lv hM) (r:=.num (aZ b) 0) h.nd h.lt K
  | str f=>cases f with
   | false=>exact K0 rfl
   | true =>
    refine gr hs hl ?_;exact dD (lv hM) (r:=.str [97] 0) h.nd h.lt K
  | _=>exact K0 rfl
 | a ro k=>exact v4 hs fun z0 z0 z=>gr z.1 hl (K t q8 hs h.refl)
 | t ro l=>exact hs.elim fun z0 z=>gr z.1 hl (K t q8 hs h.refl)
def TE{α β:Type}{f:α->β}{l m:List β}(p:l.Perm m):∀z:List α,z.map f=m->∃z':List α,z'.map f=l/\z'.Perm z:=by
 induction p with
 | nil=>exact fun z e=>⟨z,e,.refl _⟩
 | cons x _ ih =>
  intro z e;obtain⟨y,r,rfl,h,e⟩:=List.map_eq_cons_iff.mp e;exact(ih r e).elim fun r' w=>⟨y::r',congr (congrArg _ h) w.1,w.2.cons y⟩
 | swap x y l =>
  intro z e;obtain⟨a,r,rfl,h,e⟩:=List.map_eq_cons_iff.mp e;obtain⟨b,r,rfl,h',e⟩:=List.map_eq_cons_iff.mp e;exact⟨b::a::r,congr (congrArg _ h') (congr (congrArg _ h) e),.swap ..⟩
 | trans _ _ ih1 ih2=>exact fun z e=>(ih2 z e).elim fun z' w=>(ih1 z' w.1).elim fun z2 w'=>⟨z2,w'.1,w'.2.trans w.2⟩
def hG{ids:List Int}{k:Kd}(h:yP q8 ids k):∃z:List (Int×Pt),z.map (·.1)=ids/\z.map (·.2)=k/\∀q∈z,xS q8 q.1 q.2:=by
 induction k generalizing ids with
 | nil=>cases ids with
  | nil=>exact⟨[],rfl,rfl,yV⟩
  | cons _ _=>exact h.elim
 | cons p k ih=>cases ids with
  | nil=>exact h.elim
  | cons i ids=>exact(ih h.2).elim fun z w=>⟨(i,p)::z,congrArg _ w.1,congrArg _ w.2.1,zB.mpr ⟨h.1,w.2.2⟩⟩
def cB{ids is:List Int}{k:Kd}(h:yP q8 ids k)(pm:is.Perm ids):∃z:List (Int×Pt),is=z.map (·.1)/\(z.map (·.2)).Perm k/\∀q∈z,xS q8 q.1 q.2 :=
 (hG h).elim fun z w=>(TE (pm.trans (.of_eq w.1.symm)) z rfl).elim fun z' w'=>⟨z',w'.1.symm,(w'.2.map _).trans (.of_eq w.2.1),fun q hq=>w.2.2 q (w'.2.mem_iff.mp hq)⟩
end
def BU:∀p:Pt,jW [p] p=true
 | .u .undef=>rfl | .u .null=>rfl | .u .number=>rfl | .u (.num false false)=>rfl | .u (.num false true)=>rfl | .u (.num true false)=>rfl | .u (.num true true)=>rfl | .u (.str false)=>rfl | .u (.str true)=>rfl | .a _ _=>rfl | .t _ _=>rfl
def mK(p:Pt):wW [p]:=⟨List.pairwise_singleton ..,fun q hq=>qO.mp hq▸BU p⟩
def g7{p:Pt}(f:kO p)(d:c6 p<=4):xB [p]:=⟨⟨f,trivial⟩,mK p,Nat.max_le.mpr ⟨d,zA _⟩⟩
def nW:∀{p:Pt},kO p->kO (reg p)/\c6 (reg p)<=c6 p/\Y5 (reg p)=Y5 p
 | .u x,_=>by cases x <;> exact⟨trivial,qT _,rfl⟩
 | .a _ _,f=>⟨f,qT _,rfl⟩
 | .t _ _,f=>⟨f,qT _,rfl⟩
def xB.reg1{k:Kd}(h:xB k){p:Pt}(hp:p∈k):xB [reg p] :=
 g7 (nW (yM.mp h.fit p hp)).1 (qF (nW (yM.mp h.fit p hp)).2.1 (qF (uG hp) h.dp))
def WZ{f:Pt->Pt}{k:Kd}(h:∀p∈k,Y5 (f p)=Y5 p):nl (k.map f)=nl k:=by
 unfold nl;rw[List.filter_map,qH];exact congrArg List.length (List.filter_congr h)
def q2V{α:Type}{f:α->Pt}(l:List α):(l.map fun q=>[f q]).flatten=l.map f:=by
 induction l with
 | nil=>rfl
 | cons x l ih=>exact congrArg (f x::·) ih
def PN{p:Pt}(h:xB [p]):kU [p]=[reg p]:=have r:=h.reg1 (.head _); pB (wD r.fit) r.can
def YX{k:Kd}(h:xB k):yY (k.map reg)=true:=xW fun p hp=>(zC.mp hp).elim fun q z=>z.2▸vT (wD (h.reg1 z.1).fit)
section
variable{q8:List yD}{G:xF}{N n:Nat}{Q:Kv}{t g:Int}{k:Kd}
def PO{w:List Nat}(hN:2<=N)(hr:y9 q8 t=some (.key w))(hl:q8.length<=lim)(K:Q (.int t) (tS q8 G [])):y4 D N "regular_one" [] [.ref true 0,.int t] Q (tS q8 G []):=by
 refine cm hN (d:=uP) rfl rfl fun M hM=>?_;exact gr hr hl K
def TJ{is ids:List Int}(hN:4<=N)(h:uB (n+64) q8)(hr:y9 q8 t=some (.uni is))(pm:is.Perm ids)(hs:yP q8 ids k)(hh:gU q8 t ids)(hk:xB k)(hn:nl k<=54)(K:∀t' r',wO r' t' (kU k)->vQ q8 64 r'->Q (.int t') (tS r' G [])):y4 D N "regular" [] [.ref true 0,.int t] Q (tS q8 G []):=by
 have hl:q8.length<=lim:=z9 h.lt;refine cm hN (d:=bJ) rfl rfl fun M hM=>?_;refine fO (lv hM) hr hl ?_;refine nU (lv hM) h.two hl hs hh fun is pm z0=>?_;obtain⟨z,rfl,z2,z3⟩:=cB hs pm;have zl:z.length<64:=qI (qK ((qH ..).symm.trans z2.length_eq)) (hk.len hn);refine ft (by rw[qH,qH]; exact z9 (Nat.lt_trans zl (by decide))) ?_;refine q4N (b:=n+1) (fun q:Int×Pt=>.int q.1) (fun q=>[reg q.2]) id (qY ..) (h.le (qF (qK (Nat.add_comm ..)) (qF (qK (Nat.add_right_comm n 1 _)) (qL zl n)))) (fun q hq r1 T p W w=>?_) fun dn r1 e s T E=>?_
 ·exact YY (lv hM) T ((z3 q hq).mono p) fun t' r' s E=>w t' r' ⟨[t'],⟨s,trivial⟩,rfl⟩ E
 ·have ek:(dn.map (·.2)).flatten=(z.map (·.2)).map reg:=(congrArg List.flatten e).trans ((q2V z).trans (qY (f:=fun q:Int×Pt=>q.2) (g:=reg) (l:=z)).symm);refine cK (lv hM) (l:=dn) T rfl (fun z0 z0 h=>h) s (fun q hq=>(zC.mp (e▸z5 hq:q.2∈z.map fun q=>[reg q.2])).elim fun x w=>w.2▸hk.reg1 (((fun q hq=>z2.mem_iff.mp (z5 hq):∀q∈z,q.2∈k)) x w.1)) ?_ fun t' r' s E2=>K t' r' ?_ ((E.trans E2).le zl)
  ·exact(ek)▸(WZ fun p hp=>(nW (yM.mp hk.fit p (z2.mem_iff.mp hp))).2.2)▸(qF (qK (z2.filter Y5).length_eq) hn)
  ·rw[ek]at s;exact Eq.mp (congrArg (wO r' t') (fM (xW fun p hp=>wU.mp (YX hk) p ((z2.map reg).mem_iff.mp hp)) (YX hk) (fun p=>(z2.map reg).mem_iff):_=kU k)) s
def TK(hN:4<=N)(h:uB (n+64) q8)(hs:wO q8 t k)(hk:xB k)(hn:nl k<=54)(K:∀t' r',wO r' t' (kU k)->vQ q8 64 r'->Q (.int t') (tS r' G [])):y4 D N "regular" [] [.ref true 0,.int t] Q (tS q8 G []):=by
 refine qG fun ng=>?_;obtain⟨ids,s,hh⟩:=hs;refine ng ?_;have hl:q8.length<=lim:=z9 h.lt
 match ids,k,s,hh with
 | [],[],s,hh =>
  cases (hh:t=2);refine cm hN (d:=bJ) rfl rfl fun M hM=>?_;refine fO (lv hM) h.two hl ?_;exact PO (lv hM) h.two hl (K 2 q8 ⟨[],(T7.symm▸trivial:yP q8 [] (yF [])),rfl⟩ h.refl)
 | [i],[p],s,hh =>
  cases (hh:t=i);refine qG fun ng=>?_;refine XN (b9 s.1) fun r hr z0 k6 z0=>?_;refine ng ?_;refine cm hN (d:=bJ) rfl rfl fun M hM=>?_;refine fO (lv hM) hr hl ?_;refine df k6 ?_;exact YY (lv hM) (h.le (qL (by decide:1<=64) n)) s.1 fun t' r' s E=>K t' r' (PN hk▸⟨[t'],⟨s,trivial⟩,rfl⟩) (E.le (by decide))
 | i::j::ids,k,s,hh=>exact hh.elim fun is z=>TJ hN h z.1 z.2.1 s hh hk hn K
def N2(hN:3<=N)(h:uB (n+1) q8)(K:∀t' r',(if g=3 then y9 r' t'=some (.arr t 0)else t'=t)->vQ q8 1 r'->Q (.int t') (tS r' G [])):y4 D N "spread_of" [] [.ref true 0,.int t,.int g] Q (tS q8 G []):=by
 refine cm hN (d:=rL) rfl rfl fun M hM=>?_;exact dc (fun e=>GU (lv hM) h.nd h.lt fun t' r' q E=>K t' r' ((if_pos e).symm▸q) E) fun e=>K t q8 ((if_neg e).symm▸rfl) h.refl
end
section
variable{σ:St}{G:xF}{N:Nat}{Q:Kv}{K:V->Prop}
def GJ(n:Nat):Prop:=∀(p:Pt),c6 p<=n->kO p->n<=4->∀(N:Nat),2*n+1<=N->∀(G:xF)(Q:Kv),Q (.str (word p)) ⟨G,[]⟩->y4 D N "_law_word" [] [jR p] Q ⟨G,[]⟩
def S3(n:Nat):Prop:=∀(k:Kd),Z1 k<=n->xL k->wW k->nl k<=54->n<=4->∀(N:Nat),2*n+2<=N->∀(G:xF)(Q:Kv),Q (.str (text k)) ⟨G,[]⟩->y4 D N "_law_text" [] [.lst (jL k)] Q ⟨G,[]⟩
def ND{s:List (List Nat)}{n b:Nat}(h:(s.map List.length).sum+s.length=n)(h':n<=b):(s.map List.length).sum+s.length*1<=b:=Nat.mul_one _▸h▸h'
def gC{n:Nat}(W:GJ n):S3 n:=fun k hd hf hc hn h4 N hN G Q K=>by
 refine cm hN (d:=l4) rfl rfl fun M hM=>?_;refine ft (by rw[xU,qH]; exact z9 (Nat.lt_trans (bH hc hn (qT _)) (by decide))) ?_;refine LC jR word .str id (xU k) (fun p hp K' hK=>W p (qF (uG hp) hd) (yM.mp hf p hp) h4 M hM G _ hK) ?_;refine⟨_,rfl,by rw[qH]; exact(bH hc hn (qT _)),?_⟩;rw[i0 hc.1];refine⟨_,rfl,ND (qH (f:=word) (as:=k)▸II (f:=word) (t:=uJ) rfl (fun z0 z0=>rfl) k) (qF (JN k fun p hp z0=>gD 4 k (qF hd h4) hf p hp) (qF (Nat.add_le_add (z4 10 (tJ (aU hc.1.nodup))) (z4 _ hn)) (by decide))),?_⟩;rw[i7];exact K
def QK{b:Bool}(k:K (.str [MZ b])):Z3 (aZ b)/\K (.str (jH (aZ b))):=⟨MQ b,Eq.mpr (congrArg (fun s=>K (.str s)) (H0 b)) k⟩
def UA{g:Int}(h:tI g=true):Z3 g:=by
 unfold tI at h;refine((Bool.or_eq_true _ _).mp h).elim (fun h=>?_) fun h=>?_
 ·rcases(Bool.or_eq_true _ _).mp h with h | h <;> rw[eq_of_beq h] <;> exact sm rfl
 ·rw[eq_of_beq h]; exact sm rfl
def LD{a:List Nat}{n:Nat}(h:(a++[41]).length+3<=n):a.length+4<=n:=qF (qK (congrArg (·+3) (qM (bs:=[41])).symm)) h
def PH{q:List Pt×Int}(fq:xL q.1/\wW q.1/\nl q.1<=2)(tg:tI q.2=true)(d:Z1 q.1<=4):(gQ q).length<=lim :=
 qF (qK (qM.trans (congrArg (·+_) (U9 tg)))) (qF (qL (QS fq.2.1 fq.2.2 fun p hp z0=>gD 4 q.1 d fq.1 p hp) 1) (by decide))
def q43{ro:Bool}{l:vB}(f:kO (.t ro l))(d:c6 (.t ro l)<=4):((l.map gQ).map List.length).sum+(l.map gQ).length*1<=lim :=
 ND (qH (f:=gQ) (as:=l)▸II (f:=gQ) (t:=vZ) rfl (fun z0 z0=>rfl) l) (qF (QY 4 l (zK d) f.1 (tO f.2)) (qF (z4 _ (qH (f:=(·.2)) (as:=l)▸iG f.2)) (by decide)))
def XL:∀n,GJ n:=by
 intro n
 induction n with
 | zero =>
  intro p hd hf h4 N hN G Q K;cases p with
  | u x=>exact cm hN (d:=dW) rfl rfl fun z0 z0=>K
  | _=>exact absurd hd (Nat.not_succ_le_zero _)
 | succ n ih =>
  intro p hd hf h4 N hN G Q K;have hl:=qF (aY 4 p (qF hd h4) hf) (by decide:wl 4<=lim);have h4':=zK h4;refine cm hN (d:=dW) rfl rfl fun M hM=>?_;cases p with
  | u x=>exact K
  | a ro k =>
   refine QK ?_;refine(gC ih) k (zJ hd) hf.1 hf.2.1 (qF hf.2.2 (by decide)) h4' M hM G _ ?_;refine UZ (zK (LD hl)) ?_;exact UZ hl K
  | t ro l =>
   have l3:=iG hf.2;rw[qH]at l3;refine QK ?_;refine ft (by rw[x5,qH]; exact qF l3 (by decide)) ?_;refine LC lC gQ .str id (x5 l) (fun q hq K' hK=>?_) ?_
   ·have fq:=kF.mp hf.1 q hq;refine⟨UA (tO hf.2 _ (z5 hq)),?_⟩;refine(gC ih) q.1 (qF (pZ hq) (zJ hd)) fq.1 fq.2.1 (qF fq.2.2 (by decide)) h4' M hM G _ ?_;exact UZ (PH fq (tO hf.2 _ (z5 hq)) (qF (pZ hq) (qF (zK hd) h4))) hK
   ·refine⟨_,rfl,q43 hf (qF hd h4),?_⟩;rw[aD];refine UZ (zK (LD hl)) ?_;exact UZ hl K
def q0I{p:Pt}(hN:9<=N)(f:kO p)(hd:c6 p<=4)(K:Q (.str (word p)) ⟨G,[]⟩):y4 D N "_law_word" [] [jR p] Q ⟨G,[]⟩:=XL 4 p hd f (qT _) N hN G Q K
def NM{k:Kd}(hN:10<=N)(h:xB k)(hn:nl k<=54)(K:Q (.str (text k)) ⟨G,[]⟩):y4 D N "_law_text" [] [.lst (jL k)] Q ⟨G,[]⟩:=gC (XL 4) k h.dp h.fit h.can hn (qT _) N hN G Q K
end
noncomputable def VU:List Sx:=match dR.body with
 | [_,.for_ _ _ b,_]=>b
 | _=>[]
section
variable{q8:List yD}{G:xF}{N n M:Nat}{Q:Kv}{t i:Int}{k:Kd}{ρ:y5}{K:Kf}{L:List V}{p:Pt}
def XT(q8:List yD)(G:xF)(n:Nat):Prop:=∀(k:Kd),Z1 k<=n->xL k->wW k->nl k<=54->n<=4->∀(N:Nat),n+2<=N->∀(t:Int)(Q:Kv),wO q8 t k->Q (.str (text k)) (tS q8 G [])->y4 D N "_law_read" [] [.ref true 0,.int t] Q (tS q8 G [])
def PJ(b:Bool){X:V->Prop}(h:X (.str (if b then[33]else[]))):ZE .mulS (.str [33]) (.int (aZ b)) X:=by
 cases b <;> exact h
def q1S(b:Bool){l:List Nat}(h:l.length<=1000):(l++if b then[33]else[]).length<=lim:=by
 rw[qM];exact qF (Nat.add_le_add h (by cases b <;> decide:(if b then[33]else[]:List Nat).length<=1)) (by decide)
def RY{C:yA}{x:Un}(hl:q8.length<=lim)(hs:xS q8 i (.u x))(fl:∀v:V,(L++[v]).length<=lim)(e1:ρ "tab"=some (.ref true 0)) (e2:ρ "out"=some (.ref false 0)) (e3:ρ "part"=some (.int i))
  (k:∀v,K .next (y5.set ρ "row" v) (tS q8 G [some (.list (L++[.str x.word]))])):xA (xP D C) VU ρ K (tS q8 G [some (.list L)]):=by
 refine lo e1 ?_;refine lo e3 ?_;refine gr hs hl ?_;cases x with
 | num b g =>
  refine lo e2 ?_;refine QK ?_;refine PJ g ?_;refine UZ (q1S g (by decide:1<=1000)) (ft (fl _) ?_);exact((by cases b <;> cases g <;> rfl:([MZ b]++if g then[33]else[]:List Nat)=(Un.num b g).word))▸k _
 | str g =>
  refine lo e2 ?_;refine PJ g ?_;refine UZ (q1S g (by decide:3<=1000)) (ft (fl _) ?_);exact((by cases g <;> rfl:([39]++[97]++[39]++if g then[33]else[]:List Nat)=(Un.str g).word))▸k _
 | _=>exact lo e2 (ft (fl _) (k _))
def RW{C:yA}{ro:Bool}{kk:List Pt}(hl:q8.length<=lim)(hs:xS q8 i (.a ro kk))(wl:(word (.a ro kk)).length<=lim)(fl:∀v:V,(L++[v]).length<=lim)(e1:ρ "tab"=some (.ref true 0)) (e2:ρ "out"=some (.ref false 0)) (e3:ρ "part"=some (.int i))
  (T:∀e(Q:Kv),wO q8 e kk->Q (.str (text kk)) (tS q8 G [])->C "_law_read" [] [.ref true 0,.int e] Q (tS q8 G []))
  (k:∀v,K .next (y5.set ρ "row" v) (tS q8 G [some (.list (L++[.str (word (.a ro kk))]))])):xA (xP D C) VU ρ K (tS q8 G [some (.list L)]):=by
 refine lo e1 ?_;refine lo e3 ?_;refine qG fun ng=>v4 hs fun e ids z=>ng ?_;refine gr z.1 hl ?_;refine lo e2 ?_;refine QK ?_;refine lo e1 ?_;refine T e _ ⟨ids,z.2⟩ ?_;refine UZ (zK (LD wl)) ?_;exact UZ wl (ft (fl _) (k _))
def RX{C:yA}{ro:Bool}{l:vB}(hl:q8.length<=lim)(hs:xS q8 i (.t ro l))(f:kO (.t ro l))(d:c6 (.t ro l)<=4)(wl:(word (.t ro l)).length<=lim)(fl:∀v:V,(L++[v]).length<=lim)(e1:ρ "tab"=some (.ref true 0)) (e2:ρ "out"=some (.ref false 0)) (e3:ρ "part"=some (.int i))
  (T:∀q∈l,∀e(Q:Kv),wO q8 e q.1->Q (.str (text q.1)) (tS q8 G [])->C "_law_read" [] [.ref true 0,.int e] Q (tS q8 G []))
  (k:∀v w,K .next (y5.set (y5.set ρ "row" v) "words" w) (tS q8 G [some (.list (L++[.str (word (.t ro l))]))])):xA (xP D C) VU ρ K (tS q8 G [some (.list L)]):=by
 refine lo e1 ?_;refine lo e3 ?_;have l3:=iG f.2;rw[qH]at l3;refine qG fun ng=>hs.elim fun es z=>ng ?_;refine gr z.1 hl ?_;have h2:=z.2;clear z;refine qG fun ng=>?_;obtain⟨z,rfl,rfl,z3⟩:=b7 h2;refine ng ?_;rw[qH]at l3;refine ft (by rw[qH,qH]; exact qF l3 (by decide)) ?_;refine LC (fun q:(Int×Int)×(List Pt×Int)=>jA q.1) (fun q=>gQ q.2) .str id (qY ..) (fun q hq K' hK=>?_) ?_
 ·have hq2:=z5 (f:=fun q:(Int×Int)×(List Pt×Int)=>q.2) hq;refine⟨((z3 q hq).1)▸UA (tO f.2 _ (z5 hq2)),?_⟩;refine lo e1 ?_;refine T q.2 hq2 q.1.1 _ (z3 _ hq).2 ?_;exact(((z3 q hq).1))▸(UZ (PH (kF.mp f.1 q.2 hq2) (tO f.2 _ (z5 hq2)) (qF (z9 (Nat.lt_succ_of_le (pZ hq2))) d)) hK)
 ·refine lo e2 ?_;refine QK ?_;rw[show(z.map fun q=>gQ q.2)=(z.map (·.2)).map gQ from(qY (f:=fun q:(Int×Int)×(List Pt×Int)=>q.2) (g:=gQ) (l:=z)).symm];refine⟨_,rfl,q43 f d,?_⟩;rw[aD];refine UZ (zK (LD wl)) ?_;exact UZ wl (ft (fl _) (k _ _))
def OD{C:yA}(hl:q8.length<=lim)(hs:xS q8 i p)(f:kO p)(d:c6 p<=4)(ll:L.length<lim)(e1:ρ "tab"=some (.ref true 0)) (e2:ρ "out"=some (.ref false 0)) (e3:ρ "part"=some (.int i))
  (T:∀k e(Q:Kv),wO q8 e k->Z1 k<c6 p->xL k->wW k->nl k<=2->Q (.str (text k)) (tS q8 G [])->C "_law_read" [] [.ref true 0,.int e] Q (tS q8 G []))
  (k:∀ρ',Ag ["row","words"] ρ ρ'->K .next ρ' (tS q8 G [some (.list (L++[.str (word p)]))])):xA (xP D C) VU ρ K (tS q8 G [some (.list L)]):=by
 have fl:∀x:V,(L++[x]).length<=lim:=fun x=>qM.symm▸ll;refine qG fun ng=>?_;cases p with
 | u x=>exact ng (RY hl hs fl e1 e2 e3 (fun v=>k _ (Ag.set (fun z0 z0=>rfl) rfl)))
 | a ro kk=>exact ng (RW hl hs (qF (aY 4 _ d f) (by decide:wl 4<=lim)) fl e1 e2 e3 (fun e Q h=>T kk e Q h (Nat.lt_succ_self _) f.1 f.2.1 f.2.2) (fun v=>k _ (Ag.set (fun z0 z0=>rfl) rfl)))
 | t ro l=>exact ng (RX hl hs f d (qF (aY 4 _ d f) (by decide:wl 4<=lim)) fl e1 e2 e3 (fun q hq e Q h=>have fq:=kF.mp f.1 q hq; T q.1 e Q h (Nat.lt_succ_of_le (pZ hq)) fq.1 fq.2.1 fq.2.2) fun v w=>k _ (Ag.set (Ag.set (fun z0 z0=>rfl) rfl) rfl))
def TH(hb:FIRST16 <+: q8)(hl:q8.length<=lim){n:Nat}(IH:∀m,m<n->XT q8 G m):XT q8 G n:=fun k hd hf hc hn h4 N hN t Q hs K=>by
 refine qG fun ng=>?_;refine wI (hs) fun ids s1 s2=>?_;refine ng ?_;refine cm hN (d:=dR) rfl rfl fun M hM=>?_;refine nU (lv hM) (xX hb) hl s1 s2 fun is pm z0=>?_;obtain⟨z,rfl,z2,z3⟩:=cB s1 pm;have zl:z.length<64:=qI (qK ((qH ..).symm.trans z2.length_eq)) (bH hc hn (qT _));refine lg ["part","row","words"] (fun q:Int×Pt=>.int q.1) (fun dn:List Pt=>tS q8 G [some (.list (vS (dn.map word)))]) (fun r dn=>dn++r.map (·.2)=z.map (·.2)/\∀q∈r,q∈z) (l:=z) (g0:=[]) (qY ..) (fun f dn h=>?_) (fun q r f dn h W w=>?_) ⟨rfl,fun z0 h=>h⟩
 ·have e:sortS (dn.map word)=k.map word:=by
   exact(vN ((((qS dn).symm.trans h.1)▸z2:dn.Perm k).symm.map word) ((i0 hc.1)▸nZ (k.map word))).symm
  refine⟨dn.map word,rfl,?_,?_⟩
  ·rw[qH,(qS dn).symm.trans h.1,qH]; exact zl
  rw[e];refine⟨_,rfl,ND (qH (f:=word) (as:=k)▸II (f:=word) (t:=uJ) rfl (fun z0 z0=>rfl) k) (qF (JN k fun p hp z0=>gD 4 k (qF hd h4) hf p hp) (qF (Nat.add_le_add (z4 10 (tJ (aU hc.1.nodup))) (z4 _ hn)) (by decide))),?_⟩;rw[i7];exact K
 ·refine OD hl (z3 q (h.2 q (.head _))) (yM.mp hf _ (((fun q hq=>z2.mem_iff.mp (z5 hq):∀q∈z,q.2∈k)) q (h.2 q (.head _)))) (qF (uG (((fun q hq=>z2.mem_iff.mp (z5 hq):∀q∈z,q.2∈k)) q (h.2 q (.head _)))) (qF hd h4)) (by rw[qH,qH]; exact Nat.lt_trans ((qI (qF (qJ _ _) (qK (qM.symm.trans ((congrArg List.length h.1).trans (qH ..))))) zl:dn.length<64)) (by decide)) rfl rfl rfl (fun kk e Q' s hd' hf' hc' hn' K'=>?_) fun ρ' a=>?_
  ·exact IH _ (qQ hd' (qF (uG (((fun q hq=>z2.mem_iff.mp (z5 hq):∀q∈z,q.2∈k)) q (h.2 q (.head _)))) hd)) kk (qT _) hf' hc' (qF hn' (by decide)) (qF (z9 (qQ hd' (qF (uG (((fun q hq=>z2.mem_iff.mp (z5 hq):∀q∈z,q.2∈k)) q (h.2 q (.head _)))) hd))) h4) M (qF (z7 (qQ hd' (qF (uG (((fun q hq=>z2.mem_iff.mp (z5 hq):∀q∈z,q.2∈k)) q (h.2 q (.head _)))) hd))) hM) e Q' s K'
  ·exact(show vS (dn.map word)++[V.str (word q.2)]=vS ((dn++[q.2]).map word)by rw[qU,vS,vS,qU]; rfl)▸(w ρ' (dn++[q.2]) (Ag.tr (.set .mix rfl) a rfl) ⟨(qZ dn [q.2] _).trans h.1,fun x hx=>h.2 x (.tail _ hx)⟩)
def PK{k:Kd}(hN:6<=N)(hb:FIRST16 <+: q8)(hl:q8.length<=lim)(hk:xB k)(hn:nl k<=54)(hs:wO q8 t k)(K:Q (.str (text k)) (tS q8 G [])):y4 D N "_law_read" [] [.ref true 0,.int t] Q (tS q8 G []):=by
 exact(fun n=>Nat.strongRecOn n fun n ih=>TH hb hl ih:∀n,XT q8 G n) 4 k hk.dp hk.fit hk.can hn (qT _) N hN t Q hs K
end
def u8(ps:List Pt):Prop:=∀p∈ps,kO p/\c6 p<=4
section
variable{k ps l:List Pt}{q:List Pt×Int}{p:Pt}
def o4{n:Nat}(h:∀p∈k,c6 p<=n):Z1 k<=n:=by
 induction k with
 | nil=>exact zA _
 | cons p r ih=>exact Nat.max_le.mpr ⟨h p (.head _),ih fun q hq=>h q (.tail _ hq)⟩
def WF{l:vB}{n:Nat}(h:∀q∈l,Z1 q.1<=n):q2O l<=n:=by
 induction l with
 | nil=>exact zA _
 | cons p r ih=>exact Nat.max_le.mpr ⟨h p (.head _),ih fun q hq=>h q (.tail _ hq)⟩
def xB.pt(h:xB k):u8 k:=fun p hp=>⟨yM.mp h.fit p hp,qF (uG hp) h.dp⟩
def u8.kok(h:u8 k)(c:wW k):xB k:=⟨yM.mpr fun p hp=>(h p hp).1,c,o4 fun p hp=>(h p hp).2⟩
def u8.tags(h:u8 k):yY k=true:=xW fun p hp=>wS (h p hp).1
def u8.app(h:u8 k)(h':u8 l):u8 (k++l):=fun p hp=>(zH.mp hp).elim (h p) (h' p)
def DR(nd:l.Nodup)(h:∀p∈l,p∈ps):nl l<=nl ps :=
 List.Nodup.length_le_of_subset (List.Pairwise.filter _ nd) fun p hp=>zO.mpr ⟨h p (zO.mp hp).1,(zO.mp hp).2⟩
def u8.join(h:u8 ps):xB (yF ps)/\nl (yF ps)<=nl ps :=
 have m:=fun p hp=>((xE h.tags p).mp hp).1
 ⟨u8.kok (fun p hp=>h p (m p hp)) (rP h.tags),DR (jO h.tags).nodup m⟩
def aB:u8 jB:=fun p hp=>qO.mp hp▸⟨trivial,zA _⟩
def w9(h:xB q.1):xB (yR q)/\nl (yR q)<=nl q.1:=by
 unfold yR
 by_cases e:q.2=1
 ·rw[if_pos e];exact⟨((h.pt.app aB).join).1,qF ((h.pt.app aB).join).2 (qK vY)⟩
 ·rw[if_neg e];exact⟨h,qT _⟩
def cC(h:xB k):xB (kU k)/\nl (kU k)<=nl k:=by
 have r:=fun p hp=>nW (yM.mp h.fit p hp);exact⟨((u8.join fun p hp=>(zC.mp hp).elim fun q z=>z.2▸⟨(r q z.1).1,qF (r q z.1).2.1 (h.pt q z.1).2⟩:xB (yF (k.map reg))/\_)).1,qF ((u8.join fun p hp=>(zC.mp hp).elim fun q z=>z.2▸⟨(r q z.1).1,qF (r q z.1).2.1 (h.pt q z.1).2⟩:xB (yF (k.map reg))/\_)).2 (qK (WZ fun p hp=>(r p hp).2.2))⟩
def yH(h:xB k):xB (yE k)/\nl (yE k)<=nl k :=
 ⟨u8.kok (fun p hp=>h.pt p (zO.mp hp).1) (iX h.can _),DR (List.Pairwise.filter _ h.nodup) fun p hp=>(zO.mp hp).1⟩
end
noncomputable def M4:List (List Int):=[2]::FT
def c0:∀{s:List Int},s∈M4->s.length<=3:=by unfold M4 FT; decide
def MA{s:List Int}(h:s∈M4){n m:Nat}(hn:n<4)(hm:m<4):cut s n m∈M4:=by
 exact(by unfold M4 FT; decide:∀s∈M4,∀n<4,∀m<4,cut s n m∈M4) s h n hn m hm
set_option genCtorIdx false in
structure bE (l:vB):Prop where
 tag:l.map (·.2)∈M4
 k:∀q∈l,xL q.1/\wW q.1/\nl q.1<=2
 dp:∀q∈l,Z1 q.1<=3
section
variable{l m:vB}{as:List Int}{q:List Pt×Int}{p:Pt}
def bE.len(h:bE l):l.length<=3:=qH (f:=(·.2)) (as:=l)▸c0 h.tag
def bE.kok(h:bE l)(hq:q∈l):xB q.1:=⟨(h.k q hq).1,(h.k q hq).2.1,Nat.le_succ_of_le (h.dp q hq)⟩
def jP:∀{p},kO p->c6 p<=4->yO p=some l->bE l
 | .a _ k,f,d,e=>qN e▸⟨.head _,fun q hq=>qO.mp hq▸f,fun q hq=>qO.mp hq▸zJ d⟩
 | .t _ _,f,d,e=>qN e▸⟨.tail _ f.2,kF.mp f.1,fun q hq=>qF (pZ hq) (zJ d)⟩
def uD{α:Type}{l:List α}{n m:Nat}{x:α}(h:x∈cut l n m):x∈l:=List.mem_of_mem_take (List.mem_of_mem_drop h)
def vG{α β:Type}{f:α->β}{l:List α}{n m:Nat}:cut (l.map f) n m=(cut l n m).map f:=by unfold cut; rw[<-List.map_take,<-List.map_drop]
def KL{α:Type}{l:List α}{n m:Nat}:(cut l n m).length<=l.length:=by
 unfold cut;rw[List.length_drop];exact qF (Nat.sub_le ..) (List.length_take_le' ..)
def bE.cut(h:bE l){n m:Nat}(hn:n<=3)(hm:m<=3):bE (cut l n m):=⟨vG▸MA h.tag (Nat.lt_succ_of_le hn) (Nat.lt_succ_of_le hm),fun q hq=>h.k q (uD hq),fun q hq=>h.dp q (uD hq)⟩
def oC(h:bE l):u8 (l.flatMap yR):=fun p hp=>(List.mem_flatMap.mp hp).elim fun q z=>(w9 (h.kok z.1)).1.pt p z.2
def V7{l:vB}(h:∀q∈l,nl (yR q)<=2):nl (l.flatMap yR)<=l.length*2:=by
 induction l with
 | nil=>exact zA _
 | cons q r ih =>
  rw[List.flatMap_cons,vY,List.length_cons,YJ];exact Nat.add_le_add (h q (.head _)) (ih fun x hx=>h x (.tail _ hx))
def jV(h:bE l):xB (yF (l.flatMap yR))/\nl (l.flatMap yR)<=6/\nl (yF (l.flatMap yR))<=6 :=
 ⟨(oC h).join.1,(qF (V7 fun q hq=>qF (w9 (h.kok hq)).2 (h.k q hq).2.2) (z4 2 h.len)),qF (oC h).join.2 (qF (V7 fun q hq=>qF (w9 (h.kok hq)).2 (h.k q hq).2.2) (z4 2 h.len))⟩
def j6(t:List Int):yS t<=t.length:=by
 induction t with
 | nil=>exact qT _
 | cons g r ih =>
  unfold yS
  by_cases e:1<g
  ·rw[if_pos e]; exact zA _
  ·rw[if_neg e]; exact z7 ih
def pE:∀{l:vB},l.map (·.2)=[2]->∃k,l=[(k,2)]/\xO l=some k
 | [(k,g)],e=>by cases (List.cons.inj e).1; exact⟨k,rfl,rfl⟩
def jF{l:vB}{k:Kd}(e:xO l=some k):l=[(k,2)]:=by
 match l,e with
 | [(k',g)],e =>
  by_cases h:g=2
  ·rw[h]; exact congrArg (fun k=>[(k,2)]) (qN ((if_pos h).symm.trans e))
  ·exact wF ((if_neg h).symm.trans e)
def tZ(h:bE l){i:Nat}{g:Kd}(e:wK l as i=some g):xB g/\nl g<=6:=by
 have hc:bE (left l as):=h.cut ((qF (Nat.min_le_left ..) (qF (j6 _) (c0 h.tag)):gL (l.map (·.2)) as<=3)) (qF (Nat.sub_le ..) h.len);have one:∀{j:Nat},(l[j]?).map yR=some g->xB g/\nl g<=6:=fun e=>by
  obtain⟨q,hq,rfl⟩:=zN.mp e;have m:=List.mem_of_getElem? hq;exact⟨(w9 (h.kok m)).1,qF (w9 (h.kok m)).2 (qF (h.k q m).2.2 (by decide))⟩
 unfold wK t6 at e
 split at e
 ·exact one e
 ·split at e
  ·exact one e
  ·split at e
   ·rename_i k hs
    have m:(k,(2:Int))∈left l as:=jF hs▸.head _
    split at e
    ·exact qN e▸⟨g7 (hc.k _ m) (z7 (hc.dp _ m)),z8 rfl⟩
    ·exact qN e▸⟨hc.kok m,qF (hc.k _ m).2.2 (by decide)⟩
   ·rename_i hs
    split at e
    ·have f:(left l as).map (·.2)∈FT:=(qV.mp hc.tag).resolve_left fun z=>(pE z).elim fun k w=>wF (hs.symm.trans w.2);exact qN e▸⟨g7 ⟨kF.mpr hc.k,f⟩ (z7 (WF hc.dp)),z8 rfl⟩
    ·split at e
     ·exact qN e▸⟨(jV hc).1,(jV hc).2.2⟩
     ·exact wF e
end
mutual
noncomputable def tH:yK->Nat
 | .n=>1
 | .i _=>1
 | .a x=>tH x+1
 | .t l=>NI l+1
noncomputable def NI:List (yK×Int)->Nat
 | []=>0
 | (x,_)::r=>tH x+NI r
end
noncomputable def GQ:yD->Bool
 | .key _=>true | .num _ _=>true | .par _=>true | .arr _ _=>true | .tpl _ _=>true
 | _=>false
noncomputable def dB:yD->List Int
 | .arr e _=>[e]
 | .tpl es _=>es.map (·.1)
 | _=>[]
def wJ(q8:List yD)(t:Int)(α:yK):Prop:=yL q8 t α\/(α=.n/\∃s,y9 q8 t=some (.key s))
noncomputable def JL(z:List (Int×yK)):Nat:=(z.map fun q=>tH q.2).sum
section
variable{q8:List yD}{ps:List Int}{G:xF}{N M:Nat}{Q:Kv}{α β:yK}{t:Int}{z z':List (Int×yK)}{S:List Int}{r:yD}
def QP:∀α:yK,1<=tH α
 | .n=>qT _
 | .i _=>qT _
 | .a _=>qP ..
 | .t _=>qP ..
def mB:JL (z++z')=JL z+JL z':=by unfold JL; rw[qU,List.sum_append]
def QQ:z.length<=JL z:=by
 induction z with
 | nil=>exact qT _
 | cons q r ih=>exact qF (Nat.add_le_add ih (QP q.2)) (qK (Nat.add_comm ..))
def g6(h:wJ q8 t α):∃r z,y9 q8 t=some r/\GQ r=true/\dB r=z.map (·.1)/\(∀q∈z,wJ q8 q.1 q.2/\(xD ps q.2=true->xD ps α=true))/\JL z+1=tH α/\(∀x,r=.par x->α=.i x)/\(xD ps α=true->(∃x,r=.par x/\x∈ps)\/∃q∈z,xD ps q.2=true):=by
 rcases h with h | ⟨rfl,s,e⟩
 ·cases α with
  | n=>exact⟨_,[],h,rfl,rfl,yV,rfl,fun z0 e=>yD.noConfusion e,wQ⟩
  | i x=>exact⟨_,[],h,rfl,rfl,yV,rfl,fun z0 e=>congrArg yK.i (yD.par.inj e),fun m=>.inl ⟨x,rfl,qX.mp m⟩⟩
  | a x=>exact v4 h fun e ro h=>⟨_,[(e,x)],h.1,rfl,rfl,fun q hq=>qO.mp hq▸⟨.inl h.2,id⟩,rfl,fun z0 e=>yD.noConfusion e,fun m=>.inr ⟨_,.head _,m⟩⟩
  | t l =>
   refine qG fun ng=>?_;refine mG (h) fun es ro e h=>?_;refine ng ?_;have H:∀(l:List (yK×Int))(es:List (Int×Int)),uU q8 es l->∃z:List (Int×yK),es.map (·.1)=z.map (·.1)/\(∀q∈z,wJ q8 q.1 q.2/\(xD ps q.2=true->lW ps l=true))/\JL z=NI l/\(lW ps l=true->∃q∈z,xD ps q.2=true):=by
    intro l
    induction l with
    | nil=>exact fun es h=>by cases es with
     | nil=>exact⟨[],rfl,yV,rfl,wQ⟩
     | cons _ _=>exact h.elim
    | cons y l ih=>exact fun es h=>by cases es with
     | nil=>exact h.elim
     | cons q es=>exact(ih es h.2.2).elim fun z w=>⟨(q.1,y.1)::z,congrArg _ w.1,zB.mpr ⟨⟨.inl h.2.1,fun m=>Bool.or_eq_true_iff.mpr (.inl m)⟩,fun x hx=>⟨(w.2.1 x hx).1,fun m=>Bool.or_eq_true_iff.mpr (.inr ((w.2.1 x hx).2 m))⟩⟩,congrArg (tH y.1+·) w.2.2.1,fun m=>(Bool.or_eq_true_iff.mp m).elim (fun m=>⟨_,.head _,m⟩) fun m=>(w.2.2.2 m).elim fun x hx=>⟨x,.tail _ hx.1,hx.2⟩⟩
   exact(H l es h).elim fun z w=>⟨_,z,e,rfl,w.1,w.2.1,congrArg Nat.succ w.2.2.1,fun z0 e=>yD.noConfusion e,fun m=>.inr (w.2.2.2 m)⟩
 ·exact⟨_,[],e,rfl,rfl,yV,rfl,fun z0 e=>yD.noConfusion e,wQ⟩
def HE{tv:V}{σ:xF}(hN:1<=N)(ho:g9 tv=true)(hr:GQ r=true)(hl:(dB r).length<=lim)(K:Q (.lst (vI (dB r))) ⟨σ,[]⟩):y4 D N "inner_kids" [] [tv,.tup r.enc] Q ⟨σ,[]⟩:=by
 refine cm hN (d:=pV) rfl rfl fun M hM=>?_;cases r with
 | tpl es ro =>
  refine ft (qF (qK ((qH ..).trans (qH ..).symm)) hl) ?_;refine aW jA (fun q=>.int q.1) id rfl (fun q z0 K' hK=>hK) ?_;rw[show(es.map fun q=>V.int q.1)=vI (es.map (·.1))from(qY ..).symm];exact K
 | key _=>exact K
 | num _ _=>exact K
 | par _=>exact K
 | arr _ _=>exact K
 | _=>exact wQ hr
end
set_option genCtorIdx false in
structure RI (q8:List yD) (ps:List Int) (α:yK) (t:Int) (S:List Int) (z:List (Int×yK)):Prop where
 wk:∀q∈z,wJ q8 q.1 q.2/\(xD ps q.2=true->xD ps α=true)
 len:S.length+JL z<=tH α
 nd:S.Nodup
 sp:∀i∈S,∃β,wJ q8 i β/\(xD ps β=true->xD ps α=true)
 cl:∀i∈S,∀r,y9 q8 i=some r->∀j∈dB r,j∈S\/j∈z.map (·.1)
 tt:t∈S\/t∈z.map (·.1)
set_option genCtorIdx false in
structure q78 (q8:List yD) (ps:List Int) (α:yK) (t:Int) (is:List Int):Prop where
 len:is.length<64
 sp:∀i∈is,∃β,wJ q8 i β/\(xD ps β=true->xD ps α=true)
 cl:∀i∈is,∀r,y9 q8 i=some r->∀j∈dB r,j∈is
 tt:t∈is
section
variable{q8:List yD}{ps:List Int}{G:xF}{N M:Nat}{Q:Kv}{α β:yK}{t i:Int}{z z':List (Int×yK)}{S:List Int}{r:yD}
def RI.drop(R:RI q8 ps α t S (z++[(i,β)]))(h:i∈S):RI q8 ps α t S z:=by
 have m:∀{j:Int},j∈S\/j∈(z++[(i,β)]).map (·.1)->j∈S\/j∈z.map (·.1):=fun h'=>h'.elim .inl fun y=>by
  rw[qU]at y;exact(zH.mp y).elim .inr fun y=>.inl (qO.mp y▸h)
 exact⟨fun q hq=>R.wk q (List.mem_append_left _ hq),qF (qL (mB (z':=[(i,β)])▸qJ ..) _) R.len,R.nd,R.sp,fun j hj r hr x hx=>m (R.cl j hj r hr x hx),m R.tt⟩
def RI.more(R:RI q8 ps α t S (z++[(i,β)]))(h:i∉S)(hr:y9 q8 i=some r)(ek:dB r=z'.map (·.1))(kk:∀q∈z',wJ q8 q.1 q.2/\(xD ps q.2=true->xD ps β=true))(es:JL z'+1=tH β):RI q8 ps α t (S++[i]) (z++z'):=by
 have m:∀{j:Int},j∈S\/j∈(z++[(i,β)]).map (·.1)->j∈S++[i]\/j∈(z++z').map (·.1):=fun h'=>h'.elim (fun y=>.inl (List.mem_append_left _ y)) fun y=>by
  rw[qU]at y ⊢;exact(zH.mp y).elim (fun y=>.inr (List.mem_append_left _ y)) fun y=>.inl (zM _ y)
 refine⟨fun q hq=>(zH.mp hq).elim (fun y=>R.wk q (List.mem_append_left _ y)) fun y=>⟨(kk q y).1,fun e=>(R.wk (i,β) (zM _ (.head _))).2 ((kk q y).2 e)⟩,?_,?_,fun j hj=>(zH.mp hj).elim (R.sp j) fun y=>qO.mp y▸⟨β,(R.wk (i,β) (zM _ (.head _)))⟩,fun j hj r' hr' x hx=>(zH.mp hj).elim (fun y=>m (R.cl j y r' hr' x hx)) fun y=>?_,m R.tt⟩
 ·have l:=R.len;rw[mB,show JL [(i,β)]=tH β from rfl,<-es]at l;exact(qM)▸(mB)▸(qF (qK (by rw[List.length_singleton]; ac_rfl)) l)
 ·exact List.nodup_append.mpr ⟨R.nd,List.nodup_cons.mpr ⟨qW,.nil⟩,fun a ha b hb e=>h (qO.mp hb▸e▸ha)⟩
 ·cases (qO.mp y:j=i);cases hr.symm.trans hr';exact .inr (qU▸zM _ (ek▸hx))
noncomputable abbrev rS(q8:List yD)(G:xF)(g:List Int×List (Int×yK)):St:=tS q8 G [some (.dI (vL g.1)),some (.list (vI (g.2.map (·.1))))]
noncomputable def q8L:Sx->List Sx
 | .whl _ b=>b
 | _=>[]
def SR{l:List V}{a:V}:(l++[a]).isEmpty=false:=by cases l <;> rfl
def RV{K:Kf}{W:y5->St->Prop}{f:y5}(hM:1<=M)(hz:tH α<64)(hl:q8.length<=lim)(R:RI q8 ps α t S (z++[(i,β)]))(zL:(vI (z.map Prod.fst)++[V.int i]).length<=lim)(sl:S.length<64)
  (w:∀ρ(g':List Int×List (Int×yK)),Ag ["at"] (y5.set (y5.set (y5.set (y5.set xV "tab" (.ref true 0)) "t" (.int t)) "seen" (.ref false 0)) "waiting" (.ref false 1)) ρ->RI q8 ps α t g'.1 g'.2->JL g'.2<JL z+(tH β+0)->W ρ (rS q8 G g')) :
  wt (xP D (y4 D M)) (.loc "waiting") (y5.mix (y5.set (y5.set (y5.set (y5.set xV "tab" (.ref true 0)) "t" (.int t)) "seen" (.ref false 0)) "waiting" (.ref false 1)) ["at"] f) (fun b σ=>bb b (xA (xP D (y4 D M)) (q8L (mP.body.getD 2 .bad)) (y5.mix (y5.set (y5.set (y5.set (y5.set xV "tab" (.ref true 0)) "t" (.int t)) "seen" (.ref false 0)) "waiting" (.ref false 1)) ["at"] f) (d6 W K) σ) (K .next (y5.mix (y5.set (y5.set (y5.set (y5.set xV "tab" (.ref true 0)) "t" (.int t)) "seen" (.ref false 0)) "waiting" (.ref false 1)) ["at"] f) σ)) (tS q8 G [some (.dI (vL S)),some (.list (vI (z.map (·.1))++[V.int i]))]):=by
 have wk:wJ q8 i β/\(xD ps β=true->xD ps α=true):=R.wk (i,β) (zM _ (.head _));refine qG fun ng=>?_;obtain⟨r,z',hr,ar,ek,kk,es,_⟩:=g6 (ps:=ps) wk.1;refine ng ?_;refine ft zL ?_;refine bt (b:=!(vI (z.map (·.1))++[V.int i]).isEmpty) (congrArg not SR) ?_;refine⟨_,_,rfl,ft zL ?_⟩;refine dt (((kW hr).elim fun n h=>h.1▸zD n:0<=i)) ?_;refine bc (b:=!(y8 (vL S) i).isSome) (fun h=>?_) fun h=>?_
 ·refine fd (by rw[vL,qH]; exact Nat.lt_trans sl (by decide)) ?_;refine gr hr hl ?_;refine HE hM rfl ar (qF (qK (by rw[ek,qH])) (qF (qF (qM (as:=z)▸qP ..) (z9 ((qI (qF QQ (qF (qP ..) (R.more ((fun m=>j0 ((congrArg not (fQ.trans (qX.mpr m))).symm.trans h |>.symm):i∉S)) hr ek kk es).len)) hz:(z++z').length<64)))) (by decide))) ?_;refine ft (((by rw[ek,qU,vI,vI,<-qU]:vI (z.map (·.1))++vI (dB r)=vI ((z++z').map (·.1))))▸((by rw[qH,qH]; exact qF (z9 ((qI (qF QQ (qF (qP ..) (R.more ((fun m=>j0 ((congrArg not (fQ.trans (qX.mpr m))).symm.trans h |>.symm):i∉S)) hr ek kk es).len)) hz:(z++z').length<64))) (by decide):(vI ((z++z').map (·.1))).length<=lim))) ?_;show W _ (tS q8 G [some (.dI (xQ (vL S) i (.int 1))),some (.list (vI (z.map (·.1))++vI (dB r)))]);exact(((by rw[ek,qU,vI,vI,<-qU]:vI (z.map (·.1))++vI (dB r)=vI ((z++z').map (·.1)))))▸(((q44.trans (congrArg vL (if_neg ((fun m=>j0 ((congrArg not (fQ.trans (qX.mpr m))).symm.trans h |>.symm):i∉S)))):xQ (vL S) i (.int 1)=vL (S++[i]))))▸(w _ (S++[i],z++z') (.set .mix rfl) (R.more ((fun m=>j0 ((congrArg not (fQ.trans (qX.mpr m))).symm.trans h |>.symm):i∉S)) hr ek kk es) (qI (qK mB) (Nat.add_lt_add_left (show JL z'<tH β+0 from es▸Nat.lt_succ_self _) _)))
 ·exact w _ (S,z) (.set .mix rfl) (R.drop ((qX.mp (fQ.symm.trans ((Bool.not_not _).symm.trans (congrArg not h))):i∈S))) (zG (QP β))
def TG(hN:2<=N)(hl:q8.length<=lim)(hx:wJ q8 t α)(hz:tH α<64)(K:∀is,q78 q8 ps α t is->Q (.lst (vI is)) (tS q8 G [])):y4 D N "reached" [] [.ref true 0,.int t] Q (tS q8 G []):=by
 refine cm hN (d:=mP) rfl rfl fun M hM=>?_;refine wh ["at"] (rS q8 G) (fun g=>RI q8 ps α t g.1 g.2) (fun g=>JL g.2) (fun f g R W w=>?_) (g0:=([],[(t,α)])) (Nat.lt_trans (show tH α+0<64 from hz) (by decide)) ⟨fun q hq=>qO.mp hq▸⟨hx,id⟩,qK (Nat.zero_add _),.nil,yV,yV,.inr (.head _)⟩;obtain⟨S,z⟩:=g;have sl:S.length<64:=qI (qF (qJ ..) R.len) hz;have zL:(vI (z.map (·.1))).length<=lim:=by rw[qH,qH]; exact z9 (Nat.lt_trans ((qI (qF QQ (qF (qP ..) R.len)) hz:z.length<64)) (by decide))
 rcases List.eq_nil_or_concat z with rfl | ⟨z,⟨i,β⟩,rfl⟩
 ·refine ft zL ?_;refine⟨S,congrArg vI Y9,sl,?_⟩;have pm:=xH S;exact K _ ⟨pm.length_eq▸sl,fun i hi=>R.sp i (pm.mem_iff.mp hi),fun i hi r hr j hj=>pm.mem_iff.mpr ((R.cl i (pm.mem_iff.mp hi) r hr j hj).resolve_right qW),pm.mem_iff.mpr (R.tt.resolve_right qW)⟩
 ·rw[List.concat_eq_append]at *;rw[((by rw[qU,vI,qU]; rfl:vI ((z++[(i,β)]).map (·.1))=vI (z.map (·.1))++[V.int i]))]at zL;have w':=fun ρ g' a h l=>w ρ g' a h (qQ l (qK mB.symm));show wt _ _ _ _ (tS q8 G [some (.dI (vL S)),some (.list (vI ((z++[(i,β)]).map (·.1))))]);exact(((by rw[qU,vI,qU]; rfl:vI ((z++[(i,β)]).map (·.1))=vI (z.map (·.1))++[V.int i])))▸(RV hM hz hl R zL sl w')
end
noncomputable def q3X:yD->Option Int
 | .par x=>some x
 | _=>none
noncomputable def a9(q8:List yD)(i:Int):Option Int:=(y9 q8 i).bind q3X
section
variable{q8:List yD}{ps is:List Int}{G:xF}{N M:Nat}{Q:Kv}{α β:yK}{t i:Int}{r:yD}
def CY{z:List (Int×yK)}{q:Int×yK}(h:q∈z):tH q.2<=JL z:=by
 induction h with
 | head=>exact qJ ..
 | tail _ _ ih=>exact qF ih (qP ..)
def ZH(cl:∀i∈is,∀r,y9 q8 i=some r->∀j∈dB r,j∈is)(n:Nat):∀(β:yK)(i:Int),tH β<=n->i∈is->wJ q8 i β->xD ps β=true->∃j∈is,∃x∈ps,y9 q8 j=some (.par x):=by
 induction n with
 | zero=>exact fun β z0 h=>absurd (qF (QP β) h) (Nat.not_succ_le_zero _)
 | succ n ih =>
  intro β i h hi hx m;refine qG fun ng=>?_;refine uL (g6 (ps:=ps) hx) fun r z hr z0 z=>q1I z fun ek kk es z0 mm=>?_;refine ng ?_;exact(mm m).elim (fun w=>w.elim fun x w=>⟨i,hi,x,w.2,w.1▸hr⟩) fun w=>w.elim fun q w =>
   ih q.2 q.1 (qF (CY w.1) (zJ (qF (qK es) h))) (cl i hi r hr _ (ek▸z5 w.1)) (kk q w.1).1 w.2
def B4(R:q78 q8 ps α t is)(hx:wJ q8 t α):(is.filterMap (a9 q8)).any ps.contains=xD ps α:=by
 rw[Bool.eq_iff_iff,List.any_eq_true]
 constructor
 ·rintro⟨x,hx,m⟩
  refine qG fun ng=>?_;refine wI (List.mem_filterMap.mp hx) fun i hi e=>?_;refine wI (R.sp i hi) fun β w1 w2=>?_;refine v4 (g6 (ps:=ps) w1) fun r z zz=>?_;refine ng ?_;unfold a9 at e;rw[zz.1]at e;cases r with
  | par y =>
   cases qN e;exact w2 (zz.2.2.2.2.2.1 _ rfl▸m)
  | _=>exact wF e
 ·intro m;refine qG fun ng=>?_;refine(ZH R.cl _ α t (qT _) R.tt hx m).elim fun j z=>z.elim fun hj z=>z.elim fun x z=>z.elim fun hx e=>?_;refine ng ?_;exact⟨x,List.mem_filterMap.mpr ⟨j,hj,by unfold a9; rw[e]; rfl⟩,qX.mpr hx⟩
def EE(hN:3<=N)(hl:q8.length<=lim)(hx:wJ q8 t α)(hz:tH α<64)(K:∀xs:List Int,xs.any ps.contains=xD ps α->Q (.tup (vI xs)) (tS q8 G [])):y4 D N "free_params" [] [.ref true 0,.int t] Q (tS q8 G []):=by
 refine cm hN (d:=d9) rfl rfl fun M hM=>?_;refine df ((v4 (g6 (ps:=ps) hx) fun r z0 z=>(kW z.1).elim fun n w=>w.1▸Int.not_lt.mpr (zD n):¬t<0)) ?_;refine TG (ps:=ps) hM hl hx hz fun is R=>?_;refine ft ((by rw[qH]; exact z9 (Nat.lt_trans R.len (by decide)):(vI is).length<=lim)) ?_;refine aW .int (fun z0=>.tup []) id rfl (fun i hi K' hK=>?_) ?_
 ·obtain⟨r,hr,ar⟩:=((fun i hi=>(R.sp i hi).elim fun β w=>(g6 (ps:=ps) w.1).elim fun r z=>z.elim fun z0 z=>⟨r,z.1,z.2.1⟩:∀i∈is,∃r,y9 q8 i=some r/\GQ r=true)) i hi;refine gr hr hl ?_;cases r <;> first | exact hK | exact wQ ar
 refine kt (z6.mpr fun x hx=>(zC.mp hx).elim fun y z=>z.2▸rfl) ?_;refine ft ((by rw[qH]; exact z9 (Nat.lt_trans R.len (by decide)):(vI is).length<=lim)) ?_;refine NY .int (fun i=>(a9 q8 i).map V.int) id rfl (fun i hi K' hK=>?_) ?_
 ·obtain⟨r,hr,ar⟩:=((fun i hi=>(R.sp i hi).elim fun β w=>(g6 (ps:=ps) w.1).elim fun r z=>z.elim fun z0 z=>⟨r,z.1,z.2.1⟩:∀i∈is,∃r,y9 q8 i=some r/\GQ r=true)) i hi;refine gr hr hl ?_;rw[(by unfold a9; rw[hr]; rfl:a9 q8 i=q3X r)]at hK;cases r with
  | par x=>exact gr hr hl hK
  | key _=>exact hK
  | num _ _=>exact hK
  | arr _ _=>exact hK
  | tpl _ _=>exact hK
  | _=>exact wQ ar
 refine⟨is.filterMap (a9 q8),List.map_filterMap.symm,((qI (List.length_filterMap_le ..) R.len:(is.filterMap (a9 q8)).length<64)),?_⟩;refine ft (by rw[qH,(xH (is.filterMap (a9 q8))).length_eq]; exact z9 (Nat.lt_trans ((qI (List.length_filterMap_le ..) R.len:(is.filterMap (a9 q8)).length<64)) (by decide))) ?_;refine K _ (Eq.trans ?_ (B4 R hx));rw[Bool.eq_iff_iff,List.any_eq_true,List.any_eq_true];exact exists_congr fun x=>and_congr (xH (is.filterMap (a9 q8))).mem_iff Iff.rfl
end
open Classical in
def iM(acc:List Pt)(p:Pt):List Pt:=if p∈acc then acc else acc++[p]
noncomputable def v8(l:List Pt):List (List Nat×V):=l.map fun p=>(word p,jR p)
open Classical in
def DD{p:Pt}(hp:dG p=true){l:List Pt}(hl:yY l=true):y8 (v8 l) (word p)=if p∈l then some (jR p)else none:=by
 induction l with
 | nil=>rfl
 | cons q r ih =>
  show(if word q=word p then some (jR q)else y8 (v8 r) (word p))=_;rw[ih (pM hl)]
  by_cases e:q=p
  ·rw[e,if_pos rfl,if_pos (.head _)]
  ·rw[if_neg fun z=>e (QZ (vT hl) hp z)]
   by_cases m:p∈r
   ·rw[if_pos m,if_pos (.tail _ m)]
   ·rw[if_neg m,if_neg fun z=>(qV.mp z).elim (fun z=>e z.symm) m]
def cR{acc:List Pt}{p q:Pt}:q∈iM acc p↔q∈acc\/q=p:=by
 unfold iM
 by_cases h:p∈acc
 ·rw[if_pos h]; exact⟨.inl,fun z=>z.elim id fun z=>z▸h⟩
 ·rw[if_neg h]; exact zH.trans (or_congr Iff.rfl qO)
def MH{acc:List Pt}{p:Pt}(h:acc.Nodup):(iM acc p).Nodup:=by
 unfold iM
 by_cases q:p∈acc
 ·rw[if_pos q]; exact h
 ·rw[if_neg q,List.nodup_append];exact⟨h,List.nodup_cons.mpr ⟨qW,.nil⟩,fun a ha b hb e=>q (qO.mp hb▸e▸ha)⟩
def q6X{p:Pt}{l:List Pt}(hp:dG p=true)(hl:yY l=true):xQ (v8 l) (word p) (jR p)=v8 (iM l p):=by
 unfold xQ iM;rw[DD hp hl]
 by_cases h:p∈l
 ·rw[if_pos h,if_pos h,if_pos (show(some (jR p)).isSome=true from rfl)];unfold v8;rw[qY];refine List.map_congr_left fun q hq=>?_
  by_cases e:word q=word p
  ·exact(if_pos e).trans (QZ (wU.mp hl q hq) hp e▸rfl)
  ·exact if_neg e
 ·rw[if_neg h,if_neg h];exact(qU (f:=fun p=>(word p,jR p)) (l₁:=l) (l₂:=[p])).symm
set_option genCtorIdx false in
structure Z7 (S acc:List Pt):Prop where
 nd:acc.Nodup
 sub:∀p∈acc,p∈S
section
variable{S acc:List Pt}{p:Pt}{σ:St}{G:xF}{N:Nat}{Q:Kv}{K:V->Prop}{x:Un}
def Z7.add(g:Z7 S acc)(h:p∈S):Z7 S (iM acc p):=⟨MH g.nd,fun q hq=>(cR.mp hq).elim (g.sub q) fun e=>e▸h⟩
def q66{q:Pt}{is acc:List Pt}:q∈is.foldl iM acc↔q∈acc\/q∈is:=by
 induction is generalizing acc with
 | nil=>exact⟨.inl,fun h=>h.elim id nofun⟩
 | cons i r ih=>exact ih.trans ((or_congr cR Iff.rfl).trans (or_assoc.trans (or_congr Iff.rfl qV.symm)))
def kG(hl:yY acc=true):(y8 (v8 acc) x.word).isSome=lG acc x:=by
 rw[Bool.eq_iff_iff,vV,show x.word=word (.u x)from rfl,DD rfl hl]
 by_cases m:Pt.u x∈acc
 ·rw[if_pos m]; exact⟨fun z0=>m,fun z0=>rfl⟩
 ·rw[if_neg m]; exact⟨nofun,fun z=>absurd z m⟩
def q32{s w:List Nat}{c:Nat}(e:s=c::w)(k:K (.str [c])):lH (s.map fun c=>V.str [c]) 0 K:=by subst e; exact k
def q3A{s w:List Nat}{d:Nat}(e:s=w++[d])(hs:s.length<=lim)(k:K (.str [d])):lH (s.map fun c=>V.str [c]) (-1) K:=by
 subst e;refine ft (by rw[qH]; exact hs) ?_;refine kt (by rw[(((qH ..).trans qM:((w++[d]).map fun c=>V.str [c]).length=w.length+1))]; exact Nat.ble_eq_true_of_le (z7 (zA _))) (sv (v:=.str [d]) ?_ k);rw[(((qH ..).trans qM:((w++[d]).map fun c=>V.str [c]).length=w.length+1)),qU];exact(List.getElem?_append_right (qK (qH ..))).trans (by rw[qH,Nat.sub_self]; rfl)
end
noncomputable def HL:List Nat:=[110,117,109,98,101,114]
set_option genCtorIdx false in
structure q10 (l:List Pt) (p:Pt) (w:List Nat) (d c:Nat):Prop where
 last:word p=w++[d]
 first:∃r,word p=c::r
 keep:jW l p=(!(decide ([d]=[33])&&(y8 (v8 l) w).isSome)&&!((c==48||c==49)&&(y8 (v8 l) HL).isSome))
def q64{l:List Pt}(hl:yY l=true):∀p:Pt,∃w d c,q10 l p w d c
 | .u .undef=>⟨_,100,117,⟨(List.dropLast_concat_getLast (l:=Un.undef.word) nofun).symm,⟨_,rfl⟩,rfl⟩⟩
 | .u .null=>⟨_,108,110,⟨(List.dropLast_concat_getLast (l:=Un.null.word) nofun).symm,⟨_,rfl⟩,rfl⟩⟩
 | .u .number=>⟨_,114,110,⟨(List.dropLast_concat_getLast (l:=Un.number.word) nofun).symm,⟨_,rfl⟩,rfl⟩⟩
 | .u (.num false false)=>⟨[],48,48,⟨rfl,⟨_,rfl⟩,congrArg not (kG (x:=.number) hl).symm⟩⟩
 | .u (.num true false)=>⟨[],49,49,⟨rfl,⟨_,rfl⟩,congrArg not (kG (x:=.number) hl).symm⟩⟩
 | .u (.num false true)=>⟨[48],33,48,⟨rfl,⟨_,rfl⟩,oZ (kG (x:=.num false false) hl).symm (kG (x:=.number) hl).symm⟩⟩
 | .u (.num true true)=>⟨[49],33,49,⟨rfl,⟨_,rfl⟩,oZ (kG (x:=.num true false) hl).symm (kG (x:=.number) hl).symm⟩⟩
 | .u (.str false)=>⟨[39,97],39,39,⟨rfl,⟨_,rfl⟩,rfl⟩⟩
 | .u (.str true)=>⟨[39,97,39],33,39,⟨rfl,⟨_,rfl⟩,(congrArg not (kG (x:=.str false) hl).symm).trans (Bool.and_true _).symm⟩⟩
 | .a ro k=>⟨65::MZ ro::40::text k,41,65,⟨rfl,⟨_,rfl⟩,rfl⟩⟩
 | .t ro k=>⟨84::MZ ro::40::eJ k,41,84,⟨rfl,⟨_,rfl⟩,rfl⟩⟩
section
variable{S acc:List Pt}{p:Pt}{σ:St}{G:xF}{N n:Nat}{Q:Kv}{K:V->Prop}{x:Un}
def QH{l:List Pt}(ht:yY l=true)(nd:l.Nodup):sortS (l.map word)=(JG l).map word:=by
 exact(vN (List.Perm.map _ ((List.perm_ext_iff_of_nodup (vO l ht).1.nodup nd).mpr (vO l ht).2)) (List.pairwise_map.mpr ((vO l ht).1.imp fun l=>fR _ _ l))).symm
def I1{l:List Pt}:(v8 l).map (·.1)=l.map word:=qY ..
noncomputable def o8:Sx->List Sx
 | .for_ _ _ b=>b
 | _=>[]
def q0J{l:List Pt}{w:List Nat}{d c:Nat}{L:List V}{ρ:y5}{K:Kf}{C:yA}(E:q10 l p w d c)(lk:y8 (v8 l) (word p)=some (jR p))(pl:(word p).length<=lim)(ll:L.length<lim)(e2:ρ "held"=some (.ref false 0)) (e3:ρ "out"=some (.ref false 1)) (ew:ρ "word"=some (.str (word p)))
  (k:∀t b,jW l p=b->K .next (y5.set ρ "twin" t) ⟨G,[some (.dS (v8 l)),some (.list (if b then L++[jR p]else L))]⟩) :
  xA C (o8 (kD.body.getD 3 .bad)) ρ K ⟨G,[some (.dS (v8 l)),some (.list L)]⟩:=by
 refine(E.first).elim fun r0 hr0=>?_;have e:=E.keep;have yes:∀tw,jW l p=true->xA C [Sx.ex (.m1 .append (.loc "out") (.b2 .subd (.loc "held") (.loc "word")))] (y5.set ρ "twin" tw) (SM (xA C []) K) ⟨G,[some (.dS (v8 l)),some (.list L)]⟩:=fun tw h=>by
  refine lo e3 ?_;refine lo e2 ?_;refine lo ew ?_;refine sv lk (ft ((qM.symm▸ll:(L++[jR p]).length<=lim)) ?_);exact k tw true h
 have rest:∀tw b,tw=V.bool b->((!b&&!((c==48||c==49)&&(y8 (v8 l) HL).isSome))=jW l p)->xA C ((o8 (kD.body.getD 3 .bad)).drop 1) (y5.set ρ "twin" tw) K ⟨G,[some (.dS (v8 l)),some (.list L)]⟩:=fun tw b h e=>by
  subst h;refine bc (b:=!b) (fun hb=>?_) fun hb=>k _ false (by rw[<-e,hb]; rfl);rw[hb]at e;refine lo ew ?_;refine q32 hr0 ⟨c,rfl,rfl,?_⟩;refine bc (fun hc=>?_) fun hc=>yes _ (by rw[<-e,hc]; rfl);rw[hc]at e;refine lo e2 ?_;exact bc (fun he=>k _ false (by rw[<-e,show(y8 (v8 l) HL).isSome=_ from he]; rfl)) fun he=>yes _ (by rw[<-e,show(y8 (v8 l) HL).isSome=_ from he]; rfl)
 refine lo ew ?_;refine q3A E.last pl ?_;refine dc (fun hA=>?_) fun hA=>rest _ _ rfl (by rw[e,decide_eq_false hA]; rfl);refine lo ew ?_;refine UZ pl ?_;refine lo e2 ?_;exact rest _ _ rfl (by rw[e,zU hA,((by rw[E.last,List.dropLast_concat]:(word p).dropLast=w))]; rfl)
noncomputable abbrev jS(G:xF)(l:List Pt)(L:List Pt):St:=⟨G,[some (.dS (v8 l)),some (.list (jL L))]⟩
def EX{l S:List Pt}{ρ:y5}{C:yA}(hS:∀p∈S,kO p/\c6 p<=4)(few:M5 S)(g:Z7 S l)(hm:∀p,p∈l↔p∈S)(e2:ρ "held"=some (.ref false 0)) (K:Q (.lst (jL (yF S))) ⟨G,[]⟩):xA C (kD.body.drop 2) ρ (uO Q) ⟨G,[some (.dS (v8 l))]⟩:=by
 have ht:yY S=true:=xW fun p z=>wS (hS p z).1;have ta:yY l=true:=xW fun p z=>wU.mp ht p (g.sub p z);have sp:=vO l ta;refine lo e2 ?_;refine⟨l.map word,congrArg vS I1,by rw[qH]; exact few l g.nd g.sub,?_⟩;rw[QH ta g.nd];refine lg ["word","twin"] (fun p:Pt=>V.str (word p)) (fun dn=>jS G l (dn.filter (jW l))) (fun r dn=>JG l=dn++r) (g0:=[]) (qY ..) (fun f dn f3=>?_) (fun p r f dn f3 W w=>?_) rfl
 ·have e:dn.filter (jW l)=yF S:=by
   refine cF (List.Pairwise.filter _ ((qS dn)▸f3▸sp.1)) (jO ht) fun p=>?_;rw[zO,xE ht,<-qS dn,<-f3,sp.2,hm,rQ hm]
  exact(show Q (.lst (jL (dn.filter (jW l)))) _ from e▸K)
 ·have pin:p∈l:=(sp.2 p).mp (f3▸zM _ (.head _));exact gE (q64 ta p) fun ww d c E=>q0J E ((DD (wS (hS p (g.sub p pin)).1) ta).trans (if_pos pin)) (qF (aY 4 p (hS p (g.sub p pin)).2 (hS p (g.sub p pin)).1) (by decide)) (qI (by rw[xU,qH]; exact List.length_filter_le ..) (Nat.lt_trans ((qI (qF (qJ _ _) (qK (qM.symm.trans (congrArg List.length f3).symm))) ((few _ sp.1.nodup fun p h=>g.sub p ((sp.2 p).mp h):(JG l).length<64)):dn.length<64)) (by decide))) e2 rfl rfl fun t b e =>
   (show(⟨G,[some (.dS (v8 l)),some (.list (if b then jL (dn.filter (jW l))++[jR p]else jL (dn.filter (jW l))))]⟩:St)=jS G l ((dn++[p]).filter (jW l))by
    rw[List.filter_append,List.filter_cons,e];cases b with
    | true =>
     unfold jS;rw[xU,xU,qU]; rfl
    | false=>exact congrArg (jS G l) (qS _).symm)▸w _ _ (.set (.set .mix rfl) rfl) (f3.trans (qZ dn [p] r).symm)
def EW{k acc:List Pt}{ρ:y5}{K':Kf}(hN:9<=N)(hS:∀p∈S,kO p/\c6 p<=4)(few:M5 S)(e2:ρ "held"=some (.ref false 0)) (hk:∀p∈k,p∈S) (g:Z7 S acc) (K:∀f acc',Z7 S acc'->(∀p,p∈acc'↔p∈acc\/p∈k)->K' .next (y5.mix ρ ["part"] f) ⟨G,[some (.dS (v8 acc'))]⟩) :
  r9 (.nm "part") (xA (xP D (y4 D N)) (o8 ((o8 (kD.body.getD 1 .bad)).getD 0 .bad))) K' (jL k) ρ ⟨G,[some (.dS (v8 acc))]⟩ :=
 lg ["part"] jR (fun acc:List Pt=>⟨G,[some (.dS (v8 acc))]⟩) (fun r a=>Z7 S a/\(∀p∈r,p∈S)/\∀p,p∈a\/p∈r↔p∈acc\/p∈k) (xU k) (fun f a h=>K f a h.1 fun p=>⟨fun z=>(h.2.2 p).mp (.inl z),fun z=>((h.2.2 p).mpr z).elim id nofun⟩)
  (fun p r f a h W w=>by
   have pf:=h.2.1 p (.head _);have pS:=hS p pf;refine lo e2 ?_;refine q0I hN pS.1 pS.2 ?_;refine fd (by rw[v8,qH]; exact qQ (few a h.1.nd h.1.sub) (by decide)) ?_;rw[q6X (wS pS.1) (xW fun q z=>wS (hS q (h.1.sub q z)).1)];exact w _ (iM a p) (.set .mix rfl) ⟨h.1.add pf,fun q hq=>h.2.1 q (.tail _ hq),fun q=>Iff.trans (or_congr cR Iff.rfl) (or_assoc.trans (Iff.trans (or_congr Iff.rfl qV.symm) (h.2.2 q)))⟩) ⟨g,hk,fun z0=>Iff.rfl⟩
def mU{ks:List Kd}{pv:V}(hN:10<=N)(hm:(!gY pv)=true)(hpv:∀σ (K:List V->Prop),K (ks.map fun k=>V.lst (jL k))->pA σ pv K)(hk:∀k∈ks,xL k/\Z1 k<=4)(few:M5 ks.flatten)
  (K:Q (.lst (jL (yF ks.flatten))) ⟨G,[]⟩):y4 D N "_law_join" [] [pv] Q ⟨G,[]⟩:=by
 have hp:∀p∈ks.flatten,kO p/\c6 p<=4:=fun p hp=>(List.mem_flatten.mp hp).elim fun k z=>⟨yM.mp (hk k z.1).1 p z.2,qF (uG z.2) (hk k z.1).2⟩;refine cm hN (d:=kD) rfl rfl fun M hM=>?_;refine kt hm (hpv _ _ ?_);refine lg ["kind","part"] (fun k:Kd=>V.lst (jL k)) (fun acc:List Pt=>⟨G,[some (.dS (v8 acc))]⟩) (fun r a=>Z7 ks.flatten a/\(∀k∈r,k∈ks)/\∀p,p∈a\/p∈r.flatten↔p∈ks.flatten) (g0:=[]) rfl (fun f a h=>?_) (fun k r f a h W w=>?_)
  ⟨⟨.nil,nofun⟩,fun z0 h=>h,fun p=>⟨fun h=>h.elim nofun id,.inr⟩⟩
 ·exact EX hp few h.1 (fun p=>⟨fun z=>(h.2.2 p).mp (.inl z),fun z=>((h.2.2 p).mpr z).elim id nofun⟩) rfl K
 ·refine EW hM (ρ:=y5.set (y5.mix _ ["kind","part"] f) "kind" _) hp few rfl (fun p z=>List.mem_flatten.mpr ⟨k,h.2.1 k (.head _),z⟩) h.1 fun f' a' g' m'=>?_;exact w _ a' (.sub (.set .mix rfl) rfl) ⟨g',fun x hx=>h.2.1 x (.tail _ hx),fun p=>Iff.trans (or_congr (m' p) Iff.rfl) (or_assoc.trans (Iff.trans (or_congr Iff.rfl (zH (s:=k) (t:=r.flatten)).symm) (h.2.2 p)))⟩
end
mutual
noncomputable def FN:yK->List V
 | .n=>[.str [110]]
 | .i x=>[.str [105],.int x]
 | .a x=>[.str [97],.tup (FN x)]
 | .t l=>[.str [116],.lst (lB l)]
noncomputable def lB:List (yK×Int)->List V
 | []=>[]
 | (x,g)::r=>.tup [.tup (FN x),.int g]::lB r
end
noncomputable abbrev uA(α:yK):V:=.tup (FN α)
noncomputable abbrev sB{α:Type}(enc:α->V)(q:α×Int):V:=.tup [enc q.1,.int q.2]
theorem jN:∀l:List (yK×Int),lB l=l.map (sB uA)
 | []=>rfl
 | _::r=>congrArg _ (jN r)
noncomputable abbrev kv(k:Kd):V:=.lst (jL k)
noncomputable def sW:Option Kd->V
 | none=>.none
 | some k=>kv k
section
variable{α:Type}{enc:α->V}{N n:Nat}{G:xF}{Q:Kv}{L:List V}{K:V->Prop}
def ix{v:V}(h:L[n]?=some v)(hn:n<1000000000)(k:K v):lH L (n:Int) K:=kt (Nat.ble_eq_true_of_le hn) (sv h k)
def nB{l:List (α×Int)}{n:Nat}(hL:L=l.map (sB enc))(en:yS (l.map (·.2))=n)(hN:1<=N)(K:Q (.int n) ⟨G,[]⟩):y4 D N "_law_fixed" [] [.lst L] Q ⟨G,[]⟩:=by
 subst en;refine cm hN (d:=rF) rfl rfl fun M z0=>?_;refine la ["one"] "count" (sB enc) (fun n:Nat=>.int n) (fun z0=>⟨G,[]⟩) (fun r n=>yS (l.map (·.2))=n+yS (r.map (·.2))) hL rfl (fun f n z=>?_) (fun q r f n z W w=>?_) (Nat.zero_add _).symm
 ·exact Eq.mp (congrArg (fun i:Nat=>Q (.int i) ⟨G,[]⟩) z) K
 ·have z:yS (l.map (·.2))=n+if 1<q.2 then 0 else yS (r.map (·.2))+1:=z;refine dc (fun hg=>?_) fun hg=>?_
  ·rw[if_pos hg]at z;exact Eq.mp (congrArg (fun i:Nat=>Q (.int i) ⟨G,[]⟩) z) K
  ·rw[if_neg hg]at z;exact w _ (n+1) rfl (.set (.set (.set (.mx rfl) rfl) rfl) rfl) (z.trans (Nat.add_right_comm n _ 1))
def V6{q:List Pt×Int}(hN:11<=N)(h:xB q.1)(hn:nl q.1<=53)(K:Q (kv (yR q)) ⟨G,[]⟩):y4 D N "_law_get" [] [lC q] Q ⟨G,[]⟩:=by
 refine cm hN (d:=sN) rfl rfl fun M hM=>?_;refine dc (fun e=>?_) fun e=>?_
 ·refine mU (ks:=[q.1,jB]) hM rfl (fun z0 z0 h=>h) ?_ ?_ ?_
  ·exact zB.mpr ⟨⟨h.fit,h.dp⟩,fun k hk=>qO.mp hk▸⟨sU,zA _⟩⟩
  ·exact tX (show nl (q.1++(jB++[]))<=54 from vY▸Nat.le_succ_of_le hn)
  ·exact Eq.mp (congrArg (fun k=>Q (kv k) ⟨G,[]⟩) ((if_pos e).trans (congrArg (fun z=>yF (q.1++z)) (qS jB).symm))) K
 ·exact Eq.mp (congrArg (fun k=>Q (kv k) ⟨G,[]⟩) (if_neg e)) K
def YH{a b:Nat}:min (a:Int) (b:Int)=((min a b:Nat):Int):=by
 by_cases h:a<=b
 ·exact(Nat.min_eq_left h).symm▸(Int.min_eq_left (Int.ofNat_le.mpr h))
 ·exact(Nat.min_eq_right (Nat.le_of_not_le h)).symm▸(Int.min_eq_right (Int.ofNat_le.mpr (Nat.le_of_not_le h)))
def NB{a b:Nat}(h:b<=a):(a:Int)-(b:Int)=((a-b:Nat):Int):=(Int.ofNat_sub h).symm
def sJ{n j:Nat}{x:Int}{d:Nat}{K:Nat->Prop}(e:x=(j:Nat))(h:j<=n)(hn:n<1000000000)(k:K j):s8 n d (.int x) K:=by
 subst e;exact kt (Nat.ble_eq_true_of_le (qI h hn)) ((Nat.min_eq_left h).symm▸k)
noncomputable def gρ(pl ai:V)(i n m f b:Int)(lf:V)(g:Int):y5:=y5.set (y5.set (y5.set (y5.set (y5.set (y5.set (y5.set (y5.set (y5.set xV "places" pl) "aims" ai) "at" (.int i)) "n" (.int n)) "m" (.int m)) "front" (.int f)) "back" (.int b)) "left" lf) "tag" (.int g)
def bE.at{l:vB}{j:Nat}(h:bE l)(hj:j<l.length):∃q,l[j]?=some q/\(jY l)[j]?=some (lC q)/\j<1000000000/\xB q.1/\nl q.1<=53 :=
 ⟨l[j],(zS hj:l[j]?=some l[j]),by rw[x5,List.getElem?_map,(zS hj:l[j]?=some l[j])]; rfl,qQ hj (qF h.len (by decide)),h.kok (List.getElem_mem hj),qF (h.k _ (List.getElem_mem hj)).2.2 (by decide)⟩
def EI{l lf:vB}{ai:V}{i f b M m:Nat}{g:Int}(hM:11<=M)(hf:bE lf)(n1:¬i<f)(n2:¬m-i<=b)(hbf:b+f<=m)(K:Q (sW (t6 f b lf g l m i)) ⟨G,[]⟩):
  xA (xP D (y4 D M)) (jK.body.drop 8) (gρ (.lst (jY l)) ai i l.length m f b (.lst (jY lf)) g) (uO Q) ⟨G,[]⟩:=by
 have KE:∀{y},t6 f b lf g l m i=y->Q (sW y) ⟨G,[]⟩:=fun e=>e▸K;have e0:t6 f b lf g l m i=_:=(if_neg n1).trans (if_neg n2);have lE:(jY lf).length=lf.length:=x5 lf▸qH ..;have e1:((m:Int)-b-f=1)=(m-b-f=1):=by rw[((by omega:(m:Int)-b-f=((m-b-f:Nat):Int)))]; exact propext ⟨Int.ofNat_inj.mp,fun h=>congrArg Nat.cast h⟩
 have fin:xO lf=none->xA (xP D (y4 D M)) (jK.body.drop 9) (gρ (.lst (jY l)) ai i l.length m f b (.lst (jY lf)) g) (uO Q) ⟨G,[]⟩:=fun hs=>by
  rw[hs]at e0;have tail:¬(m-b-f=1/\g=3)->xA (xP D (y4 D M)) (jK.body.drop 10) (gρ (.lst (jY l)) ai i l.length m f b (.lst (jY lf)) g) (uO Q) ⟨G,[]⟩:=fun n3=>by
   have e0:=e0.trans (if_neg n3);refine dc (fun c1=>?_) fun c1=>(fun n4=>KE (y:=none) (e0.trans (if_neg n4))) fun z=>c1 (e1.mpr z.1);refine dc (fun c2=>?_) fun c2=>(fun n4=>KE (y:=none) (e0.trans (if_neg n4))) fun z=>c2 z.2.1;refine ft (lE▸qF hf.len (by decide)) ?_;cases lf with
   | nil=>exact(fun n4=>KE (y:=none) (e0.trans (if_neg n4))) fun z=>z.2.2 rfl
   | cons q r =>
    refine ft (lE▸qF hf.len (by decide)) ?_;refine aW lC (fun q=>kv (yR q)) id (x5 _) (fun x hx K' hK=>V6 hM (hf.kok hx) (qF (hf.k x hx).2.2 (by decide)) hK) ?_;refine mU (ks:=(q::r).map yR) (lv hM) rfl (fun z0 z0 h=>(qY (f:=yR) (g:=kv) (l:=q::r)).symm▸h) (fun k hk=>?_) ?_ ?_
    ·exact(zC.mp hk).elim fun x z=>z.2▸⟨(w9 (hf.kok z.1)).1.fit,(w9 (hf.kok z.1)).1.dp⟩
    ·exact tX (qF (jV hf).2.1 (by decide))
    ·exact KE (y:=some (yF ((q::r).flatMap yR))) (e0.trans (if_pos ⟨e1.mp c1,c2,fun z=>List.cons_ne_nil _ _ z⟩))
  refine dc (fun c1=>?_) fun c1=>tail fun z=>c1 (e1.mpr z.1);refine dc (fun c2=>?_) fun c2=>tail fun z=>c2 z.2;exact KE (y:=some [.t false lf]) (e0.trans (if_pos ⟨e1.mp c1,c2⟩))
 refine ft (lE▸qF hf.len (by decide)) ?_;refine dc (fun e=>?_) fun e=>fin ?_
 ·obtain⟨q,rfl⟩:=List.length_eq_one_iff.mp (lE.symm.trans (Int.ofNat_inj.mp e))
  ·refine dc (fun c=>?_) fun c=>fin (if_neg c);have hs:xO [q]=some q.1:=if_pos c;rw[hs]at e0;refine dc (fun c3=>?_) fun c3=>?_
   ·exact KE (y:=some [.a false q.1]) (e0.trans (congrArg some (if_pos c3)))
   ·exact KE (y:=some q.1) (e0.trans (congrArg some (if_neg c3)))
 ·exact Option.rec (motive:=fun x=>xO lf=x->xO lf=none) id (fun k hs=>absurd (congrArg (fun l:vB=>(l.length:Int)) (jF hs)) (lE▸e)) (xO lf) rfl
def EH{l lf:vB}{ai:V}{i f b M m:Nat}{g:Int}(hM:11<=M)(h:bE l)(hf:bE lf)(hi:i<m)(h1:f<=l.length)(h2:b<=l.length)(hbf:b+f<=m)(K:Q (sW (t6 f b lf g l m i)) ⟨G,[]⟩):
  xA (xP D (y4 D M)) (jK.body.drop 6) (gρ (.lst (jY l)) ai i l.length m f b (.lst (jY lf)) g) (uO Q) ⟨G,[]⟩:=by
 have KE:∀{y},t6 f b lf g l m i=y->Q (sW y) ⟨G,[]⟩:=fun e=>e▸K;refine dc (fun e=>?_) fun n1=>?_
 ·have e:=zI.mp e;refine qG fun ng=>?_;refine XN (h.at (qQ e h1)) fun q q1 q2 q3 z=>z.elim fun q4 q5=>?_;refine ng ?_;refine ix q2 q3 ?_;exact V6 hM q4 q5 (KE (y:=some (yR q)) ((if_pos e).trans (congrArg (Option.map yR) q1)))
 refine dc (fun e=>?_) fun n2=>?_
 ·have e':m-i<=b:=by omega
  refine(h.at (j:=l.length+i-m) (by exact yX [_,_,_,_] (LF.c 1 (.a (.v 0) (.k 1)) (.v 1) (LF.c 1 (.a (.v 3) (.v 1)) (.a (.v 2) (.v 0)) .n)) 0 (.a (.v 3) (.k 1)) (.v 2) rfl hi (qK (Nat.sub_add_cancel (yX [_,_,_,_,_] (LF.c 1 (.v 3) (.v 2) (LF.c 1 (.v 4) (.v 3) (LF.c 1 (.v 1) (.a (.v 4) (.v 0)) .n))) 0 (.v 1) (.a (.v 2) (.v 0)) rfl h2 e' (q04 (m) (i))))))).elim fun q zz=>?_;show lH (jY l) ((l.length:Int)-m+i) _;rw[((by omega:(l.length:Int)-m+i=((l.length+i-m:Nat):Int)))];refine ix zz.2.1 zz.2.2.1 ?_;exact V6 hM zz.2.2.2.1 zz.2.2.2.2 (KE (y:=some (yR q)) ((if_neg ((fun e=>n1 (zI.mpr e):¬i<f))).trans ((if_pos e').trans (congrArg (Option.map yR) zz.1))))
 ·exact EI hM hf ((fun e=>n1 (zI.mpr e):¬i<f)) (fun e=>n2 (by omega)) hbf K
def B9{l:vB}{A:List (α×Int)}{i f b M:Nat}{fi bi:Int}(hM:11<=M)(h:bE l)(hL:L=A.map (sB enc))(hA:A.length<=3)(hi:i<A.length)(ef:fi=(f:Nat))(eb:bi=(b:Nat))(h1:f<=l.length)(h2:b<=l.length)(hbf:b+f<=A.length)
  (K:Q (sW (t6 f b (cut l f (l.length-b)) ((A.map (·.2)).getD i 0) l A.length i)) ⟨G,[]⟩) :
  xA (xP D (y4 D M)) (jK.body.drop 4) (y5.set (y5.set (y5.set (y5.set (y5.set (y5.set (y5.set xV "places" (.lst (jY l))) "aims" (.lst L)) "at" (.int i)) "n" (.int (jY l).length)) "m" (.int L.length)) "front" (.int fi)) "back" (.int bi)) (uO Q) ⟨G,[]⟩:=by
 subst ef eb;rw[(hL▸qH ..:L.length=A.length),((x5 l▸qH ..:(jY l).length=l.length))];have l3:=h.len;refine ft (((x5 l▸qH ..:(jY l).length=l.length))▸qF l3 (by decide)) ?_;rw[((x5 l▸qH ..:(jY l).length=l.length))];refine sJ rfl h1 ((qI l3 (by decide):l.length<1000000000)) ?_;refine sJ (NB h2) (Nat.sub_le ..) ((qI l3 (by decide):l.length<1000000000)) ?_;rw[((by rw[x5,x5,vG]:cut (jY l) f (l.length-b)=jY (cut l f (l.length-b))))];refine ix (v:=sB enc A[i]) (by rw[hL,List.getElem?_map,(zS hi:A[i]?=some A[i])]; rfl) (qQ hi (qF hA (by decide))) ?_;rw[((by rw[List.getD_eq_getElem?_getD,List.getElem?_map,(zS hi:A[i]?=some A[i])]; rfl:(A.map (·.2)).getD i 0=A[i].2))]at K;exact EH hM h (h.cut (qF h1 l3) (qF (Nat.sub_le ..) l3)) hi h1 h2 hbf K
def LH:∀t∈AT,yS t<t.length->yS t.reverse+yS t<=t.length:=by unfold AT; decide
def EK{l:vB}{A:List (α×Int)}{i:Nat}(hN:12<=N)(h:bE l)(hL:L=A.map (sB enc))(hT:A.map (·.2)∈AT)(hA:A.length<=3)(hi:i<A.length)(K:Q (sW (wK l (A.map (·.2)) i)) ⟨G,[]⟩):y4 D N "_law_gift" [] [.lst (jY l),.lst L,.int i] Q ⟨G,[]⟩:=by
 have lL:L.length=A.length:=hL▸qH ..;have b1:∀{n:Nat},n<=3->n<=lim:=fun h=>qF h (by decide);have f1:=j6 (l.map (·.2));have f2:=j6 (A.map (·.2));have f3:=j6 (l.map (·.2)).reverse;have f4:=j6 (A.map (·.2)).reverse;rw[qH]at f1 f2;rw[List.length_reverse,qH]at f3 f4;rw[wK,qH]at K;have r1:(jY l).reverse=l.reverse.map (sB kv):=x5 l▸List.map_reverse.symm;refine cm hN (d:=jK) rfl rfl fun M hM=>?_;refine ft (b1 (((x5 l▸qH ..:(jY l).length=l.length))▸h.len)) ?_;refine ft (b1 (lL▸hA)) ?_;refine nB (enc:=kv) (x5 l) rfl (lv hM) ?_;refine nB hL rfl (lv hM) ?_;refine nB hL rfl (lv hM) ?_;refine dc (fun e=>?_) fun e=>?_
 ·have e:=zI.mp (lL▸e);have eb:back (l.map (·.2)) (A.map (·.2))=min (yS (l.map (·.2)).reverse) (yS (A.map (·.2)).reverse):=by
   unfold back;rw[qH];exact if_pos e
  refine ft (b1 (((x5 l▸qH ..:(jY l).length=l.length))▸h.len)) ?_;refine nB (enc:=kv) r1 (congrArg yS List.map_reverse) (lv hM) ?_;refine ft (b1 (lL▸hA)) ?_;refine nB (hL▸List.map_reverse.symm) (congrArg yS List.map_reverse) (lv hM) ?_;exact B9 (G:=G) (f:=gL (l.map (·.2)) (A.map (·.2))) (b:=back (l.map (·.2)) (A.map (·.2))) hM h hL hA hi YH (YH.trans (congrArg Nat.cast eb.symm)) (qF (Nat.min_le_left ..) f1) (eb▸qF (Nat.min_le_left ..) f3) (eb▸qF (Nat.add_le_add (Nat.min_le_right ..) (Nat.min_le_right ..)) (qH (f:=(·.2)) (as:=A)▸LH _ hT (qH (f:=(·.2)) (as:=A)▸e))) K
 ·have e:¬yS (A.map (·.2))<A.length:=fun z=>e (zI.mpr (lL.symm▸z));have eb:back (l.map (·.2)) (A.map (·.2))=0:=by
   unfold back;rw[qH];exact if_neg e
  exact B9 (G:=G) (f:=gL (l.map (·.2)) (A.map (·.2))) (b:=back (l.map (·.2)) (A.map (·.2))) hM h hL hA hi YH (congrArg Nat.cast eb.symm) (qF (Nat.min_le_left ..) f1) (eb▸zA _) (eb▸qF (qK (Nat.zero_add _)) (qF (Nat.min_le_right ..) f2)) K
end
section
variable{α β:Type}{enc:α->V}{enb:β->V}{N n:Nat}{G:xF}{Q:Kv}{L LB:List V}{K:V->Prop}
def K1{is:List Int}:(vI is).all q0Q=true:=z6.mpr fun x hx=>(zC.mp hx).elim fun y z=>z.2▸rfl
def cU{is:List Int}{i:Int}:(vI is).any (GB i)=is.contains i:=by
 induction is with
 | nil=>rfl
 | cons j r ih =>
  rw[List.contains_cons,<-ih];exact congrArg (·||_) (Bool.eq_iff_iff.mpr ⟨fun z=>beq_iff_eq.mpr (zT z),fun z=>zU (beq_iff_eq.mp z)⟩)
def bi{b:Bool}{v:V}{K:Option V->Prop}(h:K (bif b then some v else none)):bb b (K (some v)) (K none):=by cases b <;> exact h
def KJ(l:List (α×Int)):(l.filterMap fun q=>bif decide (q.2=0)then some (sB enc q)else none).length=q2K 0 (l.map (·.2)):=by
 induction l with
 | nil=>rfl
 | cons q r ih =>
  rw[List.filterMap_cons,List.map_cons];unfold q2K at ih ⊢;rw[List.filter_cons]
  by_cases e:q.2=0
  ·rw[zU e,if_pos (beq_iff_eq.mpr e)];exact congrArg Nat.succ ih
  ·rw[decide_eq_false e,if_neg fun z=>e (beq_iff_eq.mp z)];exact ih
def YB{l:List α}{f:α->Option V}(h:l.length<=3):(l.filterMap f).length<=lim:=qF (List.length_filterMap_le ..) (qF h (by decide))
def AU(l:List (α×Int)):vI (l.map (·.2))=l.map fun q=>V.int q.2:=qY ..
def MO{P:List (α×Int)}{A:List (β×Int)}(hN:1<=N)(hP:L=P.map (sB enc))(hA:LB=A.map (sB enb))(lP:P.length<=3)(lA:A.length<=3)(K:Q (.bool (apart (P.map (·.2)) (A.map (·.2)))) ⟨G,[]⟩):y4 D N "_law_apart" [] [.lst L,.lst LB] Q ⟨G,[]⟩:=by
 have b3:∀{n:Nat},n<=3->n<=lim:=fun h=>qF h (by decide);have nP:L.length=P.length:=hP▸qH ..;have nA:LB.length=A.length:=hA▸qH ..;have KE:∀{b},apart (P.map (·.2)) (A.map (·.2))=b->Q (.bool b) ⟨G,[]⟩:=fun e=>e▸K;refine cm hN (d:=rE) rfl rfl fun M hM=>?_;refine ft (b3 (nP▸lP)) ?_;refine NY (sB enc) (fun q=>bif decide (q.2=0)then some (sB enc q)else none) id hP (fun q z0 K' hK=>bi (K:=fun o=>K' o _) hK) ?_;refine ft (YB lP) ?_;refine ft (b3 (nA▸lA)) ?_;refine NY (sB enb) (fun q=>bif decide (q.2=0)then some (sB enb q)else none) id hA (fun q z0 K' hK=>bi (K:=fun o=>K' o _) hK) ?_;refine ft (YB lA) ?_;rw[KJ,KJ];refine ft (b3 (nA▸lA)) ?_;refine aW (sB enb) (fun q=>V.int q.2) id hA (fun q z0 K' hK=>hK) ?_;rw[<-AU A];unfold apart at KE;refine kt K1 ?_;refine bc (fun e=>KE (if_pos (cU.symm.trans e))) fun e3=>?_;rw[if_neg (fun z=>j0 (z.symm.trans (cU.symm.trans e3)))]at KE;refine dc (fun e=>KE (if_pos (zI.mp e))) fun e=>?_;rw[if_neg fun z=>e (zI.mpr z),<-cU]at KE;refine kt K1 ?_;refine bc (b:=!(vI (A.map (·.2))).any (GB 2)) (fun e=>?_) fun e=>?_
 ·rw[e]at KE;refine ft (b3 (nP▸lP)) ?_;refine aW (sB enc) (fun q=>V.int q.2) id hP (fun q z0 K' hK=>hK) ?_;rw[<-AU P];refine kt K1 ?_;refine bc (fun e=>?_) fun e=>?_
  ·rw[<-cU,e]at KE;exact(show Q (.bool ((vI (P.map (·.2))).any (GB 2))) ⟨G,[]⟩from e.symm▸KE rfl)
  ·rw[<-cU,e]at KE;refine ft (b3 (nA▸lA)) ?_;refine ft (b3 (nP▸lP)) ?_;rw[nA,nP];rw[qH,qH]at KE;exact KE (Bool.eq_iff_iff.mpr ⟨fun z=>zU (zI.mpr (zT z)),fun z=>zU (zI.mp (zT z))⟩)
 ·rw[e]at KE;exact(show Q (.bool (!(vI (A.map (·.2))).any (GB 2))) ⟨G,[]⟩from e.symm▸KE rfl)
end
abbrev M8:=Bool->Int->List Kd
noncomputable def JA(ps:List Int)(B:M8)(w:Bool)(p:Int):Option Ob:=bif ps.contains p then some (.list ((B w p).map kv))else none
noncomputable def UR(ps:List Int)(a:Nat):Option Ob:=some (.dI (ps.map fun p=>(p,.ref true (a+p.toNat))))
noncomputable def q5J(ps:List Int)(B:M8)(r:xF):xF:=UR ps 19::JA ps B true 0::JA ps B true 1::JA ps B true 2::UR ps 23::JA ps B false 0::JA ps B false 1::JA ps B false 2::r
noncomputable def q6O(r:xF):xF:=none::none::none::none::none::none::none::none::none::none::none::none::none::none::r
noncomputable def jT(q8:List yD)(ps:List Int)(B:M8)(r L:xF):St:=tS q8 (q6O (q5J ps B r)) L
noncomputable def q0F(B:M8)(w:Bool)(x:Int)(k:Kd):M8:=fun w' p=>bif w'==w&&p==x then B w' p++[k]else B w' p
noncomputable def wP(E:List Ev):M8:=fun w p=>(E.filter fun e=>w==e.1&&p==e.2.1).map (·.2.2)
def PS(ps:List Int):Prop:=ps=[0,2]\/ps=[0,1,2]
noncomputable def bX(w:Bool):Nat:=bif w then 18 else 22
section
variable{q8:List yD}{ps:List Int}{B:M8}{r L:xF}{w:Bool}{x:Int}{k:Kd}{E:List Ev}{N:Nat}{Q:Kv}{α:yK}
def H5:wP (E++[(w,x,k)])=q0F (wP E) w x k:=funext fun w'=>funext fun p=>by
 unfold wP q0F;rw[List.filter_append,qU,List.filter_cons];cases w'==w&&p==x with
 | true=>rfl
 | false=>exact qS _
def PS.all{P:Int->Prop}(h:PS ps)(hx:x∈ps)(h0:P 0)(h1:P 1)(h2:P 2):P x:=by
 have m:x∈[0,1,2]:=h.elim (fun e=>by subst e; exact(qV.mp hx).elim (fun e=>e▸.head _) fun z=>qO.mp z▸.tail _ (.tail _ (.head _))) fun e=>e▸hx;refine(qV.mp m).elim (fun e=>?_) fun m=>?_
 ·exact e▸h0
 ·refine(qV.mp m).elim (fun e=>?_) fun m=>?_
  ·exact e▸h1
  ·exact qO.mp m▸h2
def lR{a:Nat}:y8 (ps.map fun p=>(p,V.ref true (a+p.toNat))) x=bif ps.contains x then some (.ref true (a+x.toNat))else none:=by
 induction ps with
 | nil=>rfl
 | cons p r ih =>
  show(if p=x then some (V.ref true (a+p.toNat))else y8 (r.map _) x)=_;rw[List.contains_cons,ih]
  by_cases e:p=x
  ·rw[if_pos e,beq_iff_eq.mpr e.symm,e]; rfl
  ·rw[if_neg e,zV.mpr (fun z=>e z.symm)]; rfl
def GZ(h:PS ps)(hx:x∈ps):(jT q8 ps B r L).at true (bX w+1+x.toNat)=some (.list ((B w x).map kv))/\∀k,(jT q8 ps B r L).set (.list ((B w x++[k]).map kv)) true (bX w+1+x.toNat)=jT q8 ps (q0F B w x k) r L:=by
 rcases h with rfl | rfl
 ·rcases qV.mp hx with rfl | hx
  ·cases w <;> exact⟨rfl,fun z0=>rfl⟩
  ·cases qO.mp hx;cases w <;> exact⟨rfl,fun z0=>rfl⟩
 ·rcases qV.mp hx with rfl | hx
  ·cases w <;> exact⟨rfl,fun z0=>rfl⟩
  ·rcases qV.mp hx with rfl | hx
   ·cases w <;> exact⟨rfl,fun z0=>rfl⟩
   ·cases qO.mp hx;cases w <;> exact⟨rfl,fun z0=>rfl⟩
def q6Z:∀y:Un,V.tup [.str [117],.str (y.word.filter (· != 33))]=jR (reg (.u y))
 | .undef=>rfl | .null=>rfl | .number=>rfl | .num false false=>rfl | .num false true=>rfl | .num true false=>rfl | .num true true=>rfl | .str false=>rfl | .str true=>rfl
def q89:obj (jT q8 ps B r L) (.ref true (bX w))=UR ps (bX w+1):=by cases w <;> rfl
def q52:wP (E++[])=wP E:=congrArg wP (qS E)
def I0{G:xF}{a:Nat}{es:List (Int×V)}(hN:11<=N)(ho:jM G a=some (.dI es))(hx:∀x,α=.i x->y8 es x=none)(K:Q .none ⟨G,[]⟩):y4 D N "_law_keep" [] [kv k,uA α,.ref true a] Q ⟨G,[]⟩:=by
 refine cm hN (d:=dO) rfl rfl fun M hM=>?_;cases α with
 | i x =>
  refine q0P ho ?_;exact bf (congrArg Option.isSome (hx x rfl)) K
 | _=>exact K
def EZ{G:xF}{a j:Nat}{es:List (Int×V)}{l:List V}(hN:11<=N)(ho:jM G a=some (.dI es))(hx:y8 es x=some (.ref true j))(hj:jM G j=some (.list l))(hk:xB k)(hn:nl k<=54)(hl:l.length<lim)(K:Q .none ((⟨G,[]⟩:St).set (.list (l++[kv (kU k)])) true j)):y4 D N "_law_keep" [] [kv k,uA (.i x),.ref true a] Q ⟨G,[]⟩:=by
 refine cm hN (d:=dO) rfl rfl fun M hM=>?_;refine q0P ho ?_;refine bt (congrArg Option.isSome hx) ?_;refine ft (by rw[xU,qH]; exact z9 (Nat.lt_trans (hk.len hn) (by decide))) ?_;refine aW jR (fun p=>jR (reg p)) id (xU k) (fun p hp K' hK=>?_) ?_
 ·cases p with
  | u y=>exact⟨_,_,rfl,qF (iA y).2.2 (by decide),Eq.mp (congrArg (fun v=>K' (some v) _) (q6Z y).symm) hK⟩
  | _=>exact hK
 rw[show(k.map fun p=>jR (reg p))=jL (k.map reg)from(qY (f:=reg) (g:=jR) (l:=k)).symm.trans (xU _).symm];refine q0P ho ?_;refine sv hx ?_;refine HP hj ?_;refine mU (ks:=[k.map reg]) (lv hM) rfl (fun z0 z0 h=>h) (fun k' hk'=>?_) ?_ ?_
 ·exact qO.mp hk'▸⟨yM.mpr fun p hp=>(((fun p hp=>(zC.mp hp).elim fun q z=>z.2▸(hk.reg1 z.1).pt _ (.head _):u8 (k.map reg))) p hp).1,o4 fun p hp=>(((fun p hp=>(zC.mp hp).elim fun q z=>z.2▸(hk.reg1 z.1).pt _ (.head _):u8 (k.map reg))) p hp).2⟩
 ·exact tX (show nl (k.map reg++[])<=54 by rw[qS,((WZ fun p hp=>(nW (yM.mp hk.fit p hp)).2.2:nl (k.map reg)=nl k))]; exact hn)
 rw[show yF [k.map reg].flatten=kU k from congrArg yF (qS _)];refine HP hj ?_;exact ft (qM.symm▸hl) K
def KV{p:Int}:(wP E w p).length<=E.length:=by
 unfold wP;rw[qH];exact List.length_filter_le ..
def p9(hx:¬∃x,α=.i x/\x∈ps):M6 w ps α k=[]:=by
 cases α with
 | i x=>exact if_neg fun z=>hx ⟨x,rfl,z⟩
 | _=>rfl
def q1R(w:Bool):jM (jT q8 ps B r L).g (bX w)=UR ps (bX w+1):=by cases w <;> rfl
def BV(hN:11<=N)(h:PS ps)(hk:xB k)(hn:nl k<=54)(hl:E.length<lim)(K:Q .none (jT q8 ps (wP (E++M6 w ps α k)) r [])):y4 D N "_law_keep" [] [kv k,uA α,.ref true (bX w)] Q (jT q8 ps (wP E) r []):=by
 by_cases c:∃x,α=.i x/\x∈ps
 ·obtain⟨x,rfl,hx⟩:=c;refine EZ hN (q1R (L:=[]) w) (lR.trans (by rw[qX.mpr hx]; rfl)) (GZ (q8:=q8) (B:=wP E) (w:=w) (r:=r) (L:=[]) h hx).1 hk hn (by rw[qH]; exact qI KV hl) ?_;rw[show M6 w ps (.i x) k=[(w,x,kU k)]from if_pos hx,H5,<-(GZ (q8:=q8) (B:=wP E) (w:=w) (r:=r) (L:=[]) h hx).2 (kU k),qU]at K;exact K
 ·rw[p9 c,qS]at K;exact I0 hN (q1R (L:=[]) w) (fun x e=>lR.trans (by rw[Bool.eq_false_iff.mpr fun z=>c ⟨x,e,qX.mp z⟩]; rfl)) K
end
abbrev mH:=List (Int×List Int)
noncomputable def KZ(ps:List Int)(c lv lw:Int):List (String×V):=[("host",.ref true 6),("tab",.ref true 0),("pids",.tup (vI ps)),("found",.ref true 8),("seen",.ref true 16),("holds",.ref true 17),("count",.int c),("level",.int lv),("both",.int 0),("lower",.int lw),("low",.ref true 12)]
noncomputable def JO:List (String×V):=[("tab",.ref true 0),("deep",.int 0),("most_rounds",.int 200),("most_deep",.int 40)]
noncomputable def tv(t:Int):V:=.tup [.int t,.int 0]
noncomputable def x9:mH->Int->Option (List Int)
 | [],_=>none
 | (q,l)::r,p=>if q=p then some l else x9 r p
noncomputable def jX:mH->Int->Int->mH
 | [],p,t=>[(p,[t])]
 | (q,l)::r,p,t=>if q=p then(q,l++[t])::r else(q,l)::jX r p t
noncomputable def V4(bg:mH)(p:Int):Option Ob:=(x9 bg p).map fun l=>.list (l.map tv)
noncomputable def gW(bg:mH)(a:Nat):List (Int×V):=bg.map fun b=>(b.1,.ref true (a+b.1.toNat))
noncomputable def i8(bg:mH):Nat:=(bg.map fun b=>b.2.length+1).sum
set_option genCtorIdx false in
structure Fs where
 q8:List yD
 bag:Bool->mH
 seen:List (List V×V)
 holds:List (Int×V)
 c:Int
 lv:Int
 lw:Int
noncomputable def gX(ps:List Int)(c lv lw:Int)(d:Bool->List (Int×V))(sl:Bool->Int->Option Ob)(se:List (List V×V))(ho:List (Int×V))(r:xF):xF:=some (.inst "Finder" 5)::some (.ns (KZ ps c lv lw))::some (.inst "Thin" 7)::some (.ns JO)::some (.dI (d true))::sl true 0::sl true 1::sl true 2::some (.dI (d false))::sl false 0::sl false 1::sl false 2::some (.dT se)::some (.dI ho)::r
noncomputable def fa(w:Bool):Nat:=bif w then 8 else 12
noncomputable def H8(ps:List Int)(s:Fs)(r:xF):xF:=gX ps s.c s.lv s.lw (fun w=>gW (s.bag w) (fa w+1)) (fun w p=>V4 (s.bag w) p) s.seen s.holds r
noncomputable def fS(ps:List Int)(s:Fs)(r L:xF):St:=tS s.q8 (H8 ps s r) L
noncomputable def Fs.sz(s:Fs):Nat:=s.q8.length+s.seen.length+s.holds.length+i8 (s.bag true)+i8 (s.bag false)
noncomputable def Fs.row(s:Fs)(q8:List yD):Fs:=⟨q8,s.bag,s.seen,s.holds,s.c,s.lv,s.lw⟩
noncomputable def Fs.add(s:Fs)(w:Bool)(p t:Int):Fs:=⟨s.q8,fun w'=>bif w'==w then jX (s.bag w') p t else s.bag w',s.seen,s.holds,s.c,s.lv,s.lw⟩
def XR(s:Fs)(e:Ev):Prop:=∃l,x9 (s.bag e.1) e.2.1=some l/\∃t∈l,wO s.q8 t e.2.2/\xB e.2.2
set_option genCtorIdx false in
structure bD (ps:List Int) (s:Fs):Prop where
 nd:s.q8.Nodup
 base:FIRST16 <+: s.q8
 ho:∀e∈s.holds,∃α,wJ s.q8 e.1 α/\e.2=.bool (xD ps α)
 bg:∀w p l,x9 (s.bag w) p=some l->p∈ps/\l≠[]/\∀t∈l,∃k,wO s.q8 t k/\xB k
 ks:∀w,((s.bag w).map (·.1)).Nodup
 sv:∀e∈s.seen,∃i,e.2=.int i
noncomputable def bZ(s0 t0 w:Int):List V:=[.int s0,.int t0,.int 0,.int 0,.int w]
def gH(ps:List Int)(s:Fs)(P:yK->Prop)(key:List V):Prop:=∃s0 t0 w,key=bZ s0 t0 w/\(w=0->∃κ α,wO s.q8 s0 κ/\xB κ/\yL s.q8 t0 α/\(P α->∀e∈walk ps α κ,XR s e))
set_option genCtorIdx false in
structure yZ (ps:List Int) (s:Fs) (n:Nat) (E:List Ev) (s':Fs):Prop where
 inv:bD ps s'
 pre:s.q8 <+: s'.q8
 lv:s'.lv=s.lv
 lw:s'.lw=s.lw
 sz:s'.sz<=s.sz+n
 sk:∀e∈s'.seen,e∈s.seen\/gH ps s' (fun z0=>True) e.1\/∃e'∈s.seen,e'.1=e.1
 ev:∀e,XR s' e↔XR s e\/e∈E
section
variable{ps:List Int}{s s' s'':Fs}{n n' m:Nat}{E E':List Ev}{q8 q9:List yD}{t p:Int}{α β:yK}{bg:mH}{w:Bool}{r L:xF}
def wJ.mono(pr:q8 <+: q9)(h:wJ q8 t α):wJ q9 t α:=h.elim (fun h=>.inl (yL.mono pr h)) fun h=>.inr ⟨h.1,h.2.elim fun x e=>⟨x,xG pr e⟩⟩
def gH.mono{P P':yK->Prop}{key:List V}(h:gH ps s P key)(pr:s.q8 <+: s'.q8)(ev:∀e,XR s e->XR s' e)(hp:∀α,P' α->P α):gH ps s' P' key :=
 gE h fun s0 t0 w h=>⟨s0,t0,w,h.1,fun hw=>v4 (h.2 hw) fun κ α z=>⟨κ,α,z.1.mono pr,z.2.1,yL.mono pr z.2.2.1,fun p e he=>ev e (z.2.2.2 (hp α p) e he)⟩⟩
def yZ.refl(i:bD ps s):yZ ps s n [] s:=⟨i,List.prefix_refl _,rfl,rfl,qJ ..,fun z0 h=>.inl h,fun e=>⟨.inl,fun h=>h.elim id fun h=>absurd h qW⟩⟩
def yZ.trans(h:yZ ps s n E s')(h':yZ ps s' m E' s''):yZ ps s (n+m) (E++E') s'':=by
 refine⟨h'.inv,h.pre.trans h'.pre,h'.lv.trans h.lv,h'.lw.trans h.lw,qF h'.sz (qF (qR h.sz m) (qK (Nat.add_assoc ..))),fun e he=>?_,fun e=>?_⟩
 ·have up:gH ps s' (fun z0=>True) e.1->gH ps s'' (fun z0=>True) e.1:=fun z=>z.mono h'.pre (fun e he=>(h'.ev e).mpr (.inl he)) fun z0 x=>x;refine(h'.sk e he).elim (fun z=>?_) fun z=>z.elim (fun z=>.inr (.inl z)) fun z=>z.elim fun e' z=>?_
  ·exact(h.sk e z).elim .inl fun z=>.inr (z.imp up id)
  ·rw[<-z.2]at up ⊢;exact(h.sk e' z.1).elim (fun z=>.inr (.inr ⟨e',z,rfl⟩)) fun z=>.inr (z.imp up id)
 ·rw[h'.ev,h.ev,zH];exact or_assoc
def yZ.le(h:yZ ps s n E s')(l:n<=m):yZ ps s m E s':=⟨h.inv,h.pre,h.lv,h.lw,qF h.sz (qL l _),h.sk,h.ev⟩
def yZ.eq(h:yZ ps s n E s')(l:∀e,e∈E↔e∈E'):yZ ps s n E' s':=⟨h.inv,h.pre,h.lv,h.lw,h.sz,h.sk,fun e=>(h.ev e).trans (or_congr Iff.rfl (l e))⟩
def KX(i:bD ps s)(pr:s.q8 <+: q8)(e:Ev):XR (s.row q8) e↔XR s e:=by
 constructor
 ·rintro⟨l,hl,t,ht,hs,hk⟩
  refine wI ((i.bg _ _ _ hl).2.2 t ht) fun k h1 h2=>?_;exact⟨l,hl,t,ht,Eq.mpr (congrArg (wO s.q8 t) (mA (xX (i.base.trans pr)) hk.fit h2.fit hk.can h2.can hs (h1.mono pr))) h1,hk⟩
 ·exact fun z=>z.elim fun l z=>z.elim fun hl z=>z.elim fun t z=>z.elim fun ht z=>z.elim fun hs hk=>⟨l,hl,t,ht,hs.mono pr,hk⟩
def yZ.tab(i:bD ps s)(st:vQ s.q8 n q8):yZ ps s n [] (s.row q8):=by
 refine⟨⟨st.nd,i.base.trans st.pre,fun e he=>(i.ho e he).elim fun α z=>⟨α,z.1.mono st.pre,z.2⟩,fun w p l h=>⟨(i.bg w p l h).1,(i.bg w p l h).2.1,fun t ht=>((i.bg w p l h).2.2 t ht).elim fun k z=>⟨k,z.1.mono st.pre,z.2⟩⟩,i.ks,i.sv⟩,st.pre,rfl,rfl,?_,fun z0 h=>.inl h,fun e=>(KX i st.pre e).trans ⟨.inl,fun h=>h.elim id fun h=>absurd h qW⟩⟩
 have:=st.len
 exact yX [_,_,_,_,_,_,_] (LF.c 1 (.v 0) (.a (.v 1) (.v 2)) .n) 0 (.a (.a (.a (.a (.v 0) (.v 3)) (.v 4)) (.v 5)) (.v 6)) (.a (.a (.a (.a (.a (.v 1) (.v 3)) (.v 4)) (.v 5)) (.v 6)) (.v 2)) rfl this
end
noncomputable def kJ(sl:Bool->Int->Option Ob)(w:Bool)(p:Int)(x:Ob):Bool->Int->Option Ob:=fun w' p'=>bif w'==w&&p'==p then some x else sl w' p'
noncomputable def JR(d:Bool->List (Int×V))(w:Bool)(es:List (Int×V)):Bool->List (Int×V):=fun w'=>bif w'==w then es else d w'
section
variable{ps:List Int}{s s':Fs}{n m:Nat}{E E':List Ev}{q8 q9:List yD}{t p q:Int}{k:Kd}{bg:mH}{w:Bool}{r L:xF}{c lv lw:Int}{d:Bool->List (Int×V)}{sl:Bool->Int->Option Ob}{se:List (List V×V)}{ho:List (Int×V)}{N M:Nat}{Q:Kv}
def mQ(h:PS ps)(hp:p∈ps):jM (tS q8 (gX ps c lv lw d sl se ho r) L).g (fa w+1+p.toNat)=sl w p/\∀x,(tS q8 (gX ps c lv lw d sl se ho r) L).set x true (fa w+1+p.toNat)=tS q8 (gX ps c lv lw d (kJ sl w p x) se ho r) L:=by
 refine h.all (P:=fun p=>jM (tS q8 (gX ps c lv lw d sl se ho r) L).g (fa w+1+p.toNat)=sl w p/\∀x,(tS q8 (gX ps c lv lw d sl se ho r) L).set x true (fa w+1+p.toNat)=tS q8 (gX ps c lv lw d (kJ sl w p x) se ho r) L) hp ?_ ?_ ?_ <;> cases w <;> exact⟨rfl,fun z0=>rfl⟩
def FZ:jM (tS q8 (gX ps c lv lw d sl se ho r) L).g (fa w)=some (.dI (d w))/\∀es,(tS q8 (gX ps c lv lw d sl se ho r) L).set (.dI es) true (fa w)=tS q8 (gX ps c lv lw (JR d w es) sl se ho r) L:=by
 cases w <;> exact⟨rfl,fun z0=>rfl⟩
def q4M{x y:Ob}:kJ (kJ sl w p x) w p y=kJ sl w p y:=funext fun w'=>funext fun p'=>by
 unfold kJ;cases w'==w&&p'==p <;> rfl
def UG{x:Ob}:kJ sl w p x w p=some x:=by
 unfold kJ;rw[beq_self_eq_true,beq_self_eq_true]; rfl
def L9:JR d w (d w)=d:=funext fun w'=>by
 unfold JR;cases e:w'==w with
 | true=>exact congrArg d (eq_of_beq e).symm
 | false=>rfl
def cV:x9 (jX bg p t) q=if p=q then some ((x9 bg p).getD []++[t])else x9 bg q:=by
 induction bg with
 | nil=>rfl
 | cons b r ih =>
  obtain⟨x,l⟩:=b;show x9 (if x=p then(x,l++[t])::r else(x,l)::jX r p t) q=if p=q then some ((if x=p then some l else x9 r p).getD []++[t])else if x=q then some l else x9 r q
  by_cases e:x=p
  ·subst e;rw[if_pos rfl,if_pos rfl];show(if x=q then some (l++[t])else x9 r q)=_
   by_cases e:x=q
   ·rw[if_pos e,if_pos e]; rfl
   ·rw[if_neg e,if_neg e,if_neg e]
  ·rw[if_neg e,if_neg e];show(if x=q then some l else x9 (jX r p t) q)=_;rw[ih]
   by_cases e2:p=q
   ·rw[if_pos e2,if_neg (fun z=>e (z.trans e2.symm)),if_pos e2]
   ·rw[if_neg e2,if_neg e2]
def H6{a:Nat}(h:a=fa w+1):gW (jX bg p t) a=match x9 bg p with
  | some _=>gW bg a
  | none=>gW bg a++[(p,.ref true (a+p.toNat))]:=by
 clear h
 induction bg with
 | nil=>rfl
 | cons b r ih =>
  obtain⟨x,l⟩:=b;show gW (if x=p then(x,l++[t])::r else(x,l)::jX r p t) a=match (if x=p then some l else x9 r p)with
   | some _=>gW ((x,l)::r) a
   | none=>gW ((x,l)::r) a++[(p,.ref true (a+p.toNat))]
  by_cases e:x=p
  ·rw[if_pos e,if_pos e]; rfl
  ·rw[if_neg e,if_neg e];refine(congrArg ((x,V.ref true (a+x.toNat))::·) ih).trans ?_;cases x9 r p <;> rfl
def bO{a:Nat}:y8 (gW bg a) p=(x9 bg p).map fun z0=>.ref true (a+p.toNat):=by
 induction bg with
 | nil=>rfl
 | cons b r ih =>
  obtain⟨x,l⟩:=b;show(if x=p then some (V.ref true (a+x.toNat))else y8 (gW r a) p)=(if x=p then some l else x9 r p).map _
  by_cases e:x=p
  ·rw[if_pos e,if_pos e,e]; rfl
  ·rw[if_neg e,if_neg e];exact ih
def L3:i8 (jX bg p t)<=i8 bg+2:=by
 induction bg with
 | nil=>exact qT _
 | cons b r ih =>
  obtain⟨x,l⟩:=b;show i8 (if x=p then(x,l++[t])::r else(x,l)::jX r p t)<=(l.length+1+i8 r)+2
  by_cases e:x=p
  ·rw[if_pos e];show(l++[t]).length+1+i8 r<=_;exact(qM).symm▸(List.length_singleton).symm▸(yX [_,_] LF.n 0 (.a (.a (.a (.v 1) (.k 1)) (.k 1)) (.v 0)) (.a (.a (.a (.v 1) (.k 1)) (.v 0)) (.k 2)) rfl)
  ·rw[if_neg e];exact qF (qL ih _) (qK (Nat.add_assoc ..).symm)
def E7{a:Nat}:(gW bg a).length<=i8 bg:=by
 induction bg with
 | nil=>exact qT _
 | cons b r ih =>
  show(gW r a).length+1<=(b.2.length+1)+i8 r;exact qF (qK (Nat.add_comm ..)) (Nat.add_le_add (qP 1 _) ih)
def KB{l:List Int}(h:x9 bg p=some l):l.length<=i8 bg:=by
 induction bg with
 | nil=>exact wF h
 | cons b r ih =>
  have h:(if b.1=p then some b.2 else x9 r p)=some l:=h
  by_cases e:b.1=p
  ·rw[if_pos e]at h;exact qN h▸qF (Nat.le_succ _) (qJ ..)
  ·rw[if_neg e]at h;exact qF (ih h) (qP ..)
def V0:fS ps (s.add w p t) r L=tS s.q8 (gX ps s.c s.lv s.lw (JR (fun w=>gW (s.bag w) (fa w+1)) w (gW (jX (s.bag w) p t) (fa w+1))) (kJ (fun w p=>V4 (s.bag w) p) w p (.list (((x9 (s.bag w) p).getD []++[t]).map tv))) s.seen s.holds r) L:=by
 have e1:(fun w'=>gW ((s.add w p t).bag w') (fa w'+1))=JR (fun w=>gW (s.bag w) (fa w+1)) w (gW (jX (s.bag w) p t) (fa w+1)):=funext fun w'=>by
  unfold JR Fs.add;dsimp only;cases e:w'==w with
  | true=>rw[eq_of_beq e]; rfl
  | false=>rfl
 have e2:(fun w' p'=>V4 ((s.add w p t).bag w') p')=kJ (fun w p=>V4 (s.bag w) p) w p (.list (((x9 (s.bag w) p).getD []++[t]).map tv)):=funext fun w'=>funext fun p'=>by
  unfold kJ Fs.add V4;dsimp only;cases e:w'==w with
  | true =>
   rw[eq_of_beq e,cond_true,cV]
   by_cases e3:p=p'
   ·rw[if_pos e3,e3,beq_self_eq_true]; rfl
   ·rw[if_neg e3,zV.mpr fun z=>e3 z.symm]; rfl
  | false=>rfl
 unfold fS H8;rw[e1,e2];rfl
end
noncomputable def GP(p t:Int):y5:=y5.set (y5.set (y5.set (y5.set xV "self" (.ref true 4)) "pid" (.int p)) "t" (.int t)) "contra" (.int 0)
noncomputable def q8J(nm:String):Sx:=.asg "rows" (.sdl (.attr (.loc "self") nm) (.loc "pid"))
noncomputable def q86:Sx:=kB.body.getD 1 .bad
section
variable{ps:List Int}{s s':Fs}{n m:Nat}{q8 q9:List yD}{t p:Int}{k:Kd}{w:Bool}{r L:xF}{c lv lw:Int}{d:Bool->List (Int×V)}{sl:Bool->Int->Option Ob}{se:List (List V×V)}{ho:List (Int×V)}{N M:Nat}{Q:Kv}{K:Kf}{rest:List Sx}
def q6U{x:Option V}{v:V}{K:V->Prop}{X:Prop}(h:x=some v)(k:K v):oo x K X:=by subst h; exact k
def q6T{x:Option V}{K:V->Prop}{X:Prop}(h:x=none)(k:X):oo x K X:=by subst h; exact k
def LA{x:Ob}(h:sl w p=some x):kJ sl w p x=sl:=funext fun w'=>funext fun p'=>by
 unfold kJ;cases e:w'==w with
 | false=>rfl
 | true=>cases e2:p'==p with
  | false=>rfl
  | true=>rw[eq_of_beq e,eq_of_beq e2,h]; rfl
def q49{nm:String}(h:PS ps)(hp:p∈ps)(hnm:∀c lv lw,jE (KZ ps c lv lw) nm=some (.ref true (fa w)))(hl:i8 (s.bag w)<lim)
  (k:xA (xP D (y4 D M)) rest (y5.set (GP p t) "rows" (.ref true (fa w+1+p.toNat))) K (tS s.q8 (gX ps s.c s.lv s.lw (JR (fun w=>gW (s.bag w) (fa w+1)) w (gW (jX (s.bag w) p 0) (fa w+1))) (kJ (fun w p=>V4 (s.bag w) p) w p (.list (((x9 (s.bag w) p).getD []).map tv))) s.seen s.holds r) [])) :
  xA (xP D (y4 D M)) (q8J nm::rest) (GP p t) K (fS ps s r []):=by
 have lk:=bO (bg:=s.bag w) (a:=fa w+1) (p:=p);have ea:=H6 (bg:=s.bag w) (p:=p) (t:=0) (w:=w) rfl;refine sv (hnm ..) ?_;refine q0P (FZ (ps:=ps) (c:=s.c) (lv:=s.lv) (lw:=s.lw) (q8:=s.q8) (d:=fun w=>gW (s.bag w) (fa w+1)) (sl:=fun w p=>V4 (s.bag w) p) (se:=s.seen) (ho:=s.holds) (r:=r) (L:=[]) (w:=w)).1 ?_;refine q0P (FZ (ps:=ps) (c:=s.c) (lv:=s.lv) (lw:=s.lw) (q8:=s.q8) (d:=fun w=>gW (s.bag w) (fa w+1)) (sl:=fun w p=>V4 (s.bag w) p) (se:=s.seen) (ho:=s.holds) (r:=r) (L:=[]) (w:=w)).1 ?_;refine fd ((qI E7 hl:(gW (s.bag w) (fa w+1)).length<lim)) ?_;refine qG fun ng=>?_;cases hb:x9 (s.bag w) p with
 | some l =>
  refine ng ?_;rw[hb]at lk ea k;rw[ea,L9,LA (sl:=fun w p=>V4 (s.bag w) p) (w:=w) (p:=p) (x:=.list (((some l).getD []).map tv)) (by show(x9 (s.bag w) p).map _=_; rw[hb]; rfl)]at k;exact q6U lk k
 | none =>
  refine ng ?_;rw[hb]at lk ea k;refine q6T lk ⟨fa w+1+p.toNat,kt ?_ ?_⟩
  ·show ET (jM (fS ps s r []).g _)=true;rw[show jM (fS ps s r []).g (fa w+1+p.toNat)=none from(mQ (q8:=s.q8) (w:=w) (c:=s.c) (lv:=s.lv) (lw:=s.lw) (d:=fun w=>gW (s.bag w) (fa w+1)) (sl:=fun w p=>V4 (s.bag w) p) (se:=s.seen) (ho:=s.holds) (r:=r) (L:=[]) h hp).1.trans (by show(x9 (s.bag w) p).map _=_; rw[hb]; rfl)];rfl
  ·have ep:xQ (gW (s.bag w) (fa w+1)) p (.ref true (fa w+1+p.toNat))=gW (s.bag w) (fa w+1)++[(p,.ref true (fa w+1+p.toNat))]:=by
    unfold xQ;rw[lk]; rfl
   show xA (xP D (y4 D M)) rest (y5.set (GP p t) "rows" (.ref true (fa w+1+p.toNat))) K (((fS ps s r []).set (.list []) true (fa w+1+p.toNat)).set (.dI (xQ (gW (s.bag w) (fa w+1)) p (.ref true (fa w+1+p.toNat)))) true (fa w));rw[show(fS ps s r []).set (.list []) true (fa w+1+p.toNat)=_ from(mQ (q8:=s.q8) (w:=w) (c:=s.c) (lv:=s.lv) (lw:=s.lw) (d:=fun w=>gW (s.bag w) (fa w+1)) (sl:=fun w p=>V4 (s.bag w) p) (se:=s.seen) (ho:=s.holds) (r:=r) (L:=[]) h hp).2 _,FZ.2,ep];rw[ea]at k;exact k
def q1N{l:List Int}{κ:Kd}(hM:4<=M)(h:PS ps)(hp:p∈ps)(T:uB (n+64) q8)(hs:wO q8 t κ)(hk:xB κ)(hn:nl κ<=54)(hl:l.length<lim)
  (k:∀t' q9,wO q9 t' (kU κ)->vQ q8 64 q9->xA (xP D (y4 D M)) rest (y5.set (GP p t) "rows" (.ref true (fa w+1+p.toNat))) K (tS q9 (gX ps c lv lw d (kJ sl w p (.list ((l++[t']).map tv))) se ho r) [])) :
  xA (xP D (y4 D M)) (q86::rest) (y5.set (GP p t) "rows" (.ref true (fa w+1+p.toNat))) K (tS q8 (gX ps c lv lw d (kJ sl w p (.list (l.map tv))) se ho r) []):=by
 refine HP (((fun q8=>mQ (q8:=q8) (w:=w) (c:=c) (lv:=lv) (lw:=lw) (d:=d) (sl:=kJ sl w p (.list (l.map tv))) (se:=se) (ho:=ho) (r:=r) (L:=[]) h hp) q8).1.trans UG) ?_;refine TK hM T hs hk hn fun t' q9 hs' E=>?_;refine HP (((fun q8=>mQ (q8:=q8) (w:=w) (c:=c) (lv:=lv) (lw:=lw) (d:=d) (sl:=kJ sl w p (.list (l.map tv))) (se:=se) (ho:=ho) (r:=r) (L:=[]) h hp) q9).1.trans UG) ?_;refine ft (by rw[qM,qH]; exact hl) ?_
 have:=k t' q9 hs' E
 rw[<-q4M (x:=.list (l.map tv)),<-((fun q8=>mQ (q8:=q8) (w:=w) (c:=c) (lv:=lv) (lw:=lw) (d:=d) (sl:=kJ sl w p (.list (l.map tv))) (se:=se) (ho:=ho) (r:=r) (L:=[]) h hp) q9).2,qU]at this;exact this
end
noncomputable def Fs.reg(s:Fs)(c lv lw:Int):Fs:=⟨s.q8,s.bag,s.seen,s.holds,c,lv,lw⟩
section
variable{ps:List Int}{s s':Fs}{n m:Nat}{E:List Ev}{q8 q9:List yD}{t p:Int}{k κ:Kd}{w:Bool}{r L:xF}{c lv lw:Int}{N M:Nat}{Q:Kv}
def KA{w':Bool}{q:Int}{l:List Int}(h:x9 ((s.add w p t).bag w') q=some l):(w'=w/\q=p/\l=(x9 (s.bag w) p).getD []++[t])\/x9 (s.bag w') q=some l:=by
 have h:x9 (bif w'==w then jX (s.bag w') p t else s.bag w') q=some l:=h;cases e:w'==w with
 | false=>rw[e]at h; exact .inr h
 | true =>
  rw[e]at h;have h:x9 (jX (s.bag w') p t) q=some l:=h;rw[cV]at h
  by_cases e2:p=q
  ·rw[if_pos e2]at h;exact .inl ⟨(eq_of_beq e),e2.symm,(eq_of_beq e)▸(qN h).symm⟩
  ·rw[if_neg e2]at h;exact .inr h
def H7(i:bD ps s)(hs:wO s.q8 t k)(hk:xB k)(e:Ev):XR (s.add w p t) e↔XR s e\/e∈[(w,p,k)]:=by
 constructor
 ·rintro⟨l,hl,t',ht,hs',hk'⟩
  rcases KA hl with⟨e1,e2,rfl⟩ | h
  ·rcases zH.mp ht with ht | ht
   ·left
    cases hb:x9 (s.bag w) p with
    | none=>rw[hb]at ht; exact absurd ht qW
    | some l=>rw[hb]at ht; exact⟨l,e1.symm▸e2.symm▸hb,t',ht,hs',hk'⟩
   ·right
    cases qO.mp ht
    have:=mA (xX i.base) hk'.fit hk.fit hk'.can hk.can hs' hs
    exact qO.mpr (Prod.ext e1 (Prod.ext e2 this))
  ·exact .inl ⟨l,h,t',ht,hs',hk'⟩
 ·have at_:∀q,x9 ((s.add w p t).bag w) q=if p=q then some ((x9 (s.bag w) p).getD []++[t])else x9 (s.bag w) q:=fun q=>by
   show x9 (bif w==w then jX (s.bag w) p t else s.bag w) q=_;rw[beq_self_eq_true];exact cV
  rintro(⟨l,hl,t',ht,z⟩ | h)
  ·by_cases e1:e.1=w
   ·rw[e1]at hl
    by_cases e2:p=e.2.1
    ·refine⟨_,by rw[e1]; exact(at_ _).trans (if_pos e2),t',?_,z⟩;exact(e2)▸(hl)▸(List.mem_append_left _ ht)
    ·exact⟨l,by rw[e1]; exact((at_ _).trans (if_neg e2)).trans hl,t',ht,z⟩
   ·refine⟨l,?_,t',ht,z⟩;show x9 (bif e.1==w then jX (s.bag e.1) p t else s.bag e.1) e.2.1=_;exact(zV.mpr e1)▸hl
  ·cases qO.mp h;exact⟨_,(at_ p).trans (if_pos rfl),t,zM _ (.head _),hs,hk⟩
def ME{bg:mH}:(jX bg p t).map (·.1)=bg.map (·.1)\/(p∉bg.map (·.1)/\(jX bg p t).map (·.1)=bg.map (·.1)++[p]):=by
 induction bg with
 | nil=>exact .inr ⟨qW,rfl⟩
 | cons b r ih =>
  show(if b.1=p then(b.1,b.2++[t])::r else b::jX r p t).map (·.1)=_\/(_/\(if b.1=p then(b.1,b.2++[t])::r else b::jX r p t).map (·.1)=_)
  by_cases e:b.1=p
  ·rw[if_pos e]; exact .inl rfl
  ·rw[if_neg e];exact ih.imp (congrArg (b.1::·)) fun z=>⟨fun m=>(qV.mp m).elim (fun y=>e y.symm) z.1,congrArg (b.1::·) z.2⟩
def MF{bg:mH}(h:(bg.map (·.1)).Nodup):((jX bg p t).map (·.1)).Nodup:=(ME (bg:=bg) (p:=p) (t:=t)).elim (fun e=>Eq.mpr (congrArg List.Nodup e) h) fun z=>Eq.mpr (congrArg List.Nodup z.2) (List.nodup_append.mpr ⟨h,List.nodup_cons.mpr ⟨qW,.nil⟩,fun a ha b hb e=>z.1 (qO.mp hb▸e▸ha)⟩)
def FX{bg:mH}{a:Nat}:gW (jX bg p t) a=gW (jX bg p 0) a:=by
 induction bg with
 | nil=>rfl
 | cons b r ih =>
  show gW (if b.1=p then(b.1,b.2++[t])::r else b::jX r p t) a=gW (if b.1=p then(b.1,b.2++[0])::r else b::jX r p 0) a
  by_cases e:b.1=p
  ·rw[if_pos e,if_pos e]; rfl
  ·rw[if_neg e,if_neg e]; exact congrArg (_::·) ih
def yZ.add(i:bD ps s)(hp:p∈ps)(st:vQ s.q8 64 q8)(hs:wO q8 t k)(hk:xB k):yZ ps s 66 [(w,p,k)] ((s.row q8).add w p t):=by
 have j:=(yZ.tab i st).inv;refine⟨⟨j.nd,j.base,j.ho,fun w' q l h=>?_,fun w'=>?_,j.sv⟩,(yZ.tab i st).pre,rfl,rfl,?_,fun e h=>.inl h,fun e=>(H7 j hs hk e).trans (or_congr (KX i st.pre e) Iff.rfl)⟩
 ·rcases KA h with⟨e1,e2,rfl⟩ | h
  ·refine⟨e2▸hp,fun z=>absurd (congrArg List.length z) ((qM)▸(Nat.succ_ne_zero _)),fun x hx=>?_⟩;refine(zH.mp hx).elim (fun hx=>?_) fun hx=>?_
   ·cases hb:x9 ((s.row q8).bag w) p with
    | none=>rw[hb]at hx; exact absurd hx qW
    | some l=>rw[hb]at hx; exact(j.bg w p l hb).2.2 x hx
   ·cases qO.mp hx; exact⟨k,hs,hk⟩
  ·exact j.bg w' q l h
 ·show((bif w'==w then jX (s.bag w') p t else s.bag w').map (·.1)).Nodup;cases w'==w with
  | true=>exact MF (j.ks w')
  | false=>exact j.ks w'
 ·have ta:=L3 (bg:=s.bag w) (p:=p) (t:=t);cases w with
  | true =>
   show q8.length+s.seen.length+s.holds.length+i8 (jX (s.bag true) p t)+i8 (s.bag false)<=s.q8.length+s.seen.length+s.holds.length+i8 (s.bag true)+i8 (s.bag false)+66;exact yX [_,_,_,_,_,_,_] (LF.c 1 (.v 0) (.a (.v 1) (.k 64)) (LF.c 1 (.v 2) (.a (.v 3) (.k 2)) .n)) 0 (.a (.a (.a (.a (.v 0) (.v 4)) (.v 5)) (.v 2)) (.v 6)) (.a (.a (.a (.a (.a (.v 1) (.v 4)) (.v 5)) (.v 3)) (.v 6)) (.k 66)) rfl st.len ta
  | false =>
   show q8.length+s.seen.length+s.holds.length+i8 (s.bag true)+i8 (jX (s.bag false) p t)<=s.q8.length+s.seen.length+s.holds.length+i8 (s.bag true)+i8 (s.bag false)+66;exact yX [_,_,_,_,_,_,_] (LF.c 1 (.v 0) (.a (.v 1) (.k 64)) (LF.c 1 (.v 2) (.a (.v 3) (.k 2)) .n)) 0 (.a (.a (.a (.a (.v 0) (.v 4)) (.v 5)) (.v 6)) (.v 2)) (.a (.a (.a (.a (.a (.v 1) (.v 4)) (.v 5)) (.v 6)) (.v 3)) (.k 66)) rfl st.len ta
def yZ.reg(h:yZ ps s n E s')(c:Int):yZ ps s n E (s'.reg c s'.lv s'.lw):=⟨⟨h.inv.nd,h.inv.base,h.inv.ho,h.inv.bg,h.inv.ks,h.inv.sv⟩,h.pre,h.lv,h.lw,h.sz,h.sk,h.ev⟩
def QT:i8 (s.bag w)<=s.sz:=by
 cases w with
 | true=>exact qF (qP ..) (qJ ..)
 | false=>exact qP ..
def bD.tok(i:bD ps s)(hl:s.sz+n<=lim):uB n s.q8:=⟨i.nd,i.base,qF (qR (qF (qF (qJ ..) (qF (qJ ..) (qJ ..))) (qJ ..)) n) hl⟩
def KC{l:List Int}(h:(x9 (s.bag w) p).getD []=l)(hl:s.sz<lim):l.length<lim:=by
 subst h;cases hb:x9 (s.bag w) p with
 | none=>exact qI (zA _) hl
 | some l=>exact qI (qF (KB hb) QT) hl
def q7F{d:Bool->List (Int×V)}{sl:Bool->Int->Option Ob}{se:List (List V×V)}{ho:List (Int×V)}{c' lv' lw':Int}:(tS q8 (gX ps c lv lw d sl se ho r) L).set (.ns (KZ ps c' lv' lw')) true 5=tS q8 (gX ps c' lv' lw' d sl se ho r) L:=rfl
def E6:fS ps (s.reg c s.lv s.lw) r []=(fS ps s r []).set (.ns (KZ ps c s.lv s.lw)) true 5:=rfl
def GO(hN:5<=N)(h:PS ps)(hp:p∈ps)(i:bD ps s)(hs:wO s.q8 t κ)(hk:xB κ)(hn:nl κ<=54)(hl:s.sz+65<=lim)(K:∀s',yZ ps s 66 [(false,p,kU κ)] s'->s'.c=s.c->Q .none (fS ps s' r [])):y4 D N "Finder.add_low" [] [.ref true 4,.int p,.int t,.int 0] Q (fS ps s r []):=by
 have hl2:s.sz<lim:=qQ (zG (by decide)) hl;refine cm hN (d:=kB) rfl rfl fun M hM=>?_;refine q49 (w:=false) (nm:="low") (p:=p) (t:=t) h hp (fun z0 z0 z0=>rfl) (qI QT hl2) ?_;refine q1N hM h hp (i.tok (n:=1+64) hl) hs hk hn (KC rfl hl2) fun t' q9 hs' E=>?_
 have:=K _ (yZ.add i hp E hs' (cC hk).1) rfl
 rw[V0,FX]at this;exact this
def q1J(hN:5<=N)(h:PS ps)(hp:p∈ps)(i:bD ps s)(hw:s.lw=0)(hs:wO s.q8 t κ)(hk:xB κ)(hn:nl κ<=54)(hl:s.sz+65<=lim)(K:∀s',yZ ps s 66 [(true,p,kU κ)] s'->Q .none (fS ps s' r [])):y4 D N "Finder.add" [] [.ref true 4,.int p,.int t,.int 0] Q (fS ps s r []):=by
 refine cm hN (d:=pR) rfl rfl fun M hM=>?_;refine df (p:=(0:Int)<s.lw) (by rw[hw]; decide) ?_;refine q49 (w:=true) (nm:="found") (p:=p) (t:=t) h hp (fun z0 z0 z0=>rfl) (qI QT ((qQ (zG (by decide)) hl:s.sz<lim))) ?_;refine q1N hM h hp (i.tok (n:=1+64) hl) hs hk hn (KC rfl ((qQ (zG (by decide)) hl:s.sz<lim))) fun t' q9 hs' E=>?_
 have:=K _ ((yZ.add i hp E hs' (cC hk).1).reg (s.c+1))
 rw[E6,V0,FX]at this;exact this
end
noncomputable def Fs.hold(s:Fs)(hv:List (Int×V)):Fs:=⟨s.q8,s.bag,s.seen,hv,s.c,s.lv,s.lw⟩
noncomputable def nR(ps:List Int):yK->Int
 | .i x=>if x∈ps then x else -1
 | _=>-1
section
variable{κ:Type}[DecidableEq κ]{es:List (κ×V)}{k:κ}{v:V}{e:κ×V}
def mW:y8 es k=some v->(k,v)∈es:=by
 induction es with
 | nil=>exact wF
 | cons x r ih =>
  intro h;have h:(if x.1=k then some x.2 else y8 r k)=some v:=h
  by_cases q:x.1=k
  ·rw[if_pos q]at h;exact q▸qN h▸.head _
  ·rw[if_neg q]at h;exact .tail _ (ih h)
def tC(h:e∈xQ es k v):e∈es\/e=(k,v):=by
 unfold xQ at h
 by_cases q:(y8 es k).isSome
 ·rw[if_pos q]at h;obtain⟨x,hx,rfl⟩:=zC.mp h
  by_cases q:x.1=k
  ·rw[if_pos q,q]; exact .inr rfl
  ·rw[if_neg q]; exact .inl hx
 ·rw[if_neg q]at h;exact(zH.mp h).imp id qO.mp
def YS:(xQ es k v).length<=es.length+1:=by
 unfold xQ
 by_cases q:(y8 es k).isSome
 ·rw[if_pos q,qH]; exact Nat.le_succ _
 ·rw[if_neg q,qM]; exact qT _
def DF:y8 (xQ es k v) k=some v:=by
 unfold xQ
 by_cases q:(y8 es k).isSome
 ·rw[if_pos q]
  induction es with
  | nil=>exact wQ q
  | cons x r ih =>
   have q:(if x.1=k then some x.2 else y8 r k).isSome=true:=q;show(if (if x.1=k then(x.1,v)else x).1=k then some (if x.1=k then(x.1,v)else x).2 else y8 (r.map fun e=>if e.1=k then(e.1,v)else e) k)=some v
   by_cases e:x.1=k
   ·rw[if_pos e];exact if_pos e
   ·rw[if_neg e,if_neg e];rw[if_neg e]at q;exact ih q
 ·rw[if_neg q]
  induction es with
  | nil=>exact if_pos rfl
  | cons x r ih =>
   have q:¬(if x.1=k then some x.2 else y8 r k).isSome=true:=q;show(if x.1=k then some x.2 else y8 (r++[(k,v)]) k)=some v
   by_cases e:x.1=k
   ·rw[if_pos e]at q; exact absurd rfl q
   ·rw[if_neg e]at q ⊢; exact ih q
end
section
variable{ps:List Int}{s s':Fs}{n m:Nat}{q8:List yD}{t p:Int}{α β:yK}{r:xF}{N M:Nat}{Q:Kv}
def UM(h:wJ q8 t α)(h':wJ q8 t β):α=β:=by
 have no:∀{γ:yK}{s:List Nat},yL q8 t γ->y9 q8 t=some (.key s)->False:=fun {γ s} h e=>by
  cases γ with
  | n=>exact yD.noConfusion (qN (h.symm.trans e))
  | i x=>exact yD.noConfusion (qN (h.symm.trans e))
  | a x=>exact v4 h fun z0 z0 h=>yD.noConfusion (qN (h.1.symm.trans e))
  | t x=>exact v4 h fun z0 z0 h=>yD.noConfusion (qN (h.1.symm.trans e))
 exact h.elim (fun h=>h'.elim (pL h) fun⟨e,s,k⟩=>(no h k).elim) fun⟨e,s,k⟩=>h'.elim (fun h'=>(no h' k).elim) fun z=>e.trans z.1.symm
def yZ.hold(i:bD ps s)(hx:wJ s.q8 t α):yZ ps s 1 [] (s.hold (xQ s.holds t (.bool (xD ps α)))):=by
 refine⟨⟨i.nd,i.base,fun e he=>(tC he).elim (i.ho e) fun z=>z▸⟨α,hx,rfl⟩,i.bg,i.ks,i.sv⟩,List.prefix_refl _,rfl,rfl,?_,fun z0 h=>.inl h,fun e=>⟨.inl,fun h=>h.elim id fun h=>absurd h qW⟩⟩
 have:=YS (es:=s.holds) (k:=t) (v:=.bool (xD ps α))
 exact yX [_,_,_,_,_,_] (LF.c 1 (.v 0) (.a (.v 1) (.k 1)) .n) 0 (.a (.a (.a (.a (.v 2) (.v 3)) (.v 0)) (.v 4)) (.v 5)) (.a (.a (.a (.a (.a (.v 2) (.v 3)) (.v 1)) (.v 4)) (.v 5)) (.k 1)) rfl this
def cH:s.q8.length<=s.sz:=qF (qF (qF (qJ ..) (qJ ..)) (qJ ..)) (qJ ..)
def NJ:s.holds.length<=s.sz:=qF (qF (qP ..) (qJ ..)) (qJ ..)
def q42:(vI ps).all q0Q=true:=K1
def cS(h:wJ q8 t α):∃r,y9 q8 t=some r/\GQ r=true/\∀x,r=.par x->α=.i x:=v4 (g6 (ps:=[]) h) fun r z0 z=>⟨r,z.1,z.2.1,z.2.2.2.2.2.1⟩
def c8(hN:4<=N)(i:bD ps s)(hl:s.sz<lim)(hx:wJ s.q8 t α)(hz:tH α<64)(K:∀hv,yZ ps s 1 [] (s.hold hv)->Q (.bool (xD ps α)) (fS ps (s.hold hv) r [])):y4 D N "names_infer" [] [.ref true 4,.int t] Q (fS ps s r []):=by
 refine cm hN (d:=dA) rfl rfl fun M hM=>?_;refine bc (b:=!(y8 s.holds t).isSome) (fun h=>?_) fun h=>?_
 ·refine EE (ps:=ps) (G:=H8 ps s r) hM (qF cH (z9 hl)) hx hz fun xs e=>?_;refine la (γ:=Bool) ["pid"] "hit" .int .bool (fun z0=>fS ps s r []) (fun r g=>(g||r.any ps.contains)=xD ps α) rfl rfl (fun f g h=>?_) (fun x r f g h W w=>?_) (Eq.trans (Bool.false_or _) e)
  ·have h:g=xD ps α:=(Bool.or_false g).symm.trans h;subst h;refine fd (qI NJ hl) ?_;refine sv DF ?_;exact K _ (yZ.hold i hx)
  ·refine bc (fun e=>?_) fun e=>?_
   ·subst e;exact w _ true rfl (.set (.set (.set (.mx rfl) rfl) rfl) rfl) h
   ·subst e;refine kt q42 ?_;refine w _ ((vI ps).any (GB x)) rfl (.set (.set (.set (.mx rfl) rfl) rfl) rfl) ?_;exact(cU)▸h
 ·cases hk:y8 s.holds t with
  | none=>rw[hk]at h; exact j0 h
  | some v =>
   refine sv hk ?_;refine(i.ho _ (mW hk)).elim fun β zz=>?_;cases UM hx zz.1;cases (zz.2:v=_);exact K s.holds (yZ.refl i)
def jI(hN:1<=N)(hl:s.sz<lim)(hx:wJ s.q8 t α)(K:Q (.int (nR ps α)) (fS ps s r [])):y4 D N "naked_pid" [] [.ref true 4,.int t] Q (fS ps s r []):=by
 refine cm hN (d:=rH) rfl rfl fun M hM=>?_;refine gZ (cS hx) fun rw_ hr ar hp=>?_;refine gr hr (qF cH (z9 hl)) ?_;have no:(∀x,α≠.i x)->nR ps α=-1:=fun h=>by
  cases α with
  | i x=>exact absurd rfl (h x)
  | _=>rfl
 have nk:(∀x,rw_≠.par x)->Q (.int (-1)) (fS ps s r []):=fun h=>no (fun x e=>by
  subst e;exact hx.elim (fun z=>h x (qN (hr.symm.trans z))) fun z=>yK.noConfusion z.1)▸K
 cases rw_ with
 | par x =>
  rw[hp x rfl]at K;refine kt q42 ?_;rw[cU];have K:Q (.int (if x∈ps then x else -1)) (fS ps s r []):=K;refine bc (fun e=>?_) fun e=>?_
  ·rw[if_pos (qX.mp e)]at K;exact K
  ·rw[if_neg fun m=>j0 ((qX.mpr m).symm.trans e)]at K;exact K
 | key _=>exact nk fun z0 h=>yD.noConfusion h
 | num _ _=>exact nk fun z0 h=>yD.noConfusion h
 | arr _ _=>exact nk fun z0 h=>yD.noConfusion h
 | tpl _ _=>exact nk fun z0 h=>yD.noConfusion h
 | _=>exact wQ ar
end
def Fs.see(s:Fs)(key:List V)(c lv:Int):Fs:=⟨s.q8,s.bag,xQ s.seen key (.int c),s.holds,s.c,lv,s.lw⟩
section
variable{ps:List Int}{s s' s2:Fs}{n m:Nat}{E:List Ev}{t s0 w c l:Int}{key:List V}{r:xF}{N M k:Nat}{Q:Kv}
def U8:s.seen.length<=s.sz:=qF (qF (qF (qP ..) (qJ ..)) (qJ ..)) (qJ ..)
def QC:(s.see key c l).sz<=s.sz+1:=by
 have:=YS (es:=s.seen) (k:=key) (v:=.int c)
 exact yX [_,_,_,_,_,_] (LF.c 1 (.v 0) (.a (.v 1) (.k 1)) .n) 0 (.a (.a (.a (.a (.v 2) (.v 0)) (.v 3)) (.v 4)) (.v 5)) (.a (.a (.a (.a (.a (.v 2) (.v 1)) (.v 3)) (.v 4)) (.v 5)) (.k 1)) rfl this
def QB(i:bD ps s):bD ps (s.see key c l):=⟨i.nd,i.base,i.ho,i.bg,i.ks,fun e he=>(tC he).elim (i.sv e) fun z=>z▸⟨c,rfl⟩⟩
def VZ(h:yZ ps (s.see key 0 (s.lv+1)) n E s2)(abs:gH ps s2 (fun z0=>True) key):yZ ps s (n+2) E (s2.see key c (s2.lv-1)):=by
 refine⟨QB h.inv,h.pre,?_,h.lw,qF QC ?_,fun e he=>?_,h.ev⟩
 ·show s2.lv-1=s.lv;exact(h.lv)▸(Int.add_sub_cancel ..)
 ·exact yX [_,_,_,_] (LF.c 1 (.v 0) (.a (.v 1) (.v 2)) (LF.c 1 (.v 1) (.a (.v 3) (.k 1)) .n)) 0 (.a (.v 0) (.k 1)) (.a (.v 3) (.a (.v 2) (.k 2))) rfl h.sz (QC (s:=s) (key:=key) (c:=0) (l:=s.lv+1))
 ·have A:∀{e:List V×V},e.1=key->gH ps (s2.see key c (s2.lv-1)) (fun z0=>True) e.1:=fun z=>z▸abs;refine(tC he).elim (fun he=>?_) fun z=>.inr (.inl (A (congrArg Prod.fst z)));refine(h.sk e he).elim (fun z=>?_) fun z=>z.elim (fun z=>.inr (.inl z)) fun z=>z.elim fun e' z=>?_
  ·exact(tC z).elim .inl fun z=>.inr (.inl (A (congrArg Prod.fst z)))
  ·exact(tC z.1).elim (fun y=>.inr (.inr ⟨e',y,z.2⟩)) fun y=>.inr (.inl (A (z.2.symm.trans (congrArg Prod.fst y))))
def O3(hN:k+1<=N)(i:bD ps s)(hl:s.sz+n+2<=lim)
  (body:∀M,k<=M->∀Q:Kv,(∀s2,yZ ps (s.see (bZ s0 t w) 0 (s.lv+1)) n E s2->Q .none (fS ps s2 r []))->y4 D M "seek_forced" [] [.ref true 4,.int s0,.int t,.int 0] Q (fS ps (s.see (bZ s0 t w) 0 (s.lv+1)) r []))
  (hkey:∀s2:Fs,s.q8 <+: s2.q8->(∀e,XR s2 e↔XR s e\/e∈E)->gH ps s2 (fun z0=>True) (bZ s0 t w))
  (K:∀s',yZ ps s (n+2) E s'->Q .none (fS ps s' r [])):y4 D N "seek_pair" [] [.ref true 4,.tup (bZ s0 t w)] Q (fS ps s r []):=by
 refine cm hN (d:=rK) rfl rfl fun M hM=>?_;refine fd (qI U8 (qQ (qI (qJ _ n) (zG (by decide))) hl)) ?_;refine body M hM _ fun s2 st=>?_;have lr:s2.seen.length<lim:=by
  have b:=QC (s:=s) (key:=bZ s0 t w) (c:=0) (l:=s.lv+1);exact qI (qF U8 (qF st.sz (qR b n))) (qQ (by exact yX [_,_] LF.n 0 (.a (.a (.a (.v 0) (.k 1)) (.v 1)) (.k 1)) (.a (.a (.v 0) (.v 1)) (.k 2)) rfl) hl)
 refine bc (b:=decide (s.c<s2.c)) (fun e=>?_) fun e=>?_
 ·refine fd lr ?_;exact(fun c=>K _ (VZ (c:=c) st (hkey s2 st.pre st.ev))) 1
 ·refine fd lr ?_;exact(fun c=>K _ (VZ (c:=c) st (hkey s2 st.pre st.ev))) 0
end
noncomputable def K0:yK->Nat
 | .i _=>80
 | _=>6
noncomputable def PC:Nat->Nat
 | 0=>0
 | d+1=>3*(6*PC d+210)+20
noncomputable def SC(α:yK)(d m:Nat):Nat:=m*PC d+K0 α
set_option genCtorIdx false in
structure f5 (ps:List Int) (d need:Nat) (s:Fs):Prop where
 inv:bD ps s
 lw:s.lw=0
 lv:s.lv+d<24
 sk:∀e∈s.seen,gH ps s (fun α=>u9 α<=d) e.1
 sz:s.sz+need<=lim
def wV(ps:List Int)(r:xF)(d:Nat):Prop:=∀(α:yK)(t s0:Int)(κ:Kd)(s:Fs)(N:Nat)(Q:Kv),u9 α<=d->j4 α->tH α<64->wJ s.q8 t α->wO s.q8 s0 κ->xB κ->nl κ<=6->f5 ps d (SC α d (nl κ)) s->16*d+20<=N ->
 (∀s',yZ ps s (SC α d (nl κ)) (walk ps α κ) s'->Q .none (fS ps s' r []))->y4 D N "seek" [] [.ref true 4,.int s0,.int t,.int 0] Q (fS ps s r [])
section
variable{ps:List Int}{s s' s2:Fs}{n m d d' need need':Nat}{E:List Ev}{t s0 w c l x:Int}{key:List V}{α:yK}{κ:Kd}{r:xF}{N M k:Nat}{Q:Kv}
theorem JW:∀{d d':Nat},d<=d'->PC d<=PC d'
 | 0,d',_=>zA _
 | d+1,0,h=>absurd h (Nat.not_succ_le_zero _)
 | d+1,d'+1,h=>qR (zR 3 (qR (zR 6 (JW (zJ h))) 210)) 20
def yZ.old(h:yZ ps s n [] s')(o:∀e∈E,XR s e):yZ ps s n E s':=⟨h.inv,h.pre,h.lv,h.lw,h.sz,h.sk,fun e=>(h.ev e).trans ⟨fun z=>.inl (z.elim id fun z=>absurd z qW),fun z=>.inl (z.elim id (o e))⟩⟩
def f5.step(h:f5 ps d need s)(st:yZ ps s n E s')(hn:n+need'<=need):f5 ps d need' s':=by
 refine⟨st.inv,st.lw.trans h.lw,st.lv▸h.lv,fun e he=>?_,qF (qR st.sz need') (qF (qK (Nat.add_assoc ..)) (qF (qL hn _) h.sz))⟩;have up:∀e'∈s.seen,gH ps s' (fun α=>u9 α<=d) e'.1:=fun e' he=>(h.sk e' he).mono st.pre (fun e he=>(st.ev e).mpr (.inl he)) fun z0 x=>x;exact(st.sk e he).elim (up e) fun z=>z.elim (fun z=>z.mono (List.prefix_refl _) (fun e he=>he) fun z0 z0=>trivial) fun z=>z.elim fun e' z=>z.2▸up e' z.1
def f5.le(h:f5 ps d need s)(hd:d'<=d)(hn:need'<=need):f5 ps d' need' s :=
 ⟨h.inv,h.lw,Int.lt_of_le_of_lt (Int.add_le_add_left (Int.ofNat_le.mpr hd) _) h.lv,fun e he=>(h.sk e he).mono (List.prefix_refl _) (fun e he=>he) fun z0 x=>qF x hd,qF (qL hn _) h.sz⟩
def U0(hN:5<=N)(i:bD ps s)(hl:s.sz<lim)(hx:wJ s.q8 t α)(hz:tH α<64)(hm:xD ps α=false)(K:∀hv,yZ ps s 1 [] (s.hold hv)->Q .none (fS ps (s.hold hv) r [])):y4 D N "seek" [] [.ref true 4,.int s0,.int t,.int 0] Q (fS ps s r []):=by
 refine cm hN (d:=o2) rfl rfl fun M hM=>?_;refine c8 hM i hl hx hz fun hv st=>?_;exact(hm)▸(K hv st)
def aI(hN:6<=N)(h:PS ps)(i:bD ps s)(hw:s.lw=0)(hl:s.sz+66<=lim)(hx:wJ s.q8 t (.i x))(hp:x∈ps)(hs:wO s.q8 s0 κ)(hk:xB κ)(hn:nl κ<=54)(K:∀s',yZ ps s 67 [(true,x,kU κ)] s'->Q .none (fS ps s' r [])):y4 D N "seek" [] [.ref true 4,.int s0,.int t,.int 0] Q (fS ps s r []):=by
 refine cm hN (d:=o2) rfl rfl fun M hM=>?_;refine c8 (lv hM) i ((qQ (zG (by decide)) hl:s.sz<lim)) hx (show 1<64 from by decide) fun hv st=>?_;rw[show xD ps (.i x)=true from qX.mpr hp];refine jI (lv hM) (qQ (zG (by decide)) ((qF (qR st.sz 65) (qF (qK (Nat.add_assoc ..)) hl):(s.hold hv).sz+65<=lim))) hx ?_;rw[show nR ps (.i x)=x from if_pos hp];refine dt (h.all (P:=fun x=>0<=x) hp (by decide) (by decide) (by decide)) ?_;refine q1J hM h hp st.inv (st.lw.trans hw) hs hk hn ((qF (qR st.sz 65) (qF (qK (Nat.add_assoc ..)) hl):(s.hold hv).sz+65<=lim)) fun s2 st2=>?_;exact K s2 ((st.trans st2).le (by decide))
def eP(hN:k+6<=N)(ew:min s.lw 1=w)(i:bD ps s)(hl:s.sz+n+4<=lim)(hx:wJ s.q8 t α)(hz:tH α<64)(hm:xD ps α=true)(hnk:nR ps α=-1)(hlv:s.lv<24)
  (old:(∃e∈s.seen,e.1=bZ s0 t w)->∀e∈E,XR s e)
  (body:∀M,k+4<=M->∀hv(Q:Kv),(∀s2,yZ ps ((s.hold hv).see (bZ s0 t w) 0 (s.lv+1)) n E s2->Q .none (fS ps s2 r []))->yZ ps s 1 [] (s.hold hv)->y4 D M "seek_forced" [] [.ref true 4,.int s0,.int t,.int 0] Q (fS ps ((s.hold hv).see (bZ s0 t w) 0 (s.lv+1)) r []))
  (hkey:∀s2:Fs,s.q8 <+: s2.q8->(∀e,XR s2 e↔XR s e\/e∈E)->gH ps s2 (fun z0=>True) (bZ s0 t w))
  (K:∀s',yZ ps s (n+4) E s'->Q .none (fS ps s' r [])):y4 D N "seek" [] [.ref true 4,.int s0,.int t,.int 0] Q (fS ps s r []):=by
 refine cm hN (d:=o2) rfl rfl fun M hM=>?_;refine c8 (qF (qP 4 (k+1)) hM) i ((qQ (qI (qJ _ n) (zG (by decide))) hl:s.sz<lim)) hx hz fun hv st=>?_;rw[hm];have l2:(s.hold hv).sz+n+2<lim:=qI (qR (qR st.sz n) 2) (qQ (by exact yX [_,_] LF.n 0 (.a (.a (.a (.a (.v 0) (.k 1)) (.v 1)) (.k 2)) (.k 1)) (.a (.a (.v 0) (.v 1)) (.k 4)) rfl) hl);refine jI (qF (qP 1 (k+4)) hM) ((qI (qF (qJ _ n) (qJ _ 2)) l2:(s.hold hv).sz<lim)) hx ?_;rw[hnk];refine bf (b:=!decide (t=t)) (congrArg not (zU rfl)) ?_;subst ew;show bb (y8 s.seen (bZ s0 t (min s.lw 1))).isSome _ _;cases hk:y8 s.seen (bZ s0 t (min s.lw 1))with
 | some v =>
  refine(i.sv _ (mW hk)).elim fun c hc=>?_;cases (hc:v=_);refine sv hk ?_;exact K _ (((st.le (qP 1 (n+3))).old (old ⟨_,mW hk,rfl⟩)).reg (s.c+c))
 | none =>
  refine dt hlv ?_;refine O3 (k:=k+4) (n:=n) (E:=E) hM st.inv (z9 l2) (fun M hM Q K'=>body M hM hv Q K' st) (fun s2 p2 ev2=>hkey s2 p2 fun e=>(ev2 e).trans (or_congr ((st.ev e).trans ⟨fun h=>h.elim id fun h=>absurd h qW,.inl⟩) Iff.rfl)) fun s2 st2=>?_;exact K s2 (((st.trans st2).le (by exact yX [_] LF.n 0 (.a (.k 1) (.a (.v 0) (.k 2))) (.a (.v 0) (.k 4)) rfl)).eq fun e=>Iff.rfl)
end
end
section
open PySem
def q3H:∀x:Un,(xR (.str x.word)).canLay0=true
 | .undef=>by decide +kernel | .null=>by decide +kernel | .number=>by decide +kernel | .num false false=>by decide +kernel | .num false true=>by decide +kernel | .num true false=>by decide +kernel | .num true true=>by decide +kernel | .str false=>by decide +kernel | .str true=>by decide +kernel
mutual
theorem AE:∀p:Pt,PyData.canLayAll0 (bB (SS p))=true
 | .u x=>kQ (by decide +kernel:(xR (.str [117])).canLay0=true) (kQ (q3H x) rfl)
 | .a _ k=>kQ (by decide +kernel:(xR (.str [97])).canLay0=true) (kQ rfl (kQ (D2 k) rfl))
 | .t _ l=>kQ (by decide +kernel:(xR (.str [116])).canLay0=true) (kQ rfl (kQ (AC l) rfl))
theorem D2:∀k:List Pt,PyData.canLayAll0 (bB (jL k))=true
 | []=>rfl
 | p::k=>kQ (AE p) (D2 k)
theorem AC:∀l:List (List Pt×Int),PyData.canLayAll0 (bB (jY l))=true
 | []=>rfl
 | (k,_)::l=>kQ (kQ (D2 k) rfl) (AC l)
end
noncomputable def aT:V:=.tup [.str [117],.str [117,110,100,101,102,105,110,101,100]]
def NR:∀p:Pt,PyData.eqv (xR (jR p)) (xR aT)=g4 p
 | .u .undef=>by decide +kernel | .u .null=>by decide +kernel | .u .number=>by decide +kernel | .u (.num false false)=>by decide +kernel | .u (.num false true)=>by decide +kernel | .u (.num true false)=>by decide +kernel | .u (.num true true)=>by decide +kernel | .u (.str false)=>by decide +kernel | .u (.str true)=>by decide +kernel
 | .a _ _=>rfl
 | .t _ _=>rfl
def ID(p:Pt):((xR (jR p)).canLay0&&((xR aT).canLay0&&Nat.ble (xR aT).depth 20))=true:=kQ (AE p) (by decide +kernel)
def yU(ps:List Int):yK->Pt->List Ev
 | .a α,p=>match yO p with
  | some q=>walk ps α (yF (q.flatMap yR))
  | none=>[]
 | .t l,p=>match yO p with
  | some q=>if lM p||!apart (q.map (·.2)) (l.map (·.2))then jG ps (wK q (l.map (·.2))) l 0 else[]
  | none=>[]
 | _,_=>[]
def ZV{α β:Type}(l:List α):l.flatMap (fun z0=>([]:List β))=[]:=by
 induction l with
 | nil=>rfl
 | cons x l ih=>exact ih
def bW(ps:List Int)(k:Kd):∀α:yK,walk ps α k=M6 true ps α k++k.flatMap (yU ps α)
 | .n=>(ZV k).symm
 | .i x=>(congrArg (M6 true ps (.i x) k++·) (ZV k)).symm▸(qS _).symm
 | .a _=>rfl
 | .t _=>rfl
def xT(ps:List Int)(gf:Nat->Option Kd)(l:List (yK×Int))(i:Nat):List Ev:=match gf i,l[i]? with
 | some k,some q=>x8 ps q.1 q.2 k
 | _,_=>[]
def uK(ps:List Int)(gf:Nat->Option Kd)(l:List (yK×Int)):jG ps gf l 0=(List.range l.length).flatMap (xT ps gf l):=by
 have H:∀(l pre:List (yK×Int)),jG ps gf l pre.length=(List.range' pre.length l.length).flatMap (xT ps gf (pre++l)):=by
  intro l
  induction l with
  | nil=>exact fun pre=>rfl
  | cons q r ih =>
   intro pre;have h:=ih (pre++[q]);rw[qM,qZ]at h;rw[List.length_cons,List.range'_succ,List.flatMap_cons];refine congr (congrArg _ ?_) h;unfold xT;rw[List.getElem?_append_right (qT _),Nat.sub_self];cases gf pre.length <;> rfl
 exact(H l []).trans (congrArg (List.flatMap _) List.range_eq_range'.symm)
end
section
noncomputable def wN:List String:=["part","places","at","gift","goal","tag","rest"]
noncomputable def q0V:List String:=["at","gift","goal","tag","rest"]
noncomputable def w0(k:Kd)(α:yK):y5:=y5.set (y5.set (y5.set (y5.set xV "kind" (kv k)) "aim" (uA α)) "found" (.ref true 18)) "low" (.ref true 22)
noncomputable def wρ(k:Kd)(α:yK)(f:y5)(p:Pt)(q:vB):y5:=y5.set (y5.set (y5.mix (w0 k α) wN f) "part" (jR p)) "places" (.lst (jY q))
noncomputable def q33:Sx->List Sx
 | .iff _ b _=>b
 | _=>[]
noncomputable def iD:List Sx:=o8 (dU.body.getD 1 .bad)
noncomputable def q79:List Sx:=o8 ((q33 (iD.getD 3 .bad)).getD 0 .bad)
section
variable{q8:List yD}{ps:List Int}{r:xF}{k:Kd}{E:List Ev}{N M:Nat}{Q:Kv}{α:yK}{l:List (yK×Int)}{q:vB}{p:Pt}{f f':y5}{K:Kf}
def f7(q8:List yD)(ps:List Int)(r:xF)(α:yK):Prop:=∀(k:Kd),xB k->nl k<=6->∀(N:Nat),14+u9 α<=N->∀(E:List Ev)(Q:Kv),(E++walk ps α k).length<lim->Q .none (jT q8 ps (wP (E++walk ps α k)) r [])->y4 D N "_law_walk" [] [kv k,uA α,.ref true 18,.ref true 22] Q (jT q8 ps (wP E) r [])
def uZ{q:yK×Int}(h:JU l)(hq:q∈l):j4 q.1:=by
 induction hq with
 | head=>exact h.1
 | tail _ _ ih=>exact ih h.2
def uX{q:yK×Int}(hq:q∈l):u9 q.1<=H3 l:=by
 induction hq with
 | head=>exact zP ..
 | tail _ _ ih=>exact qF ih (zQ ..)
def tN:∀{s:List Int},s∈AT->s.length<=3:=by unfold AT; decide
def IZ(g:Kd):(g.filterMap fun p=>bif !PySem.PyData.eqv (xR (jR p)) (xR aT)then some (jR p)else none)=jL (yE g):=by
 unfold yE
 induction g with
 | nil=>rfl
 | cons x r ih =>
  rw[List.filterMap_cons,List.filter_cons,NR];cases g4 x with
  | true=>exact ih
  | false=>exact congrArg (jR x::·) ih
def EL{g:Kd}{a:yK×Int}{ρ:y5}(hM:13+(u9 a.1+1)<=M)(h:PS ps)(IH:f7 q8 ps r a.1)(hg:xB g)(gn:nl g<=6)(hE:(E++x8 ps a.1 a.2 g).length<lim)(e1:ρ "gift"=some (kv g)) (e2:ρ "goal"=some (uA a.1)) (e3:ρ "tag"=some (.int a.2)) (e4:ρ "rest"=some (kv (yE g))) (e5:ρ "found"=some (.ref true 18)) (e6:ρ "low"=some (.ref true 22))
  (k:K .next ρ (jT q8 ps (wP (E++x8 ps a.1 a.2 g)) r [])):xA (xP D (y4 D M)) (q79.drop 4) ρ K (jT q8 ps (wP E) r []):=by
 have hN:14+u9 a.1<=M:=qF (qK (by rw[<-Nat.add_assoc,Nat.add_right_comm])) hM;have n:=yH hg;refine lo e3 ?_;unfold x8 at hE k
 by_cases t:a.2=1
 ·rw[if_neg (fun z=>z t)]at hE k;refine bf (b:=!decide (a.2=1)) (congrArg not (zU t)) ?_;refine lo e4 ?_;cases hu:yE g with
  | nil =>
   rw[if_pos hu]at hE k;refine lo e1 ?_;refine lo e2 ?_;refine lo e6 ?_;exact BV (w:=false) (qF (qF (by decide:11<=14) (qJ ..)) hN) h hg (qF gn (by decide)) (qI (qM.symm▸qJ ..) hE) k
  | cons y m =>
   rw[if_neg (fun z=>List.cons_ne_nil _ _ (hu.symm.trans z))]at hE k;refine ft (by rw[<-hu,xU,qH]; exact z9 (Nat.lt_trans (n.1.len (qF n.2 (qF gn (by decide)))) (by decide))) ?_;refine lo e4 ?_;refine lo e2 ?_;refine lo e5 ?_;refine lo e6 ?_;exact IH _ n.1 (qF n.2 gn) M hN E _ hE k
 ·rw[if_pos t]at hE k;refine bt (b:=!decide (a.2=1)) (congrArg not (decide_eq_false t)) ?_;refine lo e1 ?_;refine lo e2 ?_;refine lo e5 ?_;refine lo e6 ?_;exact IH g hg gn M hN E _ hE k
def KT{i:Nat}(hi:i<l.length)(g:Option Kd):(match g,l[i]? with
  | some k,some q=>x8 ps q.1 q.2 k
  | _,_=>[])=match g with
  | some k=>x8 ps l[i].1 l[i].2 k
  | none=>[]:=by
 rw[zS hi];cases g <;> rfl
def q5F{i:Nat}{x:Int}(hM:13+u9 (.t l)<=M)(h:PS ps)(IH:∀a∈l,f7 q8 ps r a.1)(hq:bE q)(hT:l.map (·.2)∈AT)(hi:i<l.length)(hx:x=(i:Nat))(hE:(E++xT ps (wK q (l.map (·.2))) l i).length<lim)
  (k1:∀fl ρ',fl=.next\/fl=.cont->Ag q0V (wρ k (.t l) f p q) ρ'->K fl ρ' (jT q8 ps (wP (E++xT ps (wK q (l.map (·.2))) l i)) r [])):xA (xP D (y4 D M)) q79 (y5.set (y5.mix (wρ k (.t l) f p q) q0V f') "at" (.int x)) K (jT q8 ps (wP E) r []):=by
 subst hx;have l3:l.length<=3:=qH (f:=(·.2)) (as:=l)▸tN hT;refine EK (l:=q) (A:=l) (enc:=uA) (qF (qF (by decide:12<=13) (qJ ..)) hM) hq (jN l) hT l3 hi ?_;cases hg:wK q (l.map (·.2)) i with
 | none =>
  rw[show xT ps (wK q (l.map (·.2))) l i=[]from(KT hi _).trans (by rw[hg]),qS]at k1;exact k1 .cont _ (.inr rfl) (.set (.set .mix rfl) rfl)
 | some g =>
  rw[show xT ps (wK q (l.map (·.2))) l i=x8 ps l[i].1 l[i].2 g from(KT hi _).trans (by rw[hg])]at hE k1;have go:=tZ hq hg;refine ix (v:=sB uA l[i]) (by rw[jN,List.getElem?_map,zS hi]; rfl) (qQ hi (qF l3 (by decide))) ?_;refine ft (by rw[xU,qH]; exact z9 (Nat.lt_trans (go.1.len (qF go.2 (by decide))) (by decide))) ?_;refine NY jR (fun p=>bif !PySem.PyData.eqv (xR (jR p)) (xR aT)then some (jR p)else none) id (xU g) (fun p z0 K' hK=>kt (ID p) (bi (K:=fun o=>K' o _) hK)) ?_;rw[IZ];refine EL (a:=l[i]) (ρ:=y5.set (y5.set (y5.set (y5.set (y5.set (y5.mix (wρ k (.t l) f p q) q0V f') "at" (.int i)) "gift" (kv g)) "goal" (uA l[i].1)) "tag" (.int l[i].2)) "rest" (kv (yE g))) (qF (qL (z7 (uX (List.getElem_mem hi))) 13) hM) h (IH _ (List.getElem_mem hi)) go.1 go.2 hE rfl rfl rfl rfl rfl rfl (k1 .next _ (.inl rfl) (.set (.set (.set (.set (.set .mix rfl) rfl) rfl) rfl) rfl))
def YC{α:Type}{a b c:List α}{n:Nat}(e:a++b=c)(h:c.length<n):a.length<n:=qI (e▸qM.symm▸qJ ..) h
def t9(hp:yO p=some q):yU ps (.t l) p=if lM p||!apart (q.map (·.2)) (l.map (·.2))then jG ps (wK q (l.map (·.2))) l 0 else[]:=by
 cases p with
 | u x=>exact wF hp
 | _=>cases hp; rfl
def P5{K:Kf}(hα:(∀β,α≠.a β)/\∀l,α≠.t l)(k1:K .next (wρ k α f p q) (jT q8 ps (wP E) r [])):xA (xP D (y4 D M)) (iD.drop 2) (wρ k α f p q) K (jT q8 ps (wP E) r []):=by
 cases α with
 | n=>exact k1
 | i x=>exact k1
 | a β=>exact absurd rfl (hα.1 β)
 | t l=>exact absurd rfl (hα.2 l)
def O4{β:yK}{K:Kf}(hM:13+u9 (.a β)<=M)(IH:f7 q8 ps r β)(hq:bE q)(hE:(E++walk ps β (yF (q.flatMap yR))).length<lim)(k1:K .next (wρ k (.a β) f p q) (jT q8 ps (wP (E++walk ps β (yF (q.flatMap yR)))) r [])):
  xA (xP D (y4 D M)) (iD.drop 2) (wρ k (.a β) f p q) K (jT q8 ps (wP E) r []):=by
 refine ft (by rw[x5,qH]; exact qF hq.len (by decide)) ?_;refine aW lC (fun q=>kv (yR q)) id (x5 _) (fun x hx K' hK=>V6 (((fun h=>qF (qF h (qJ ..)) hM:∀{n:Nat},n<=13->n<=M)) (by decide)) (hq.kok hx) (qF (hq.k x hx).2.2 (by decide)) hK) ?_;refine mU (ks:=q.map yR) (((fun h=>qF (qF h (qJ ..)) hM:∀{n:Nat},n<=13->n<=M)) (by decide)) rfl (fun z0 z0 h=>(qY (f:=yR) (g:=kv) (l:=q)).symm▸h) (fun k hk=>?_) (tX (qF (jV hq).2.1 (by decide))) ?_
 ·exact(zC.mp hk).elim fun x z=>z.2▸⟨(w9 (hq.kok z.1)).1.fit,(w9 (hq.kok z.1)).1.dp⟩
 ·exact IH _ (jV hq).1 (jV hq).2.2 M (qF (qK (Nat.add_right_comm 13 1 _)) hM) E _ hE k1
def O5{K:Kf}(hM:13+u9 (.t l)<=M)(h:PS ps)(IH:∀a∈l,f7 q8 ps r a.1)(hq:bE q)(hp:yO p=some q)(hT:l.map (·.2)∈AT)(hE:(E++yU ps (.t l) p).length<lim)
  (k1:∀ρ',Ag q0V (wρ k (.t l) f p q) ρ'->K .next ρ' (jT q8 ps (wP (E++yU ps (.t l) p)) r [])):xA (xP D (y4 D M)) (iD.drop 2) (wρ k (.t l) f p q) K (jT q8 ps (wP E) r []):=by
 have loop:(lM p||!apart (q.map (·.2)) (l.map (·.2)))=true->xA (xP D (y4 D M)) (q33 (iD.getD 3 .bad)) (wρ k (.t l) f p q) (SM (xA (xP D (y4 D M)) []) K) (jT q8 ps (wP E) r []):=fun c=>by
  have e:yU ps (.t l) p=(List.range l.length).flatMap (xT ps (wK q (l.map (·.2))) l):=(t9 hp).trans ((if_pos c).trans (uK ..));rw[e]at hE k1;refine ft (((jN l▸qH ..:(lB l).length=l.length))▸qF ((qH (f:=(·.2)) (as:=l)▸tN hT:l.length<=3)) (by decide)) ?_;refine kt (Nat.ble_eq_true_of_le (((jN l▸qH ..:(lB l).length=l.length))▸qI ((qH (f:=(·.2)) (as:=l)▸tN hT:l.length<=3)) (by decide))) ?_;rw[((jN l▸qH ..:(lB l).length=l.length))];refine lg q0V (fun i:Nat=>.int (0+(i:Int))) (fun E':List Ev=>jT q8 ps (wP E') r []) (fun rr E'=>E'++rr.flatMap (xT ps (wK q (l.map (·.2))) l)=E++(List.range l.length).flatMap (xT ps (wK q (l.map (·.2))) l)/\∀i∈rr,i<l.length) (g0:=E) rfl (fun f' E' z=>?_) (fun i rr f' E' z W w=>?_) ⟨rfl,fun i hi=>List.mem_range.mp hi⟩
  ·rw[<-z.1,List.flatMap_nil,qS]at k1;exact k1 _ .mix
  ·have z1:=z.1;rw[List.flatMap_cons,<-qZ]at z1;refine q5F hM h IH hq hT (z.2 i (.head _)) (Int.zero_add _) (YC z1 hE) fun fl ρ' hf a=>?_
   have:=w ρ' (E'++xT ps (wK q (l.map (·.2))) l i) a ⟨z1,fun j hj=>z.2 j (.tail _ hj)⟩
   exact hf.elim (fun e=>e▸this) fun e=>e▸this
 have no:(lM p||!apart (q.map (·.2)) (l.map (·.2)))=false->K .next (wρ k (.t l) f p q) (jT q8 ps (wP E) r []):=fun c=>by
  rw[(((t9 hp).trans (if_neg fun z=>j0 (z.symm.trans c)):yU ps (.t l) p=[])),qS]at k1;exact k1 _ fun z0 z0=>rfl
 cases p with
 | u x=>exact wF hp
 | a ro kk=>exact loop rfl
 | t ro l2 =>
  cases qN hp;refine MO (enc:=kv) (enb:=uA) (qF (qF (by decide:1<=13) (qJ ..)) hM) (x5 _) (jN l) hq.len ((qH (f:=(·.2)) (as:=l)▸tN hT:l.length<=3)) ?_;exact bc (fun c=>loop c) fun c=>no c
end
section
variable{q8:List yD}{ps:List Int}{r:xF}{k:Kd}{E:List Ev}{N M:Nat}{Q:Kv}{α:yK}{l:List (yK×Int)}{q:vB}{p:Pt}{f f':y5}{K:Kf}
def fW{x:Un}:yU ps α (.u x)=[]:=by cases α <;> rfl
def nT{β:yK}(hp:yO p=some q):yU ps (.a β) p=walk ps β (yF (q.flatMap yR)):=by
 cases p with
 | u x=>exact wF hp
 | _=>cases hp; rfl
def P6(hM:13+u9 α<=M)(h:PS ps)(IH:∀β,u9 β<u9 α->j4 β->f7 q8 ps r β)(fa:j4 α)(hq:bE q)(hp:yO p=some q)(hE:(E++yU ps α p).length<lim)
  (k1:∀ρ',Ag q0V (wρ k α f p q) ρ'->K .next ρ' (jT q8 ps (wP (E++yU ps α p)) r [])):xA (xP D (y4 D M)) (iD.drop 2) (wρ k α f p q) K (jT q8 ps (wP E) r []):=by
 cases α with
 | n=>exact P5 ⟨fun z0 e=>yK.noConfusion e,fun z0 e=>yK.noConfusion e⟩ (qS E▸k1 _ fun z0 z0=>rfl)
 | i x=>exact P5 ⟨fun z0 e=>yK.noConfusion e,fun z0 e=>yK.noConfusion e⟩ (qS E▸k1 _ fun z0 z0=>rfl)
 | a β =>
  rw[nT hp]at hE k1;exact O4 hM (IH β (Nat.lt_succ_self _) fa) hq hE (k1 _ fun z0 z0=>rfl)
 | t l=>exact O5 hM h (fun a ha=>IH a.1 (Nat.lt_succ_of_le (uX ha)) (uZ fa.1 ha)) hq hp fa.2 hE k1
def G7(h:PS ps)(fa:j4 α)(IH:∀β,u9 β<u9 α->j4 β->f7 q8 ps r β):f7 q8 ps r α:=fun k hk hn N hN E Q hE K=>by
 rw[bW,<-qZ]at hE K;have hE0:=YC rfl hE;have hN':13+u9 α+1<=N:=qF (qK (Nat.add_right_comm 13 _ 1)) hN;refine cm hN' (d:=dU) rfl rfl fun M hM=>?_;refine BV (w:=true) (qF (qF (by decide:11<=13) (qJ ..)) hM) h hk (qF hn (by decide)) (YC rfl hE0) ?_;refine lg wN jR (fun E':List Ev=>jT q8 ps (wP E') r []) (fun rr E'=>E'++rr.flatMap (yU ps α)=(E++M6 true ps α k)++k.flatMap (yU ps α)/\∀p∈rr,p∈k) (xU k) (fun f' E' z=>?_) (fun p rr f' E' z W w=>?_) ⟨rfl,fun z0 h=>h⟩
 ·rw[<-z.1,List.flatMap_nil,qS]at K;exact K
 ·have z1:=z.1;rw[List.flatMap_cons,<-qZ]at z1;have pk:=hk.pt p (z.2 p (.head _));have go:∀ρ',Ag wN (w0 k α) ρ'->W ρ' (jT q8 ps (wP (E'++yU ps α p)) r []):=fun ρ' a=>w ρ' _ a ⟨z1,fun x hx=>z.2 x (.tail _ hx)⟩;cases p with
  | u x =>
   rw[fW,qS]at go;exact go _ (.set .mix rfl)
  | a ro kk=>exact P6 (p:=.a ro kk) (q:=[(kk,2)]) hM h IH fa (jP pk.1 pk.2 rfl) rfl (YC z1 hE) fun ρ' a=>go ρ' (.tr (.set (.set .mix rfl) rfl) a rfl)
  | t ro ll=>exact P6 (p:=.t ro ll) (q:=ll) hM h IH fa (jP pk.1 pk.2 rfl) rfl (YC z1 hE) fun ρ' a=>go ρ' (.tr (.set (.set .mix rfl) rfl) a rfl)
def NW(h:PS ps):∀n α,u9 α<=n->j4 α->f7 q8 ps r α:=fun n=>Nat.strongRecOn n fun n ih α hd fa=>G7 h fa fun β hb fb=>ih (u9 β) (qQ hb hd) β (qT _) fb
end
noncomputable def Y4:yD->Bool
 | .arr _ _=>true
 | .tpl _ _=>true
 | _=>false
section
variable{ps:List Int}{s s' s2:Fs}{n m d d' need need':Nat}{E:List Ev}{t s0 w c l x i e ro:Int}{α β:yK}{κ:Kd}{p:Pt}{r:xF}{rw_ rt:yD}{N M k:Nat}{Q:Kv}
def iF:∀s∈M4,∀x∈s,x≠3:=by unfold M4 FT; decide
def bD.rl(i:s.sz+n<=lim):s.q8.length<=lim:=qF cH (qF (qJ ..) i)
def t7(hN:1<=N)(hr:y9 s.q8 i=some rw_)(hl:s.q8.length<=lim)(K:Q (.int i) (fS ps s r [])):y4 D N "kindfind_list_of" [] [.ref true 0,.int i] Q (fS ps s r []):=by
 refine cm hN (d:=vU) rfl rfl fun M hM=>?_;refine gr hr hl ?_;cases rw_ <;> exact gr hr hl K
def J7{v:V}(hN:1<=N)(hr:y9 s.q8 i=some rw_)(h:Y4 rw_=false)(hl:s.q8.length<=lim)(ho:g9 v=true)(K:Q .none (fS ps s r [])):y4 D N "seek_tuple" [] [.ref true 4,.int i,v,.int 0] Q (fS ps s r []):=by
 refine cm hN (d:=vJ) rfl rfl fun M hM=>?_;refine gr hr hl ?_;cases rw_ <;> first | exact j0 h | exact K
def a8(hN:3<=N)(hr:y9 s.q8 i=some rw_)(h:Y4 rw_=false)(ht:Y4 rt=true)(hl:s.q8.length<=lim)(K:Q .none (fS ps s r [])):y4 D N "seek_one" [] [.ref true 4,.int i,.int t,.tup rt.enc,.int 0] Q (fS ps s r []):=by
 refine cm hN (d:=kE) rfl rfl fun M hM=>?_;cases rt with
 | arr e ro =>
  refine t7 (lv hM) hr hl ?_;refine cm hM (d:=vH) rfl rfl fun M2 z0=>?_;refine gr hr hl ?_;cases rw_ <;> first | exact j0 h | exact K
 | tpl es ro =>
  refine t7 (lv hM) hr hl ?_;refine cm hM (d:=uF) rfl rfl fun M2 h2=>?_;refine gr hr hl ?_;cases rw_ <;> first | exact j0 h | exact J7 h2 hr h hl rfl K
 | _=>exact wQ ht
def JV:K0 α<=80:=by cases α <;> first | exact qT _ | exact(qJ 6 74:6<=80)
def Z9(hm:m<=6):4+SC α d m<=PC (d+1):=by
 exact yX [_,_,_] (LF.c 1 (.v 0) (.m 6 (.v 1)) (LF.c 1 (.v 2) (.k 80) .n)) 0 (.a (.k 4) (.a (.v 0) (.v 2))) (.a (.m 3 (.a (.m 6 (.v 1)) (.k 210))) (.k 20)) rfl (z4 (PC d) hm) (JV (α:=α))
def RJ(IH:wV ps r d)(hN:16*d+24<=N)(hd:u9 β<=d)(fa:j4 β)(hz:tH β<64)(hx:wJ s.q8 e β)(hs:xS s.q8 i p)(fp:kO p)(dp:c6 p<=4)(R:f5 ps d (nl [p]*PC (d+1)) s)(hl:s.q8.length<=lim)
  (K:∀s',yZ ps s (nl [p]*PC (d+1)) (yU ps (.a β) p) s'->Q .none (fS ps s' r [])):y4 D N "seek_one" [] [.ref true 4,.int i,.int t,.tup (yD.arr e ro).enc,.int 0] Q (fS ps s r []):=by
 refine qG fun ng=>?_;cases p with
 | u x =>
  refine ng ?_;refine a8 (rw_:=pD x) (qF (qF (by decide) (qP 24 _)) hN) hs (by cases x <;> rfl) rfl hl (K s ?_);exact(fW)▸(yZ.refl R.inv)
 | a ro' k =>
  refine ng ?_;refine uL (hs) fun e' ids s1 s2 s3=>?_;have q:=jP (p:=.a ro' k) fp dp rfl;have n2:=(q.k _ (.head _)).2.2;have c:=Z9 (α:=β) (d:=d) (m:=nl k) (qF n2 (by decide));have n1:nl [Pt.a ro' k]*PC (d+1)=PC (d+1):=Nat.one_mul _;rw[n1]at R K;have ev:yU ps (.a β) (.a ro' k)=walk ps β k:=by
   rw[nT (q:=[(k,2)]) rfl,List.flatMap_cons,List.flatMap_nil,qS];exact congrArg _ (pB (wD fp.1) fp.2.1)
  rw[ev]at K;refine cm (k:=16*d+23) hN (d:=kE) rfl rfl fun M hM=>?_;refine t7 (qF (qP 1 _) hM) s1 hl ?_;refine cm (k:=16*d+22) hM (d:=vH) rfl rfl fun M2 h2=>?_;refine gr s1 hl ?_;refine cm (k:=16*d+21) h2 (d:=wR) rfl rfl fun M3 h3=>?_;exact IH β e e' k s M3 _ hd fa hz hx ⟨ids,s2,s3⟩ (q.kok (.head _)) (qF n2 (by decide)) (R.le (qT _) (qF (qP _ 4) c)) (zK h3) fun s' st=>K s' (st.le (qF (qP _ 4) c))
 | t ro' l =>
  refine ng ?_;refine wI (hs) fun es s1 s2=>?_;have q:=jP (p:=.t ro' l) fp dp rfl;have g:=jV q;have n1:nl [Pt.t ro' l]*PC (d+1)=PC (d+1):=Nat.one_mul _;rw[n1]at R K;have e2:(l.map yR).flatten=l.flatMap yR:=rfl;rw[nT (q:=l) rfl,<-e2]at K;rw[<-e2]at g;have c:(l.length+1)+SC β d (nl (yF (l.map yR).flatten))<=PC (d+1):=qF (qR (z7 q.len) _) (Z9 g.2.2);refine cm (k:=16*d+23) hN (d:=kE) rfl rfl fun M hM=>?_;refine t7 (qF (qP 1 _) hM) s1 hl ?_;refine cm (k:=16*d+22) hM (d:=vH) rfl rfl fun M2 h2=>?_;refine gr s1 hl ?_;refine rR (l:=l) (b:=0) (qF (qP 6 (16*d+16)) h2) (R.inv.tok (qF (qL (qF (qJ _ _) c) _) R.sz)) s2 (fun x hx=>⟨q.kok hx,(w9 (q.kok hx)).1,(q.k x hx).2.2,iF _ q.tag _ (z5 hx)⟩) q.len (qF g.2.1 (by decide)) fun t1 qA q1 q2=>?_;refine cm (k:=16*d+21) h2 (d:=wR) rfl rfl fun M3 h3=>?_;exact IH β e t1 _ (s.row qA) M3 _ hd fa hz (hx.mono q2.pre) q1 g.1 g.2.2 (R.step (yZ.tab R.inv q2) c) (zK h3) fun s' st'=>K s' (((yZ.tab R.inv q2).trans st').le c)
end
noncomputable def q1K:yD->Bool
 | .num _ _=>true | .par _=>true | .arr _ _=>true | .tpl _ _=>true
 | _=>false
section
variable{ps:List Int}{s s' s2:Fs}{q8:List yD}{ids:List Int}{es:List (Int×Int)}{l:vB}{t i:Int}{α β:yK}{al:List (yK×Int)}{p:Pt}{k:Kd}{G r:xF}{N M:Nat}{Q:Kv}{rw_:yD}
def nz{a b:Nat}{P:Prop}(h:a=b)(e:Nat.beq a b=false):P:=j0 ((Nat.beq_refl b).symm.trans ((congrArg (Nat.beq · b) h.symm).trans e))
def q2I(h:yL q8 t α)(e:y9 q8 t=some rw_):rW rw_=ZI α:=(c5 h).elim fun r z=>(congrArg rW (qN (e.symm.trans z.1))).trans z.2
def q2H(h:ZI α=0):α=.n:=by
 cases α with
 | n=>rfl
 | i x=>exact nz (a:=5) h rfl
 | a x=>exact nz (a:=1) h rfl
 | t x=>exact nz (a:=2) h rfl
def q2F(h:ZI α=1):∃β,α=.a β:=by
 cases α with
 | a x=>exact⟨x,rfl⟩
 | n=>exact nz (a:=0) h rfl
 | i x=>exact nz (a:=5) h rfl
 | t x=>exact nz (a:=2) h rfl
def q2J(h:ZI α=2):∃β,α=.t β:=by
 cases α with
 | t x=>exact⟨x,rfl⟩
 | n=>exact nz (a:=0) h rfl
 | i x=>exact nz (a:=5) h rfl
 | a x=>exact nz (a:=1) h rfl
def FD(h:yL q8 t α)(e:y9 q8 t=some rw_):q1K rw_=true:=by
 cases α with
 | n=>exact qN (h.symm.trans e)▸rfl
 | i x=>exact qN (h.symm.trans e)▸rfl
 | a x=>exact v4 h fun z0 z0 h=>qN (h.1.symm.trans e)▸rfl
 | t x=>exact v4 h fun z0 z0 h=>qN (h.1.symm.trans e)▸rfl
def FC(s:xS q8 t p)(h:yL q8 t α):ZI α=UT p:=(b8 s).elim fun r z=>(q2I h z.1).symm.trans z.2
mutual
theorem YP(h2:y9 q8 2=some (.key wZ)):∀{p:Pt}{t:Int}{α:yK},xS q8 t p->yL q8 t α->xD ps α=true->False
 | .u x,t,α,s,a,m=>wQ ((congrArg (xD ps) (q2H (FC s a))).symm.trans m)
 | .a ro k,t,α,s,a,m=>(q2F (FC s a)).elim fun β e=>by
  subst e;refine uL (s) fun e ids s1 s2 s3=>?_;refine mG (a) fun e' ro' a1 a2=>?_;cases s1.symm.trans a1;exact YN h2 s2 s3 a2 m
 | .t ro l,t,α,s,a,m=>(q2J (FC s a)).elim fun β e=>by
  subst e;refine wI (s) fun es s1 s2=>?_;refine mG (a) fun es' ro' a1 a2=>?_;cases s1.symm.trans a1;exact YO h2 s2 a2 m
theorem YN(h2:y9 q8 2=some (.key wZ)):∀{k:List Pt}{ids:List Int}{t:Int}{α:yK},yP q8 ids k->gU q8 t ids->yL q8 t α->xD ps α=true->False
 | [],[],t,α,s,h,a,m=>wQ (FD (rw_:=.key wZ) a ((h:t=2)▸h2))
 | [p],[i],t,α,s,h,a,m=>YP h2 s.1 ((h:t=i)▸a) m
 | _,_::_::_,t,α,s,h,a,m=>h.elim fun z0 h=>wQ (FD a h.1)
 | _::_::_,[i],_,_,s,_,_,_=>s.2.elim
 | [],[_],_,_,s,_,_,_=>s.elim
 | _::_,[],_,_,s,_,_,_=>s.elim
theorem YO(h2:y9 q8 2=some (.key wZ)):∀{l:List (List Pt×Int)}{es:List (Int×Int)}{al:List (yK×Int)},uV q8 es l->uU q8 es al->lW ps al=true->False
 | _,_,[],_,_,m=>wQ m
 | (k,g)::l,(e,g')::es,(x,f)::al,s,a,m=>(Bool.or_eq_true_iff.mp m).elim (fun m=>s.2.1.elim fun ids z=>YN h2 z.1 z.2 a.2.1 m) fun m=>YO h2 s.2.2 a.2.2 m
 | _,[],_::_,_,a,_=>a.elim
 | [],_::_,_::_,s,_,_=>s.elim
end
def r8(b:FIRST16 <+: q8):y9 q8 4=some (pD .undef):=kK b (k:=4) rfl
def vP(b:FIRST16 <+: q8):wJ q8 4 .n:=.inr ⟨rfl,_,r8 b⟩
def nL(h:wJ q8 t α)(m:xD ps α=true):yL q8 t α:=h.elim id fun z=>wQ ((congrArg (xD ps) z.1).symm.trans m)
def TB(hN:2<=N)(b:FIRST16 <+: q8)(hl:q8.length<=lim)(hs:xS q8 i p)(h1:i≠t)(h6:t≠6)(h7:t≠7)(hm:t≠-1)(K:Q (.bool (decide (i=4))) (tS q8 G [])):y4 D N "is_matched" [] [.ref true 0,.int i,.tup [.int t,.int 4]] Q (tS q8 G []):=by
 refine cm hN (d:=pW) rfl rfl fun M hM=>?_;have e:(vI [t,4]).any (GB i)=decide (i=4):=by
  show(decide (i=t)||(decide (i=4)||false))=_;rw[decide_eq_false h1,Bool.or_false,Bool.false_or]
 cases e4:decide (i=4)with
 | true =>
  rw[e4]at K;exact bt (e.trans e4) K
 | false =>
  rw[e4]at K;refine bf (e.trans e4) ?_;refine(b9 hs).elim fun r zz=>?_;refine gr zz.1 hl ?_;have no:∀{w:Int},w≠t->decide (w=4)=false->Q (.bool ((vI [t,4]).any (GB w))) (tS q8 G []):=fun {w} h h'=>by
   rw[show(vI [t,4]).any (GB w)=false from by show(decide (w=t)||(decide (w=4)||false))=_; rw[decide_eq_false h,h']; rfl];exact K
  cases r with
  | str _ _=>exact QX (r:=.str _ _) hM rfl (no (fun z=>h6 z.symm) rfl)
  | num _ _=>exact QX (r:=.num _ _) hM rfl (no (fun z=>h7 z.symm) rfl)
  | key _=>exact K
  | arr _ _=>exact K
  | tpl _ _=>exact K
  | _=>exact wQ zz.2.1
def aA(hN:1<=N)(hl:q8.length<=lim)(h:wJ q8 t α)(h2:t≠2)(K:Q (.tup [.int t]) (tS q8 G [])):y4 D N "parts_of" [] [.ref true 0,.int t] Q (tS q8 G []):=by
 refine cm hN (d:=dY) rfl rfl fun M hM=>?_;refine qG fun ng=>?_;refine gZ (cS h) fun rw_ hr ar z0=>?_;refine ng ?_;refine df h2 ?_;refine gr hr hl ?_;cases rw_ <;> first | exact K | exact wQ ar
def SV:∃l,rw_.enc=.int rw_.kind::l/\decide (rw_.kind=9)=false:=by cases rw_ <;> exact⟨_,rfl,rfl⟩
def MY{is:List Int}(hN:1<=N)(hl:s.q8.length<=lim)(hr:∀i∈is,∃r,y9 s.q8 i=some r)(h64:is.length<64)(K:Q (.tup [.lst (vI is),.lst [.int t,.int 4]]) (fS ps s r [])):y4 D N "close_pairs" [] [.ref true 4,.lst (vI is),.tup [.int t,.int 4],.int 0] Q (fS ps s r []):=by
 refine cm hN (d:=d8) rfl rfl fun M hM=>?_;refine lg ["part","kin","other"] V.int (fun dn:List Int=>fS ps s r [some (.list (vI dn))]) (fun r dn=>dn++r=is) (g0:=[]) rfl (fun f dn e=>?_) (fun i r' f dn e W w=>?_) rfl
 ·rw[qS]at e;subst e;exact K
 ·have l64:dn.length<64:=qI (qF (qJ _ (i::r').length) (qK (qM.symm.trans (congrArg List.length e)))) h64;refine qG fun ng=>?_;refine(hr i (e▸zM _ (.head _))).elim fun r0 hr0=>?_;refine wI (SV (rw_:=r0)) fun l e1 k9=>?_;refine ng ?_;refine gr hr0 hl ?_;rw[e1];refine bt (b:=!decide (r0.kind=9)) (congrArg not k9) ?_;refine ft (by rw[qM,qH]; exact qF (z9 (Nat.succ_lt_succ l64)) (by decide)) ?_
  have:=w (y5.set (y5.set (y5.mix (y5.set (y5.set (y5.set (y5.set (y5.set (y5.set xV "finder" (.ref true 4)) "sources" (.lst (vI is))) "targets" (.tup [.int t,.int 4])) "contra" (.int 0)) "left" (.ref false 0)) "closed" (.lst [])) ["part","kin","other"] f) "part" (.int i)) "kin" (.lst [])) (dn++[i]) (.set (.set .mix rfl) rfl) (by rw[qZ]; exact e)
  rw[show vI (dn++[i])=vI dn++[V.int i]from qU]at this;exact this
end
noncomputable def Fs.low(s:Fs)(v:Int):Fs:=⟨s.q8,s.bag,s.seen,s.holds,s.c,s.lv,v⟩
section
variable{ps:List Int}{s s' s2:Fs}{n:Nat}{E:List Ev}{t i v:Int}{α:yK}{r:xF}{N M:Nat}{Q:Kv}{rw_ rt:yD}
def UY(hN:4<=N)(hr:y9 s.q8 i=some rw_)(h6:decide (rw_.kind=6)=false)(h:Y4 rw_=false)(ht:y9 s.q8 t=some rt)(hat:Y4 rt=true)(hl:s.q8.length<=lim)(K:Q .none (fS ps s r [])):y4 D N "seek_forced" [] [.ref true 4,.int i,.int t,.int 0] Q (fS ps s r []):=by
 refine cm hN (d:=uQ) rfl rfl fun M hM=>?_;refine gr ht hl ?_;cases rt with
 | arr e ro =>
  refine fO (lv hM) hr hl ?_;refine bf h6 ?_;exact a8 (rt:=.arr e ro) hM hr h rfl hl K
 | tpl es ro =>
  refine fO (lv hM) hr hl ?_;refine bf h6 ?_;exact a8 (rt:=.tpl es ro) hM hr h rfl hl K
 | _=>exact wQ hat
def c7(i:bD ps s):bD ps (s.low v):=⟨i.nd,i.base,i.ho,i.bg,i.ks,i.sv⟩
def yZ.low(h:yZ ps (s.low v) n E s2){v':Int}(e:v'=s.lw):yZ ps s n E (s2.low v'):=⟨c7 h.inv,h.pre,h.lv,e,h.sz,h.sk,h.ev⟩
def S6(h:wJ s.q8 t α)(m:xD ps α=true)(hr:y9 s.q8 t=some rt)(n:nR ps α=-1)(h0:∀x∈ps,x≠-1):Y4 rt=true:=by
 have a:=nL h m;cases α with
 | n=>exact wQ m
 | i x=>exact absurd ((if_pos (qX.mp m)).symm.trans n) (h0 x (qX.mp m))
 | a x=>exact v4 a fun z0 z0 a=>qN (a.1.symm.trans hr)▸rfl
 | t x=>exact v4 a fun z0 z0 a=>qN (a.1.symm.trans hr)▸rfl
def PS.ne(h:PS ps):∀x∈ps,x≠-1:=fun x hx=>h.all (P:=fun x=>x≠-1) hx (by decide) (by decide) (by decide)
def VO(h:nR ps α<0)(h0:PS ps):nR ps α=-1:=by
 cases α with
 | i x =>
  have h:(if x∈ps then x else -1)<0:=h
  by_cases m:x∈ps
  ·rw[if_pos m]at h;exact absurd h (Int.not_lt.mpr (h0.all (P:=fun x=>0<=x) m (by decide) (by decide) (by decide)))
  ·exact if_neg m
 | _=>rfl
def HS(hN:10<=N)(h:PS ps)(i:bD ps s)(hlw:s.lw=0)(hlv:s.lv<24)(hl:s.sz+10<=lim)(hx:wJ s.q8 t α)(hz:tH α<64)(hm:xD ps α=true)(t4:t≠4)(K:∀s',yZ ps s 5 [] s'->Q .none (fS ps s' r [])):y4 D N "seek_lower" [] [.ref true 4,.int 4,.lst [.int t,.int 4],.int 0] Q (fS ps s r []):=by
 refine cm hN (d:=pY) rfl rfl fun M hM=>?_;refine aA (lv hM) (bD.rl hl:s.q8.length<=lim) (vP i.base) (by decide) ?_;refine bt (b:=!(decide (t=4)||false)) (by rw[decide_eq_false t4]; rfl) ?_;refine jI (s:=s.low (s.lw+1)) (lv hM) ((qQ (zG (by decide)) hl:(s.low (s.lw+1)).sz<lim)) hx ?_;refine dc (p:=nR ps α<0) (fun hn=>?_) fun hn=>?_
 ·refine qG fun ng=>?_;refine gZ (cS hx) fun rt hrt z0 z0=>?_;refine ng ?_;refine eP (k:=3) (s:=s.low (s.lw+1)) (n:=0) (w:=1) (E:=[]) hM (by show min (s.lw+1) 1=1; rw[(hlw▸rfl:s.lw+1=1)]; rfl) (c7 i) (qF (qL (by decide) _) hl) hx hz hm (VO hn h) hlv (fun z0=>yV) (fun M hM hv Q K st=>?_) (fun s2 z0 z0=>⟨4,t,1,rfl,fun z=>absurd z (by decide)⟩) fun s2 st=>?_
  ·exact UY (lv hM) (r8 i.base) rfl rfl hrt (S6 hx hm hrt (VO hn h) h.ne) (bD.rl hl:s.q8.length<=lim) (K _ (yZ.refl (QB st.inv)))
  ·have st:=st.le (m:=5) (by decide);exact K _ (yZ.low st (((fun s2 st=>st.lw▸Int.add_sub_cancel ..:∀s2,yZ ps (s.low (s.lw+1)) 5 [] s2->s2.lw-1=s.lw)) s2 st))
 ·exact K _ (yZ.low (yZ.refl (c7 i)) (((fun s2 st=>st.lw▸Int.add_sub_cancel ..:∀s2,yZ ps (s.low (s.lw+1)) 5 [] s2->s2.lw-1=s.lw)) _ (yZ.refl (c7 i))))
end
noncomputable def uρ(s0 t:Int)(v0:V)(L:List Int):y5:=y5.set (y5.set (y5.set (y5.set (y5.set (y5.set (y5.set (y5.set xV "finder" (.ref true 4)) "source" (.int s0)) "targets" (.tup [.int t,.int 4])) "contra" (.int 0)) "tab" (.ref true 0)) "left" v0) "left" (.lst (vI L))) "targets" (.lst [.int t,.int 4])
section
variable{ps:List Int}{s s' s2:Fs}{q8:List yD}{n:Nat}{E:List Ev}{t s0 x:Int}{v0:V}{L:List Int}{α:yK}{k κ qs:Kd}{G r:xF}{N M:Nat}{Q:Kv}
def gA{p:Pt}{i:Int}(h:xS q8 i p):wO q8 i [p]:=⟨[i],⟨h,trivial⟩,rfl⟩
def nS{a b:Kd}(h:a.Perm b):nl a=nl b:=(h.filter _).length_eq
def TD(f:xL k)(c:wW k)(p:qs.Perm k):yF qs=k:=(fM (xW fun q hq=>wU.mp (wD f) q (p.mem_iff.mp hq)) (wD f) fun q=>p.mem_iff).trans (pB (wD f) c)
def ZW(z:List (Int×Pt)):((z.map fun q=>(q.1,[q.2])).map (·.2)).flatten=z.map (·.2):=by
 induction z with
 | nil=>rfl
 | cons p r ih=>exact congrArg (p.2::·) ih
def iC(hN:3<=N)(h:uB (n+1) q8)(hs:yP q8 L qs)(hk:xB k)(hp:qs.Perm k)(hn:nl k<=54)(K:∀t r',wO r' t k->vQ q8 1 r'->Q (.int t) (tS r' G [])):y4 D N "union" [] [.ref true 0,.lst (vI L)] Q (tS q8 G []):=by
 refine qG fun ng=>?_;obtain⟨z,rfl,rfl,hz⟩:=hG hs;refine ng ?_;refine cK (l:=z.map fun q=>(q.1,[q.2])) hN h rfl (fun σ K hK=>?_) (List.forall_mem_map.mpr fun q hq=>gA (hz q hq)) (List.forall_mem_map.mpr fun q hq=>g7 ((fun (q:Int×Pt)(hq:q∈z)=>hk.pt q.2 (hp.mem_iff.mp (z5 (f:=(·.2)) hq))) q hq).1 ((fun (q:Int×Pt)(hq:q∈z)=>hk.pt q.2 (hp.mem_iff.mp (z5 (f:=(·.2)) hq))) q hq).2) (((ZW z))▸((nS hp)▸hn)) (((ZW z))▸((TD hk.fit hk.can hp)▸K));rw[qY]at hK;show K (vI (z.map (·.1)));rw[vI,qY];exact hK
def aJ(hN:5<=N)(i:bD ps s)(hl:s.sz<lim)(K:∀hv,yZ ps s 1 [] (s.hold hv)->Q .none (fS ps (s.hold hv) r [])):y4 D N "seek" [] [.ref true 4,.int s0,.int 4,.int 0] Q (fS ps s r []):=U0 hN i hl (vP i.base) (show 1<64 from by decide) rfl K
def JM(hM:8<=M)(h:PS ps)(i:bD ps s)(hw:s.lw=0)(hl:s.sz+150<=lim)(hx:wJ s.q8 t (.i x))(hp:x∈ps)(hs:wO s.q8 s0 κ)(hk:xB κ)(hn:nl κ<=6)(hL:yP s.q8 L qs)(hq:qs.Perm (yE κ))(K:∀s',yZ ps s 120 (if yE κ=[]then[(false,x,kU κ)]else[(true,x,kU (yE κ))]) s'->Q .none (fS ps s' r [])):xA (xP D (y4 D M)) (jU.body.drop 4) (uρ s0 t v0 L) (uO Q) (fS ps s r []):=by
 have x0:0<=x:=h.all (P:=fun x=>0<=x) hp (by decide) (by decide) (by decide);have nk:nR ps (.i x)=x:=if_pos hp;refine jI (s:=s) (lv hM) ((qQ (zG (by decide)) hl:s.sz<lim)) hx ?_;refine dt (p:=0<=nR ps (.i x)) (nk.symm▸x0) ?_;refine jI (s:=s) (lv hM) ((qQ (zG (by decide)) hl:s.sz<lim)) (vP i.base) ?_;have ll:L.length<=15:=(jQ hL).trans hq.length_eq▸qF (cG (yH hk).1.can.1) (qR (qF (yH hk).2 hn) 9);refine lg ["part","before","target"] V.int (fun g:List Int×Fs=>fS ps g.2 r [some (.list (vI g.1))]) (fun r' g=>g.1++r'=L/\yZ ps s g.1.length [] g.2) (g0:=([],s)) rfl (fun f g z=>?_) (fun j r' f g z W w=>?_) ⟨rfl,yZ.refl i⟩
 ·obtain⟨L',s'⟩:=g;obtain⟨e,st⟩:=z;rw[qS]at e;have st:yZ ps s 15 [] s':=st.le (e▸ll);have e:some (Ob.list (vI L'))=some (Ob.list (vI L)):=e▸rfl;have l3:s'.sz<lim:=qQ (zG (by decide)) ((qF (qR st.sz 135) (qF (qK (Nat.add_assoc ..)) hl):s'.sz+135<=lim));show xA _ _ _ _ (fS ps s' r [some (.list (vI L'))]);rw[e];cases L with
  | nil =>
   have n0:yE κ=[]:=List.nil_perm.mp (((List.eq_nil_of_length_eq_zero (jQ hL).symm:qs=[]))▸hq);rw[if_pos n0]at K;refine cm hM (d:=tR) rfl rfl fun M2 h2=>?_;refine jI (lv h2) l3 (hx.mono st.pre) ?_;rw[nk];refine GO (lv h2) h hp st.inv (hs.mono st.pre) hk (qF hn (by decide)) (qF (qL (by decide) _) ((qF (qR st.sz 135) (qF (qK (Nat.add_assoc ..)) hl):s'.sz+135<=lim))) fun s2 st2 z0=>?_;exact K s2 ((st.trans st2).le (by decide))
  | cons j L =>
   have n0:yE κ≠[]:=fun z=>Nat.succ_ne_zero L.length ((jQ hL).trans (hq.length_eq.trans (congrArg List.length z)));rw[if_neg n0]at K;refine ft (l:=vI (j::L)) (by rw[qH]; exact qF ll (by decide)) ?_;refine dt (p:=(0:Int)<((vI (j::L)).length:Nat)) (zI.mpr (Nat.succ_pos _)) ?_;refine iC (L:=j::L) (n:=0) (lv hM) (st.inv.tok (qF (qL (by decide) _) ((qF (qR st.sz 135) (qF (qK (Nat.add_assoc ..)) hl):s'.sz+135<=lim)))) (yP.mono st.pre hL) (yH hk).1 hq (qF (yH hk).2 (qF hn (by decide))) fun t1 qA q1 q2=>?_;have st1:=st.trans (yZ.tab st.inv q2);refine aI (lv hM) h st1.inv (st1.lw.trans hw) (qF (qR st1.sz 66) (qF (qK (Nat.add_assoc ..)) (qF (qL (by decide) _) hl))) (hx.mono st1.pre) hp q1 (yH hk).1 (qF (yH hk).2 (qF hn (by decide))) fun s2 st2=>?_;exact K s2 ((st1.trans st2).le (by decide))
 ·obtain⟨L',s'⟩:=g;obtain⟨e,st⟩:=z;have e:L'++j::r'=L:=e;have dl:L'.length+1<=L.length:=e▸qM▸qL (z7 (zA _)) _;have l3:s'.sz+1<lim:=qI (qR (qF st.sz (qL (qF (zK dl) ll) _)) 1) (qQ (Nat.add_lt_add_left (show 16<150 from by decide) s.sz) hl);refine jI (lv hM) (Nat.lt_of_succ_lt l3) (hx.mono st.pre) ?_;refine df (p:=nR ps (.i x)<0) (nk.symm▸Int.not_lt.mpr x0) ?_;refine jI (lv hM) (Nat.lt_of_succ_lt l3) (vP st.inv.base) ?_;refine aJ (lv hM) st.inv (Nat.lt_of_succ_lt l3) fun hv st2=>?_;refine bt (zU rfl) ?_;refine ft (by rw[qM,qH]; exact qF dl (qF ll (by decide))) ?_;show W _ (fS ps (s'.hold hv) r [some (.list (vI L'++[V.int j]))]);rw[show vI L'++[V.int j]=vI (L'++[j])from(qU (f:=V.int) (l₁:=L') (l₂:=[j])).symm];refine w _ (L'++[j],s'.hold hv) (.set (.set (.set (.set .mix rfl) rfl) rfl) rfl) ⟨(qZ ..).trans e,?_⟩;show yZ ps s (L'++[j]).length [] (s'.hold hv);rw[qM];exact st.trans st2
end
section
variable{ps:List Int}{s s' s2:Fs}{q8:List yD}{n d m:Nat}{E:List Ev}{t s0 x:Int}{v0:V}{L X:List Int}{α:yK}{k κ qs:Kd}{G r:xF}{N M:Nat}{Q:Kv}{z dn r':List (Int×Pt)}{j:Int×Pt}
def WX(h:∀x,α≠.i x):nR ps α=-1:=by
 cases α with
 | i x=>exact absurd rfl (h x)
 | _=>rfl
def LN(h:∀x,α≠.i x):K0 α=6:=by
 cases α with
 | i x=>exact absurd rfl (h x)
 | _=>rfl
def RE(e:dn++j::r'=z):nl (dn.map (·.2))+nl [j.2]<=nl (z.map (·.2)):=by
 rw[<-e,qU,vY,List.map_cons,show j.2::r'.map (·.2)=[j.2]++r'.map (·.2)from rfl,vY];exact qL (qJ ..) _
def L2(hno:∀x,α≠.i x)(hz:(z.map (·.2)).Perm (yE κ))(hk:xB κ)(hz15:z.length<=15)(st:yZ ps s (nl (z.map (·.2))*PC d+z.length*7) (z.flatMap fun q=>yU ps α q.2) s'):yZ ps s (nl κ*PC d+105) (walk ps α (yE κ)) s':=by
 have:=z4 (PC d) (nS hz▸(yH hk).2)
 refine(st.le (by exact yX [_,_,_] (LF.c 7 (.v 0) (.k 15) (LF.c 1 (.v 1) (.v 2) .n)) 0 (.a (.v 1) (.w (.v 0) 7)) (.a (.v 2) (.k 105)) rfl hz15 this)).eq fun e=>?_;rw[bW,p9 (fun z=>z.elim fun x w=>hno x w.1),List.nil_append,List.mem_flatMap,List.mem_flatMap];exact⟨fun z=>wI z fun q hq he=>⟨q.2,hz.mem_iff.mp (z5 hq),he⟩,fun z=>wI z fun p hp he=>(zC.mp (hz.mem_iff.mpr hp)).elim fun q w=>⟨q,w.1,w.2▸he⟩⟩
def TY(IH:wV ps r d)(hM:16*d+20<=M)(hd:u9 α<=d)(fa:j4 α)(hz:tH α<64)(hno:∀x,α≠.i x)(R:f5 ps d (nl κ*PC d+150) s)(hx:wJ s.q8 t α)(hk:xB κ)(hn:nl κ<=6)(hL:yP s.q8 L qs)(hq:qs.Perm (yE κ))(K:∀s',yZ ps s (nl κ*PC d+150) (walk ps α (yE κ)) s'->Q .none (fS ps s' r [])):xA (xP D (y4 D M)) (jU.body.drop 4) (uρ s0 t v0 L) (uO Q) (fS ps s r []):=by
 have i:=R.inv;have m6:8<=M:=qF (qP 8 (16*d+12)) hM;refine jI (s:=s) (lv m6) ((qQ (zG (Nat.succ_pos _)) R.sz:s.sz<lim)) hx ?_;refine df (p:=0<=nR ps α) ((WX (ps:=ps) hno).symm▸by decide) ?_;refine jI (s:=s) (lv m6) ((qQ (zG (Nat.succ_pos _)) R.sz:s.sz<lim)) (vP i.base) ?_;have ll:L.length<=15:=(jQ hL).trans hq.length_eq▸qF (cG (yH hk).1.can.1) (qR (qF (yH hk).2 hn) 9);refine(hG hL).elim fun z zz=>?_;have zl:z.length=L.length:=zz.1▸(qH ..).symm;refine lg (γ:=List (Int×Pt)×List Int×Fs) ["part","before","target"] (fun q:Int×Pt=>.int q.1) (fun g=>fS ps g.2.2 r [some (.list (vI g.2.1))]) (fun r' g=>g.1++r'=z/\g.2.1.length<=g.1.length/\yZ ps s (nl (g.1.map (·.2))*PC d+g.1.length*7) (g.1.flatMap fun q=>yU ps α q.2) g.2.2) (g0:=([],[],s)) ((zz.1)▸(qY ..)) (fun f g w=>?_) (fun j r' f g w W kw=>?_) ⟨rfl,qT _,yZ.refl i⟩
 ·obtain⟨dn,X,s'⟩:=g;refine XQ (w) fun e xl st=>?_;have e:dn=z:=(qS _).symm.trans e;subst e;have st:=L2 hno (zz.2.1▸hq) hk (zl▸ll) st;refine cm (k:=7) m6 (d:=tR) rfl rfl fun M2 h2=>?_;cases L with
  | nil=>exact K s' (st.le (qL (by decide) _))
  | cons j L =>
   refine ft (l:=vI (j::L)) (by rw[qH]; exact qF ll (by decide)) ?_;refine iC (L:=j::L) (n:=0) (lv h2) (st.inv.tok (by have a:=st.sz; have b:=R.sz; exact yX [_,_,_] (LF.c 1 (.v 1) (.a (.v 0) (.a (.v 2) (.k 105))) (LF.c 1 (.a (.v 0) (.a (.v 2) (.k 150))) (.k 16000000) .n)) 0 (.a (.v 1) (.a (.k 0) (.k 1))) (.k 16000000) rfl a b)) (yP.mono st.pre hL) (yH hk).1 hq (qF (yH hk).2 (qF hn (by decide))) fun t1 qA q1 q2=>?_;exact K _ (((st.trans (yZ.tab st.inv q2)).le (by exact yX [_] LF.n 0 (.a (.a (.v 0) (.k 105)) (.k 1)) (.a (.v 0) (.k 150)) rfl:nl κ*PC d+105+1<=nl κ*PC d+150)).eq fun e=>by rw[qS])
 ·obtain⟨dn,X,s'⟩:=g;obtain⟨e,xl,st⟩:=w;have e:dn++j::r'=z:=e;have st:yZ ps s (nl (dn.map (·.2))*PC d+dn.length*7) (dn.flatMap fun q=>yU ps α q.2) s':=st;have hj:j∈z:=e▸zM _ (.head _);have kj:=(yH hk).1.pt _ (hq.mem_iff.mp (zz.2.1▸z5 (f:=fun q:Int×Pt=>q.2) hj));have dl:dn.length+1<=15:=qF (e▸qM▸qL (z7 (zA _)) _) (zl▸ll);have c2:=z4 (PC d) (qF (RE e) (zz.2.1▸nS hq▸(yH hk).2));rw[Nat.add_mul]at c2;have l3:s'.sz+(nl [j.2]*PC d+7)<lim:=by have a:=st.sz; have b:=R.sz; exact yX [_,_,_,_,_,_] (LF.c 7 (.a (.v 1) (.k 1)) (.k 15) (LF.c 1 (.a (.v 2) (.v 3)) (.v 4) (LF.c 1 (.v 5) (.a (.v 0) (.a (.v 2) (.w (.v 1) 7))) (LF.c 1 (.a (.v 0) (.a (.v 4) (.k 150))) (.k 16000000) .n)))) 0 (.a (.a (.v 5) (.a (.v 3) (.k 7))) (.k 1)) (.k 16000000) rfl dl c2 a b
  have sc:SC α d (nl [j.2])=nl [j.2]*PC d+6:=congrArg (nl [j.2]*PC d+·) (LN hno);refine jI (lv m6) (qI (qJ _ _) l3) (hx.mono st.pre) ?_;refine dt (p:=nR ps α<0) ((WX (ps:=ps) hno).symm▸by decide) ?_;refine IH α t j.1 [j.2] s' M _ hd fa hz (hx.mono st.pre) ((gA (zz.2.2 j hj)).mono st.pre) (g7 kj.1 kj.2) ((qF (List.length_filter_le ..) (qP 1 5):nl [j.2]<=6)) (R.step st (by rw[sc]; exact yX [_,_,_,_] (LF.c 7 (.a (.v 0) (.k 1)) (.k 15) (LF.c 1 (.a (.v 1) (.v 2)) (.v 3) .n)) 0 (.a (.a (.v 1) (.w (.v 0) 7)) (.a (.v 2) (.k 6))) (.a (.v 3) (.k 150)) rfl dl c2)) hM fun s2 st2=>?_;rw[sc]at st2;refine jI (lv m6) ((qI st2.sz (Nat.lt_of_succ_lt l3):s2.sz<lim)) (vP st2.inv.base) ?_;refine aJ (lv m6) st2.inv ((qI st2.sz (Nat.lt_of_succ_lt l3):s2.sz<lim)) fun hv st3=>?_;have fin:yZ ps s (nl ((dn++[j]).map (·.2))*PC d+(dn++[j]).length*7) ((dn++[j]).flatMap fun q=>yU ps α q.2) (s2.hold hv):=by
   refine(((st.trans st2).trans st3).le ?_).eq fun e=>?_
   ·rw[qU,vY,qM,Nat.add_mul];exact yX [_,_,_] LF.n 0 (.a (.a (.a (.v 1) (.w (.v 0) 7)) (.a (.v 2) (.k 6))) (.k 1)) (.a (.a (.v 1) (.v 2)) (.w (.a (.v 0) (.k 1)) 7)) rfl
   ·rw[qS,List.flatMap_append,bW,p9 (fun z=>z.elim fun x w=>hno x w.1)];exact Iff.rfl
  refine bc (fun z0=>?_) fun z0=>?_
  ·refine ft (by rw[qM,qH]; exact qF (qR (xl:X.length<=dn.length) 1) (qF dl (by decide))) ?_;show W _ (fS ps (s2.hold hv) r [some (.list (vI X++[V.int j.1]))]);exact(show vI X++[V.int j.1]=vI (X++[j.1])from(qU (f:=V.int) (l₁:=X) (l₂:=[j.1])).symm)▸(kw _ (dn++[j],X++[j.1],s2.hold hv) (.set (.set (.set (.set .mix rfl) rfl) rfl) rfl) ⟨(qZ ..).trans e,((by rw[qM,qM]; exact qR (xl:X.length<=dn.length) 1:(X++[j.1]).length<=(dn++[j]).length)),fin⟩)
  ·exact kw _ (dn++[j],X,s2.hold hv) (.set (.set (.set (.set .mix rfl) rfl) rfl) rfl) ⟨(qZ ..).trans e,qF (xl:X.length<=dn.length) (qM▸qJ ..),fin⟩
end
def fV(ps:List Int)(α:yK)(κ:Kd):List Ev:=if yE κ=[]then YG ps α κ else walk ps α (yE κ)
noncomputable def DT(i:Int):Bool:=!decide (i=4)
section
variable{ps:List Int}{s s' s2:Fs}{q8:List yD}{n d m:Nat}{E:List Ev}{t s0 i:Int}{p:Pt}{v0:V}{L X:List Int}{α:yK}{k κ qs:Kd}{G r:xF}{N M:Nat}{Q:Kv}
def NS(b:FIRST16 <+: q8)(nd:q8.Nodup)(h:xS q8 i p):DT i=!g4 p:=by
 have r4:=r8 b;refine congrArg not ?_;cases e:g4 p with
 | true =>
  refine qG fun ng=>?_;cases p with
  | u x =>
   refine ng ?_;refine qG fun ng=>?_;cases x with
   | undef=>exact ng (zU (tD nd h r4))
   | _=>exact ng (wQ e)
  | _=>exact ng (wQ e)
 | false =>
  refine decide_eq_false fun z=>?_;subst z;cases p with
  | u x=>exact j0 ((show g4 (.u x)=true from aH (qN (r4.symm.trans h))▸rfl).symm.trans e)
  | a _ _=>exact v4 h fun z0 z0 h=>yD.noConfusion (qN (r4.symm.trans h.1))
  | t _ _=>exact h.elim fun z0 h=>yD.noConfusion (qN (r4.symm.trans h.1))
theorem m8(b:FIRST16 <+: q8)(nd:q8.Nodup):∀{is:List Int}{ps:Kd},yP q8 is ps->yP q8 (is.filter DT) (yE ps)
 | [],[],h=>h
 | i::is,p::ps,h=>by
  have ih:=m8 b nd h.2;unfold yE at ih ⊢;rw[List.filter_cons,List.filter_cons,(NS b nd h.1)];cases !g4 p with
  | true=>exact⟨h.1,ih⟩
  | false=>exact ih
 | [],_::_,h=>h.elim
 | _::_,[],h=>h.elim
def iQ(b:FIRST16 <+: q8)(ao:yL q8 t α){k:Nat}{x:List Nat}(e:FIRST16[k]?=some (.key x)):t≠(k:Int):=fun z=>wQ (FD (rw_:=.key x) ao (z▸kK b e))
def S7(ao:yL q8 t α):t≠-1:=fun z=>(c5 ao).elim fun r w=>wF (z▸w.1:y9 q8 (-1)=some r)
def q8E(is:List Int):(is.filterMap fun i=>bif DT i then some (V.int i)else none)=vI (is.filter DT):=by
 induction is with
 | nil=>rfl
 | cons x m ih =>
  rw[List.filterMap_cons,List.filter_cons];cases DT x with
  | true=>exact congrArg (_::·) ih
  | false=>exact ih
def q3U{x:Int}(hp:x∈ps):(if yE κ=[]then[(false,x,kU κ)]else[(true,x,kU (yE κ))])=fV ps (.i x) κ:=by
 unfold fV;rw[show YG ps (.i x) κ=[(false,x,kU κ)]from if_pos hp,show walk ps (.i x) (yE κ)=[(true,x,kU (yE κ))]from if_pos hp]
def q3V(h:∀x,α≠.i x):walk ps α (yE κ)=fV ps α κ:=by
 unfold fV
 by_cases e:yE κ=[]
 ·rw[if_pos e,e,bW,p9 (fun z=>z.elim fun x w=>h x w.1)];exact(p9 (fun z=>z.elim fun x w=>h x w.1)).symm
 ·rw[if_neg e]
def NK(IH:wV ps r d)(hM:16*d+20<=M)(h:PS ps)(hd:u9 α<=d)(fa:j4 α)(hz:tH α<64)(hm:xD ps α=true)(R:f5 ps d (nl κ*PC d+160) s)(hx:wJ s.q8 t α)(hs:wO s.q8 s0 κ)(hk:xB κ)(hn:nl κ<=6)(hL:yP s.q8 L qs)(hq:qs.Perm (yE κ))(K:∀s',yZ ps s (nl κ*PC d+160) (fV ps α κ) s'->Q .none (fS ps s' r []))(s2:Fs)(st:yZ ps s 5 [] s2):xA (xP D (y4 D M)) (jU.body.drop 4) (uρ s0 t v0 L) (uO Q) (fS ps s2 r []):=by
 have R2:=R.step (need':=nl κ*PC d+155) st (qK (Nat.add_comm ..));have K2:∀{E s'},E=fV ps α κ->yZ ps s2 (nl κ*PC d+150) E s'->Q .none (fS ps s' r []):=fun e st2=>K _ (((st.trans st2).le (by exact yX [_] LF.n 0 (.a (.k 5) (.a (.v 0) (.k 150))) (.a (.v 0) (.k 160)) rfl)).eq fun e'=>by rw[e]; exact Iff.rfl)
 by_cases hi:∃x,α=.i x
 ·refine qG fun ng=>?_;obtain⟨x,rfl⟩:=hi;refine ng ?_;have hp:x∈ps:=qX.mp hm;exact JM (qF (qP 8 (16*d+12)) hM) h R2.inv R2.lw (qF (qL (by exact yX [_] LF.n 0 (.k 150) (.a (.v 0) (.k 155)) rfl) _) R2.sz) (hx.mono st.pre) hp (hs.mono st.pre) hk hn (yP.mono st.pre hL) hq fun s' st2=>K2 (q3U hp) (st2.le (by exact yX [_] LF.n 0 (.k 120) (.a (.v 0) (.k 150)) rfl))
 ·have hno:∀x,α≠.i x:=fun x e=>hi ⟨x,e⟩;exact TY IH hM hd fa hz hno (R2.le (qT _) (by exact yX [_] LF.n 0 (.a (.v 0) (.k 150)) (.a (.v 0) (.k 155)) rfl)) (hx.mono st.pre) hk hn (yP.mono st.pre hL) hq fun s' st2=>K2 (q3V hno) st2
end
section
variable{ps:List Int}{s s' s2:Fs}{q8:List yD}{n d m:Nat}{E:List Ev}{t s0 i:Int}{p:Pt}{v0:V}{L X ids:List Int}{α:yK}{k κ qs:Kd}{G r:xF}{N M:Nat}{Q:Kv}
theorem U4:∀{z:List (Int×Pt)},(∀q∈z,xS q8 q.1 q.2)->yP q8 (z.map (·.1)) (z.map (·.2))
 | [],_=>trivial
 | q::z,h=>⟨h q (.head _),U4 fun x hx=>h x (.tail _ hx)⟩
def JD{is:List Int}(pm:is.Perm ids)(h:yP q8 ids k):∃qs,yP q8 is qs/\qs.Perm k:=(cB h pm).elim fun z w=>⟨z.map (·.2),w.1▸U4 w.2.2,w.2.1⟩
def N5(h2:y9 q8 2=some (.key wZ))(nd:ids.Nodup)(hh:gU q8 s0 ids)(h:∀j∈ids,j=4)(n2:s0≠2):s0=4 :=
 match ids,nd,hh,h with
 | [],_,hh,_=>absurd hh n2
 | [j],_,hh,h=>hh.trans (h j (.head _))
 | j::k::_,nd,_,h=>absurd ((h j (.head _)).trans (h k (.tail _ (.head _))).symm) fun e=>(List.nodup_cons.mp nd).1 (e▸.head _)
def L8(IH:wV ps r d)(hN:16*d+21<=N)(h:PS ps)(hd:u9 α<=d)(fa:j4 α)(hz:tH α<64)(hm:xD ps α=true)(R:f5 ps d (nl κ*PC d+160) s)(hx:wJ s.q8 t α)(hs:wO s.q8 s0 κ)(hk:xB κ)(hn:nl κ<=6)(K:∀s',yZ ps s (nl κ*PC d+160) (fV ps α κ) s'->Q .none (fS ps s' r [])):y4 D N "seek_union" [] [.ref true 4,.int s0,.tup [.int t,.int 4],.int 0] Q (fS ps s r []):=by
 refine cm (k:=16*d+20) hN (d:=jU) rfl rfl fun M hM=>?_;have i:=R.inv;have rl:s.q8.length<=lim:=bD.rl R.sz;have h2:=xX i.base;have ao:=nL hx hm;refine wI (hs) fun ids s1 s2=>?_;have m10:10<=M:=qF (qP 10 (16*d+10)) hM;refine nU (lv m10) h2 rl s1 s2 fun is pm z0=>?_;refine wI (JD pm s1) fun qs p1 p2=>?_;have il:is.length<=15:=(jQ p1).trans p2.length_eq▸qF (cG hk.can.1) (qR hn 9);refine ft (l:=vI is) (by rw[qH]; exact qF il (by decide)) ?_;refine NY V.int (fun i=>bif DT i then some (V.int i)else none) id rfl (fun j hj K' hK=>?_) ?_
 ·refine qG fun ng=>?_;refine wI ((wG p1).2 j hj) fun p hp sp=>?_;refine ng ?_;refine TB (lv m10) i.base rl sp (fun e=>YP h2 (e▸sp) ao hm) (iQ i.base ao (k:=6) rfl) (iQ i.base ao (k:=7) rfl) (S7 ao) ?_;refine bc (b:=DT j) (fun e=>?_) fun e=>?_
  ·rw[e]at hK; exact hK
  ·rw[e]at hK; exact hK
 rw[q8E];have hL:=m8 i.base i.nd p1;have hps:(yE qs).Perm (yE κ):=p2.filter _;have tail:=fun v0=>NK (v0:=v0) IH hM h hd fa hz hm R hx ⟨ids,s1,s2⟩ hk hn hL hps K;have Lall:is.filter DT=[]->∀j∈ids,j=4:=fun e j hj=>Decidable.byContradiction fun z=>absurd (e▸zO.mpr ⟨pm.mem_iff.mpr hj,congrArg not (decide_eq_false z)⟩:j∈[]) qW;have Llen:(is.filter DT).length<=is.length:=List.length_filter_le _ _;have Lsub:∀j∈is.filter DT,∃r,y9 s.q8 j=some r:=fun j hj=>((wG p1).2 j (zO.mp hj).1).elim fun p z=>(b8 z.2).elim fun r w=>⟨r,w.1⟩;generalize is.filter DT=L at hL Lall Llen Lsub tail ⊢;refine MY (lv m10) rl Lsub (qI (qF Llen il) (by decide)) ?_;cases L with
 | cons j L =>
  refine ft (l:=vI (j::L)) (by rw[qH]; exact qF (qF Llen il) (by decide)) ?_;exact tail _ s (yZ.refl i)
 | nil =>
  refine bc (b:=!decide (s0=2)) (fun e=>?_) fun e=>?_
  ·have n2:s0≠2:=fun z=>j0 ((zU z).symm.trans ((Bool.not_not _).symm.trans (congrArg not e)));cases N5 h2 (aN h2 hk.nodup hk.fit s1) s2 (Lall rfl) n2;refine HS m10 h i R.lw (Int.lt_of_le_of_lt (Int.le_add_of_nonneg_right (zD d)) R.lv) (qF (qL (by exact yX [_] LF.n 0 (.k 10) (.a (.v 0) (.k 160)) rfl) _) R.sz) hx hz hm (iQ i.base ao (k:=4) rfl) fun sx st=>?_;exact tail _ sx st
  ·exact tail _ s (yZ.refl i)
def P0(hm:xD ps α=false):fV ps α κ=[]:=by
 unfold fV
 by_cases e:yE κ=[]
 ·exact(if_pos e).trans (p9 fun z=>z.elim fun x w=>j0 ((qX.mpr w.2).symm.trans (w.1▸hm:xD ps (.i x)=false)))
 ·exact(if_neg e).trans (tL ps α _ hm)
def q3W(IH:wV ps r d)(hN:16*d+22<=N)(h:PS ps)(hd:u9 α<=d)(fa:j4 α)(hz:tH α<64)(R:f5 ps d (nl κ*PC d+170) s)(hx:wJ s.q8 t α)(hs:wO s.q8 s0 κ)(hk:xB κ)(hn:nl κ<=6)(K:∀s',yZ ps s (nl κ*PC d+170) (fV ps α κ) s'->Q .none (fS ps s' r [])):y4 D N "seek_optional" [] [.ref true 4,.int s0,.int t,.int 0] Q (fS ps s r []):=by
 refine cm (k:=16*d+21) hN (d:=gK) rfl rfl fun M hM=>?_;have m10:10<=M:=qF (qP 10 (16*d+11)) hM;have l1:s.sz<lim:=qQ (zG (Nat.succ_pos _)) R.sz;refine c8 (lv m10) R.inv l1 hx hz fun hv st=>?_;cases hm:xD ps α with
 | false =>
  refine K _ ((st.le (by exact yX [_] LF.n 0 (.k 1) (.a (.v 0) (.k 170)) rfl)).eq fun e=>?_);rw[P0 hm]
 | true =>
  refine aA (q8:=s.q8) (G:=H8 ps (s.hold hv) r) (lv m10) (qF (cH (s:=s)) (z9 l1)) hx (iQ R.inv.base (nL hx hm) (k:=2) rfl) ?_;exact L8 IH hM h hd fa hz hm (R.step st (by exact yX [_] LF.n 0 (.a (.k 1) (.a (.v 0) (.k 160))) (.a (.v 0) (.k 170)) rfl)) (hx.mono st.pre) (hs.mono st.pre) hk hn fun s2 st2=>K s2 ((st.trans st2).le (by exact yX [_] LF.n 0 (.a (.k 1) (.a (.v 0) (.k 160))) (.a (.v 0) (.k 170)) rfl))
end
noncomputable def EC(d:Nat):Nat:=6*PC d+175
section
variable{ps:List Int}{s s' s2:Fs}{q8:List yD}{n d m:Nat}{E:List Ev}{t s0 g tag:Int}{β:yK}{k κ:Kd}{r:xF}{N M:Nat}{Q:Kv}
def FL(IH:wV ps r d)(hN:16*d+24<=N)(h:PS ps)(hd:u9 β<=d)(fa:j4 β)(hz:tH β<64)(R:f5 ps d (EC d) s)(hx:wJ s.q8 t β)(hs:wO s.q8 s0 k)(hk:xB k)(hn:nl k<=6)(hg:g≠3)(K:∀s',yZ ps s (EC d) (x8 ps β tag (yR (k,g))) s'->Q .none (fS ps s' r [])):y4 D N "seek_elem" [] [.ref true 4,.tup [.int s0,.int g],.tup [.int t,.int tag],.int 0] Q (fS ps s r []):=by
 refine cm (k:=16*d+23) hN (d:=rJ) rfl rfl fun M hM=>?_;have mono:=z4 (PC d) (qF (w9 (q:=(k,g)) hk).2 hn);refine l9 (n:=0) (qF (qP 5 (16*d+18)) hM) (R.inv.tok (qF (qL (by exact yX [_] LF.n 0 (.a (.k 0) (.k 1)) (.a (.m 6 (.v 0)) (.k 175)) rfl) _) ((R:f5 ps d (6*PC d+175) s)).sz)) hs hk (qF hn (by decide)) hg fun t1 qA q1 q2=>?_;have st:=yZ.tab R.inv q2;refine dc (p:=tag=1) (fun e=>?_) fun e=>?_
 ·refine cm (k:=16*d+22) hM (d:=uE) rfl rfl fun M2 h2=>?_;refine q3W (s:=s.row qA) IH h2 h hd fa hz (((R:f5 ps d (6*PC d+175) s)).step st (by exact yX [_,_] (LF.c 1 (.v 0) (.m 6 (.v 1)) .n) 0 (.a (.k 1) (.a (.v 0) (.k 170))) (.a (.m 6 (.v 1)) (.k 175)) rfl mono)) (hx.mono q2.pre) q1 (w9 (q:=(k,g)) hk).1 (qF (w9 (q:=(k,g)) hk).2 hn) fun s2 st2=>K s2 (((st.trans st2).le (show 1+_<=6*PC d+175 by exact yX [_,_] (LF.c 1 (.v 0) (.m 6 (.v 1)) .n) 0 (.a (.k 1) (.a (.v 0) (.k 170))) (.a (.m 6 (.v 1)) (.k 175)) rfl mono)).eq fun e'=>?_);rw[List.nil_append,show x8 ps β tag (yR (k,g))=fV ps β (yR (k,g))from if_neg fun z=>z e]
 ·refine cm (k:=16*d+22) hM (d:=wR) rfl rfl fun M2 h2=>?_;refine IH β t t1 _ (s.row qA) M2 _ hd fa hz (hx.mono q2.pre) q1 (w9 (q:=(k,g)) hk).1 (qF (w9 (q:=(k,g)) hk).2 hn) (((R:f5 ps d (6*PC d+175) s)).step st (by show 1+(_*PC d+K0 β)<=_; exact yX [_,_,_] (LF.c 1 (.v 0) (.m 6 (.v 1)) (LF.c 1 (.v 2) (.k 80) .n)) 0 (.a (.k 1) (.a (.v 0) (.v 2))) (.a (.m 6 (.v 1)) (.k 175)) rfl mono (JV (α:=β)))) (qF (qJ _ 2) h2) fun s2 st2=>K s2 (((st.trans st2).le (show 1+(_*PC d+K0 β)<=6*PC d+175 by exact yX [_,_,_] (LF.c 1 (.v 0) (.m 6 (.v 1)) (LF.c 1 (.v 2) (.k 80) .n)) 0 (.a (.k 1) (.a (.v 0) (.v 2))) (.a (.m 6 (.v 1)) (.k 175)) rfl mono (JV (α:=β)))).eq fun e'=>?_);rw[List.nil_append,show x8 ps β tag (yR (k,g))=walk ps β (yR (k,g))from if_pos e]
end
noncomputable def DO(l:List Int):Nat:=(l.filter fun g=>g==0||g==3).length
def q16(d:x6)(xs:List V)(val:List Int->V)(s:List Int):Prop:=∀(f:Nat->Int)(G:xF)(Q:Kv)(M:Nat),Q (val s) ⟨G,[]⟩->lr (y5.sets xV d.params (.tup (q0S f 0 s)::xs)) fun ρ=>xA (xP D (y4 D M)) d.body ρ (uO Q) ⟨G,[]⟩
def ED:iE (q16 xZ [] fun s=>.int (yS s)) vE:=⟨fun f G Q M h=>by exact h,fun f G Q M h=>by exact h,fun f G Q M h=>by exact h,fun f G Q M h=>by exact h,fun f G Q M h=>by exact h,fun f G Q M h=>by exact h,fun f G Q M h=>by exact h,fun f G Q M h=>by exact h,fun f G Q M h=>by exact h,fun f G Q M h=>by exact h,fun f G Q M h=>by exact h,fun f G Q M h=>by exact h,fun f G Q M h=>by exact h,fun f G Q M h=>by exact h,fun f G Q M h=>by exact h,fun f G Q M h=>by exact h,fun f G Q M h=>by exact h,fun f G Q M h=>by exact h,fun f G Q M h=>by exact h,trivial⟩
def SH:iE (q16 wB [] fun s=>.int (yS s.reverse)) vE:=⟨fun f G Q M h=>by exact h,fun f G Q M h=>by exact h,fun f G Q M h=>by exact h,fun f G Q M h=>by exact h,fun f G Q M h=>by exact h,fun f G Q M h=>by exact h,fun f G Q M h=>by exact h,fun f G Q M h=>by exact h,fun f G Q M h=>by exact h,fun f G Q M h=>by exact h,fun f G Q M h=>by exact h,fun f G Q M h=>by exact h,fun f G Q M h=>by exact h,fun f G Q M h=>by exact h,fun f G Q M h=>by exact h,fun f G Q M h=>by exact h,fun f G Q M h=>by exact h,fun f G Q M h=>by exact h,fun f G Q M h=>by exact h,trivial⟩
def R5:iE (q16 x7 [.int 2] fun s=>.bool (s.contains 2)) vE:=⟨fun f G Q M h=>by exact h,fun f G Q M h=>by exact h,fun f G Q M h=>by exact h,fun f G Q M h=>by exact h,fun f G Q M h=>by exact h,fun f G Q M h=>by exact h,fun f G Q M h=>by exact h,fun f G Q M h=>by exact h,fun f G Q M h=>by exact h,fun f G Q M h=>by exact h,fun f G Q M h=>by exact h,fun f G Q M h=>by exact h,fun f G Q M h=>by exact h,fun f G Q M h=>by exact h,fun f G Q M h=>by exact h,fun f G Q M h=>by exact h,fun f G Q M h=>by exact h,fun f G Q M h=>by exact h,fun f G Q M h=>by exact h,trivial⟩
def R6:iE (q16 x7 [.int 3] fun s=>.bool (s.contains 3)) vE:=⟨fun f G Q M h=>by exact h,fun f G Q M h=>by exact h,fun f G Q M h=>by exact h,fun f G Q M h=>by exact h,fun f G Q M h=>by exact h,fun f G Q M h=>by exact h,fun f G Q M h=>by exact h,fun f G Q M h=>by exact h,fun f G Q M h=>by exact h,fun f G Q M h=>by exact h,fun f G Q M h=>by exact h,fun f G Q M h=>by exact h,fun f G Q M h=>by exact h,fun f G Q M h=>by exact h,fun f G Q M h=>by exact h,fun f G Q M h=>by exact h,fun f G Q M h=>by exact h,fun f G Q M h=>by exact h,fun f G Q M h=>by exact h,trivial⟩
def IW:iE (q16 xN [] fun s=>.int (DO s)) vE:=⟨fun f G Q M h=>by exact h,fun f G Q M h=>by exact h,fun f G Q M h=>by exact h,fun f G Q M h=>by exact h,fun f G Q M h=>by exact h,fun f G Q M h=>by exact h,fun f G Q M h=>by exact h,fun f G Q M h=>by exact h,fun f G Q M h=>by exact h,fun f G Q M h=>by exact h,fun f G Q M h=>by exact h,fun f G Q M h=>by exact h,fun f G Q M h=>by exact h,fun f G Q M h=>by exact h,fun f G Q M h=>by exact h,fun f G Q M h=>by exact h,fun f G Q M h=>by exact h,fun f G Q M h=>by exact h,fun f G Q M h=>by exact h,trivial⟩
section
variable{es ss ts:List (Int×Int)}{N M:Nat}{G:xF}{Q:Kv}{l:List Int}
def oA(hN:1<=N)(hs:es.map (·.2)∈vE)(K:Q (.int (yS (es.map (·.2)))) ⟨G,[]⟩):y4 D N "kindplaces_fixed_front" [] [.tup (es.map jA)] Q ⟨G,[]⟩:=mY (P:=fun L=>y4 D N "kindplaces_fixed_front" [] [.tup L] Q ⟨G,[]⟩) fun f=>cm hN (d:=xZ) rfl rfl fun M z0=>ED.mem hs f G Q M K
def GY(hN:1<=N)(hs:es.map (·.2)∈vE)(K:Q (.int (yS (es.map (·.2)).reverse)) ⟨G,[]⟩):y4 D N "kindplaces_fixed_back" [] [.tup (es.map jA)] Q ⟨G,[]⟩:=mY (P:=fun L=>y4 D N "kindplaces_fixed_back" [] [.tup L] Q ⟨G,[]⟩) fun f=>cm hN (d:=wB) rfl rfl fun M z0=>SH.mem hs f G Q M K
def VL(hN:1<=N)(hs:es.map (·.2)∈vE)(K:Q (.bool ((es.map (·.2)).contains 2)) ⟨G,[]⟩):y4 D N "kindplaces_has_mark" [] [.tup (es.map jA),.int 2] Q ⟨G,[]⟩:=mY (P:=fun L=>y4 D N "kindplaces_has_mark" [] [.tup L,.int 2] Q ⟨G,[]⟩) fun f=>cm hN (d:=x7) rfl rfl fun M z0=>R5.mem hs f G Q M K
def VM(hN:1<=N)(hs:es.map (·.2)∈vE)(K:Q (.bool ((es.map (·.2)).contains 3)) ⟨G,[]⟩):y4 D N "kindplaces_has_mark" [] [.tup (es.map jA),.int 3] Q ⟨G,[]⟩:=mY (P:=fun L=>y4 D N "kindplaces_has_mark" [] [.tup L,.int 3] Q ⟨G,[]⟩) fun f=>cm hN (d:=x7) rfl rfl fun M z0=>R6.mem hs f G Q M K
def DP(hN:1<=N)(hs:es.map (·.2)∈vE)(K:Q (.int (DO (es.map (·.2)))) ⟨G,[]⟩):y4 D N "kindplaces_needed_length" [] [.tup (es.map jA)] Q ⟨G,[]⟩:=mY (P:=fun L=>y4 D N "kindplaces_needed_length" [] [.tup L] Q ⟨G,[]⟩) fun f=>cm hN (d:=xN) rfl rfl fun M z0=>IW.mem hs f G Q M K
def YL(h:l.contains 3=false):DO l=q2K 0 l:=congrArg List.length (List.filter_congr fun g hg=>by
 cases e:g==3 with
 | true=>exact j0 ((qX.mpr (eq_of_beq e▸hg)).symm.trans h)
 | false=>exact Bool.or_false _)
def TA(hN:2<=N)(hs:ss.map (·.2)∈vE)(ht:ts.map (·.2)∈vE)(h3:(ss.map (·.2)).contains 3=false)(K:Q (.bool (apart (ss.map (·.2)) (ts.map (·.2)))) ⟨G,[]⟩):y4 D N "lengths_apart" [] [.tup (ss.map jA),.tup (ts.map jA)] Q ⟨G,[]⟩:=by
 refine cm hN (d:=gJ) rfl rfl fun M hM=>?_;have KE:∀{b},apart (ss.map (·.2)) (ts.map (·.2))=b->Q (.bool b) ⟨G,[]⟩:=fun e=>e▸K;unfold apart at KE;refine VM hM ht ?_;cases c3:(ts.map (·.2)).contains 3 with
 | true=>exact KE (if_pos c3)
 | false =>
  rw[if_neg fun z=>j0 (z.symm.trans c3),<-YL c3,<-YL h3]at KE;refine DP hM ht ?_;refine DP hM hs ?_;refine dc (fun e=>KE (if_pos (zI.mp e))) fun e=>?_;rw[if_neg fun z=>e (zI.mpr z)]at KE;refine VL hM ht ?_;cases c2:(ts.map (·.2)).contains 2 with
  | true=>exact KE (by rw[c2]; rfl)
  | false =>
   rw[c2]at KE;refine VL hM hs ?_;cases d2:(ss.map (·.2)).contains 2 with
   | true=>exact KE (by rw[d2]; rfl)
   | false =>
    rw[d2,qH,qH]at KE;refine VM hM hs ?_;rw[h3];refine ft (((fun h=>qF (qK ((qH ..).trans (qH ..).symm)) (qF (iR h) (by decide)):∀{es:List (Int×Int)},es.map (·.2)∈vE->(es.map jA).length<=lim)) ht) ?_;refine ft (((fun h=>qF (qK ((qH ..).trans (qH ..).symm)) (qF (iR h) (by decide)):∀{es:List (Int×Int)},es.map (·.2)∈vE->(es.map jA).length<=lim)) hs) ?_;rw[qH,qH];exact KE (Bool.eq_iff_iff.mpr ⟨fun z=>zU (zI.mpr (zT z)),fun z=>zU (zI.mp (zT z))⟩)
end
noncomputable def uI(k:Kd)(g:Int):Kd:=if g=3 then[.a false k]else k
section
variable{ps:List Int}{s s' s2:Fs}{q8:List yD}{n d m:Nat}{E:List Ev}{t e g:Int}{β:yK}{k κ:Kd}{r:xF}{N M:Nat}{Q Q' Qs:Kv}{l:vB}
def nX{γ:Type}{B:y5->Kf->St->Prop}{K:Kf}{ρ0:y5}{x:String}{L:List V}(enc:γ->V)(ev:γ->List Ev)(C:γ->Nat)(l:List γ)(hL:L=l.map enc)(R:f5 ps d (l.map C).sum s)
  (hB:∀f a s1(K':Kf),a∈l->s.q8 <+: s1.q8->f5 ps d (C a) s1->(∀s2,yZ ps s1 (C a) (ev a) s2->K' .next (y5.set (y5.mix ρ0 [x] f) x (enc a)) (fS ps s2 r []))->B (y5.set (y5.mix ρ0 [x] f) x (enc a)) K' (fS ps s1 r []))
  (hK:∀f s',yZ ps s (l.map C).sum (l.flatMap ev) s'->K .next (y5.mix ρ0 [x] f) (fS ps s' r [])):r9 (.nm x) B K L ρ0 (fS ps s r []):=by
 refine lg (γ:=List γ×Fs) [x] enc (fun g=>fS ps g.2 r []) (fun r' g=>g.1++r'=l/\yZ ps s (g.1.map C).sum (g.1.flatMap ev) g.2) (g0:=([],s)) hL (fun f g w=>?_) (fun a r' f g w W kw=>?_) ⟨rfl,yZ.refl R.inv⟩
 ·obtain⟨dn,s'⟩:=g;cases ((qS _).symm.trans w.1:dn=l);exact hK f s' w.2
 ·obtain⟨dn,s'⟩:=g;have c:(dn.map C).sum+C a<=(l.map C).sum:=by
   rw[<-(w.1:dn++a::r'=l),qU,List.sum_append,List.map_cons,List.sum_cons];exact qL (qJ ..) _
  refine hB f a s' _ ((w.1:dn++a::r'=l)▸zM _ (.head _)) ((w.2:yZ ps s (dn.map C).sum (dn.flatMap ev) s')).pre (R.step ((w.2:yZ ps s (dn.map C).sum (dn.flatMap ev) s')) c) fun s2 st2=>?_;refine kw _ (dn++[a],s2) (.set .mix (by rw[List.contains_cons,beq_self_eq_true]; rfl)) ⟨(qZ ..).trans (w.1:dn++a::r'=l),?_⟩;show yZ ps s ((dn++[a]).map C).sum ((dn++[a]).flatMap ev) s2;rw[qU,List.sum_append,List.flatMap_append,List.map_singleton,List.sum_singleton,List.flatMap_singleton];exact((w.2:yZ ps s (dn.map C).sum (dn.flatMap ev) s')).trans st2
def j7{γ:Type}{l:List γ}{c:Nat}:(l.map fun z0=>c).sum=l.length*c:=by
 induction l with
 | nil=>exact(Nat.zero_mul _).symm
 | cons a l ih=>rw[List.map_cons,List.sum_cons,ih,List.length_cons,Nat.succ_mul,Nat.add_comm]
theorem f8:∀{es:List (Int×Int)}{al:List (yK×Int)},uU q8 es al->∃z:List ((Int×Int)×(yK×Int)),z.map (·.1)=es/\z.map (·.2)=al/\∀q∈z,q.1.2=q.2.2/\yL q8 q.1.1 q.2.1
 | [],[],_=>⟨[],rfl,rfl,yV⟩
 | e::es,x::al,h=>(f8 h.2.2).elim fun z w=>⟨(e,x)::z,congrArg _ w.1,congrArg _ w.2.1,zB.mpr ⟨⟨h.1,h.2.1⟩,w.2.2⟩⟩
 | [],_::_,h=>h.elim
 | _::_,[],h=>h.elim
def RZ(h:xB k)(n:nl k<=2)(d3:Z1 k<=3):xB (uI k g)/\nl (uI k g)<=6:=by
 unfold uI
 by_cases e:g=3
 ·rw[if_pos e];exact⟨g7 ⟨h.fit,h.can,n⟩ (z7 d3),(by decide:1<=6)⟩
 ·rw[if_neg e];exact⟨h,qF n (by decide)⟩
def eN(IH:wV ps r d)(hN:16*d+24<=M)(h:PS ps)(hd:u9 β<=d)(fa:j4 β)(hz:tH β<64)(R:f5 ps d (EC d+1) s)(hx:yL s.q8 t β)(hs:wO s.q8 e k)(hk:xB k)(hn:nl k<=2)(d3:Z1 k<=3){Qo:xF->Kv}(hQ:∀t1 G,y4 D M "seek_elem" [] [.ref true 4,.tup [.int t1,.int 2],.tup [.int t,.int g],.int 0] (Qo G) ⟨G,[]⟩->Qs (.int t1) ⟨G,[]⟩) (K:∀G s',yZ ps s (EC d+1) (x8 ps β g (uI k g)) s'->Qo G .none (fS ps s' r [])):y4 D M "spread_of" [] [.ref true 0,.int e,.int g] Qs (fS ps s r []):=by
 refine N2 (n:=0) (qF (qP 3 (16*d+21)) hN) (R.inv.tok (qF (qL (qP 1 _) _) R.sz)) fun t1 qA q1 q2=>?_;have st:=yZ.tab R.inv q2;have kr:=RZ (g:=g) hk hn d3;have sr:wO qA t1 (uI k g):=by
  unfold uI
  by_cases e3:g=3
  ·rw[if_pos e3]at q1 ⊢;exact(hs.mono q2.pre).elim fun ids z=>gA ⟨e,ids,q1,z.1,z.2⟩
  ·rw[if_neg e3]at q1 ⊢;exact q1▸hs.mono q2.pre
 refine hQ t1 _ (FL (s:=s.row qA) (k:=uI k g) (g:=2) IH hN h hd fa hz (R.step st (qK (Nat.add_comm ..))) (.inl (yL.mono q2.pre hx)) sr kr.1 kr.2 (by decide) fun s2 st2=>K _ s2 ((st.trans st2).le (qK (Nat.add_comm ..))))
end
section
variable{ps as:List Int}{s s' s2:Fs}{q8:List yD}{n d m i:Nat}{E:List Ev}{t e g ro it:Int}{β:yK}{k κ:Kd}{r:xF}{N M:Nat}{Q Q' Qs:Kv}{l:vB}{al:List (yK×Int)}{es:List (Int×Int)}
def BA(hi:i<as.length):wK [(k,2)] as i=some (uI k (as.getD i 0)):=by
 have f0:gL ([(k,(2:Int))].map (·.2)) as=0:=Nat.zero_min _;have b0:back ([(k,(2:Int))].map (·.2)) as=0:=by
  unfold back
  by_cases h:yS as<as.length
  ·rw[if_pos h]; exact Nat.zero_min _
  ·exact if_neg h
 unfold wK t6;rw[f0,b0,((by unfold left; rw[f0,b0]; rfl:left [(k,2)] as=[(k,2)])),if_neg (Nat.not_lt_zero i),if_neg fun z=>Nat.not_lt.mpr (Nat.sub_eq_zero_iff_le.mp (Nat.le_zero.mp z)) hi];rfl
theorem XI{gf:Nat->Option Kd}{Gv:Int->Kd}:∀{al:List (yK×Int)}{a:Nat},(∀j,j<al.length->gf (a+j)=some (Gv ((al.map (·.2)).getD j 0)))->jG ps gf al a=al.flatMap fun q=>x8 ps q.1 q.2 (Gv q.2)
 | [],_,_=>rfl
 | (x,g)::al,a,h=>by
  rw[jG,show gf a=_ from h 0 (Nat.succ_pos _),XI (al:=al) (a:=a+1) fun j hj=>(congrArg gf (Nat.succ_add_eq_add_succ a j)).trans (h (j+1) (Nat.succ_lt_succ hj))];rfl
def G6:jG ps (wK [(k,2)] (al.map (·.2))) al 0=al.flatMap fun q=>x8 ps q.1 q.2 (uI k q.2):=XI fun j hj=>by
 rw[Nat.zero_add];exact BA (by rw[qH]; exact hj)
def L5(IH:wV ps r d)(hN:16*d+25<=N)(h:PS ps)(hal:∀q∈al,u9 q.1<=d/\j4 q.1/\tH q.1<64)(R:f5 ps d (al.length*(EC d+1)) s)(hx:uU s.q8 es al)(hr:y9 s.q8 it=some (.arr e ro))(hs:wO s.q8 e k)(hk:xB k)(hn:nl k<=2)(d3:Z1 k<=3)(K:∀s',yZ ps s (al.length*(EC d+1)) (jG ps (wK [(k,2)] (al.map (·.2))) al 0) s'->Q .none (fS ps s' r [])):y4 D N "seek_tuple" [] [.ref true 4,.int it,.tup (es.map jA),.int 0] Q (fS ps s r []):=by
 refine cm (k:=16*d+24) hN (d:=vJ) rfl rfl fun M hM=>?_;refine gr hr (bD.rl R.sz) ?_;refine qG fun ng=>?_;obtain⟨z,rfl,rfl,z3⟩:=f8 hx;refine ng ?_;rw[qH]at R K;rw[G6,List.flatMap_map]at K;refine nX (d:=d) (fun q:(Int×Int)×(yK×Int)=>jA q.1) (fun q=>x8 ps q.2.1 q.2.2 (uI k q.2.2)) (fun z0=>EC d+1) z (qY ..) (by rw[j7]; exact R) (fun f q s1 K' hq pr R1 k1=>?_) fun f s' st=>?_
 ·rw[<-(z3 q hq).1]at k1;exact eN IH hM h (hal q.2 (z5 hq)).1 (hal q.2 (z5 hq)).2.1 (hal q.2 (z5 hq)).2.2 R1 (yL.mono pr (z3 q hq).2) (hs.mono pr) hk hn d3 (fun t1 G z=>z) fun G=>k1
 ·rw[j7]at st;exact K s' st
end
def sA(ps:List Int)(lm:vB):List (yK×Int)->List Ev
 | [(α,g)]=>if g=3 then walk ps α [.t false lm]else if g=2/\lm≠[]then walk ps α (yF (lm.flatMap yR))else[]
 | _=>[]
def eD(ps:List Int)(lm:vB)(am:List (yK×Int)):List Ev:=match xO lm with
 | some k=>am.flatMap fun q=>x8 ps q.1 q.2 (uI k q.2)
 | none=>sA ps lm am
noncomputable def mρ(S T:List V):y5:=y5.set (y5.set (y5.set (y5.set (y5.set xV "finder" (.ref true 4)) "sources" (.tup S)) "targets" (.tup T)) "contra" (.int 0)) "tab" (.ref true 0)
noncomputable def q34:Sx->List Sx
 | .iff _ _ c=>c
 | _=>[]
section
variable{ps as:List Int}{s s' s2:Fs}{q8:List yD}{n d m i:Nat}{E:List Ev}{t e g ro it:Int}{α:yK}{k κ:Kd}{r:xF}{N M:Nat}{Q:Kv}{K:Kf}{lm:vB}{am:List (yK×Int)}{sm tm:List (Int×Int)}
def AF(lok:bE lm)(hn:xO lm=none):lm.map (·.2)∈FT/\xB [.t false lm]:=by
 exact⟨(((qV.mp (lok.tag:_∈[2]::FT)).elim (fun e=>(pE e).elim fun k z=>wF (hn.symm.trans z.2)) id:lm.map (·.2)∈FT)),g7 ⟨kF.mpr lok.k,(((qV.mp (lok.tag:_∈[2]::FT)).elim (fun e=>(pE e).elim fun k z=>wF (hn.symm.trans z.2)) id:lm.map (·.2)∈FT))⟩ (z7 (WF lok.dp))⟩
def R4(IH:wV ps r d)(hM:16*d+24<=M)(h:PS ps)(hd:u9 α<=d)(fa:j4 α)(hz:tH α<64)(R:f5 ps d (EC d+1) s)(lok:bE lm)(hs:uV s.q8 sm lm)(hx:yL s.q8 t α)(hn:xO lm=none)(kn:∀s',yZ ps s (EC d+1) (sA ps lm [(α,g)]) s'->K .next (mρ (sm.map jA) [jA (t,g)]) (fS ps s' r [])):xA (xP D (y4 D M)) (q34 (jC.body.getD 1 .bad)) (mρ (sm.map jA) [jA (t,g)]) K (fS ps s r []):=by
 have k0:=JV (α:=α);have R0:f5 ps d (6*PC d+176) s:=R;refine qG fun ng=>?_;refine gZ (b7 hs) fun z z1 z2 z3=>?_;refine ng ?_;have sl:(sm.map jA).length<=3:=by rw[qH,<-z1,qH]; exact(qH (f:=(·.2)) (as:=z))▸z2▸lok.len
 have sm2:sm.map (·.2)=lm.map (·.2):=by
  exact(z1).symm▸(z2).symm▸(qY).symm▸(qY).symm▸(List.map_congr_left fun q hq=>(z3 q hq).1)
 refine dc (p:=g=3) (fun e=>?_) fun e=>?_
 ·rw[show sA ps lm [(α,g)]=walk ps α [.t false lm]from if_pos e]at kn;refine hZ (n:=0) (qF (qP 2 (16*d+22)) hM) (R.inv.tok (qF (qL (qP 1 _) _) R0.sz)) (sm2▸cT (AF lok hn).1) (fun σ K h=>h) id rfl fun t1 qA q1 q2=>?_;have st:=yZ.tab R.inv q2;refine cm (k:=16*d+23) hM (d:=wR) rfl rfl fun M2 h2=>?_;exact IH α t t1 [.t false lm] (s.row qA) M2 _ hd fa hz (.inl (yL.mono q2.pre hx)) (gA ⟨sm,q1,uV.mono q2.pre hs⟩) (AF lok hn).2 (show 1<=6 by decide) (R0.step st (show 1+(1*PC d+K0 α)<=_ by exact yX [_,_] (LF.c 1 (.v 0) (.k 80) .n) 0 (.a (.k 1) (.a (.m 1 (.v 1)) (.v 0))) (.a (.m 6 (.v 1)) (.k 176)) rfl k0)) (qF (qJ _ 3) h2) fun s2 st2=>kn s2 ((st.trans st2).le (show 1+(1*PC d+K0 α)<=6*PC d+176 by exact yX [_,_] (LF.c 1 (.v 0) (.k 80) .n) 0 (.a (.k 1) (.a (.m 1 (.v 1)) (.v 0))) (.a (.m 6 (.v 1)) (.k 176)) rfl k0))
 ·refine dc (p:=g=2) (fun e2=>?_) fun e2=>?_
  ·refine ft (qF sl (by decide)) ?_;cases sm with
   | nil =>
    have l0:lm=[]:=List.eq_nil_of_length_eq_zero (by have:=congrArg List.length sm2; rw[qH,qH]at this; exact this.symm);refine kn s ?_;exact(show sA ps lm [(α,g)]=[]from(if_neg e).trans (if_neg fun z=>z.2 l0))▸(yZ.refl R.inv)
   | cons x sm =>
    rw[show sA ps lm [(α,g)]=walk ps α (yF (lm.flatMap yR))from(if_neg e).trans (if_pos ⟨e2,(fun z=>by have:=congrArg List.length sm2; rw[qH,qH,z]at this; exact Nat.succ_ne_zero _ this:lm≠[])⟩)]at kn;have gk:=jV lok;have l3:=lok.len;refine dt (p:=(0:Int)<((((x::sm).map jA).length:Nat):Int)) (zI.mpr (Nat.succ_pos _)) ?_;refine rR (l:=lm) (b:=0) (qF (qP 6 (16*d+18)) hM) (R.inv.tok (qF (qL (by exact yX [_,_] (LF.c 1 (.v 1) (.k 3) .n) 0 (.a (.v 1) (.a (.k 0) (.k 1))) (.a (.m 6 (.v 0)) (.k 176)) rfl l3) _) R0.sz)) hs (fun x hx=>⟨lok.kok hx,(w9 (lok.kok hx)).1,(lok.k x hx).2.2,iF _ lok.tag _ (z5 hx)⟩) l3 (qF gk.2.1 (by decide)) fun t1 qA q1 q2=>?_;have st:=yZ.tab R.inv q2;refine cm (k:=16*d+23) hM (d:=wR) rfl rfl fun M2 h2=>?_;exact IH α t t1 (yF (lm.flatMap yR)) (s.row qA) M2 _ hd fa hz (.inl (yL.mono q2.pre hx)) q1 gk.1 gk.2.2 (R0.step st (show lm.length+1+(nl (yF (lm.flatMap yR))*PC d+K0 α)<=6*PC d+176 by exact yX [_,_,_,_] (LF.c 1 (.v 0) (.k 80) (LF.c 1 (.v 1) (.m 6 (.v 2)) (LF.c 1 (.v 3) (.k 3) .n))) 0 (.a (.a (.v 3) (.k 1)) (.a (.v 1) (.v 0))) (.a (.m 6 (.v 2)) (.k 176)) rfl k0 (z4 (PC d) gk.2.2) l3)) (qF (qJ _ 3) h2) fun s2 st2=>kn s2 ((st.trans st2).le (show lm.length+1+(nl (yF (lm.flatMap yR))*PC d+K0 α)<=6*PC d+176 by exact yX [_,_,_,_] (LF.c 1 (.v 0) (.k 80) (LF.c 1 (.v 1) (.m 6 (.v 2)) (LF.c 1 (.v 3) (.k 3) .n))) 0 (.a (.a (.v 3) (.k 1)) (.a (.v 1) (.v 0))) (.a (.m 6 (.v 2)) (.k 176)) rfl k0 (z4 (PC d) gk.2.2) l3))
  ·refine kn s ?_;exact(show sA ps lm [(α,g)]=[]from(if_neg e).trans (if_neg fun z=>e2 z.1))▸(yZ.refl R.inv)
end
section
variable{ps as:List Int}{s s' s2:Fs}{q8:List yD}{n d m i:Nat}{E:List Ev}{t e g ro it:Int}{α:yK}{k κ:Kd}{r:xF}{N M:Nat}{Q:Kv}{K:Kf}{lm:vB}{am:List (yK×Int)}{sm tm:List (Int×Int)}
@[elab_as_elim] def D6{γ δ:Type}{P:List γ->List δ->Prop}{l:List γ}{m:List δ}(e:l.length=m.length)(h0:P [] [])(h1:∀x q,P [x] [q])(h2:∀x y l q q' m,P (x::y::l) (q::q'::m)):P l m:=by
 cases l with
 | nil=>exact(List.eq_nil_of_length_eq_zero e.symm:m=[])▸h0
 | cons x l=>cases m with
  | nil=>exact absurd e (Nat.succ_ne_zero _)
  | cons q m =>
   cases l with
   | nil=>exact(List.eq_nil_of_length_eq_zero (Nat.succ.inj e).symm:m=[])▸h1 x q
   | cons y l=>cases m with
    | nil=>exact absurd (Nat.succ.inj e) (Nat.succ_ne_zero _)
    | cons q' m=>exact h2 x y l q q' m
def S5(hx:uU q8 tm am):tm.length=am.length:=(f8 hx).elim fun z h=>by rw[<-h.1,<-h.2.1,qH,qH]
def N3(hs:uV q8 sm lm):sm.length=lm.length:=(b7 hs).elim fun z h=>by rw[<-h.1,<-h.2.1,qH,qH]
def DI(IH:wV ps r d)(hN:16*d+25<=N)(h:PS ps)(hal:∀q∈am,u9 q.1<=d/\j4 q.1/\tH q.1<64)(R:f5 ps d (am.length*(EC d+1)) s)(lok:bE [(k,2)])(hs:wO s.q8 e k)(hx:uU s.q8 tm am)(K:∀s',yZ ps s (am.length*(EC d+1)) (am.flatMap fun q=>x8 ps q.1 q.2 (uI k q.2)) s'->Q .none (fS ps s' r [])):y4 D N "seek_middle" [] [.ref true 4,.tup [jA (e,2)],.tup (tm.map jA),.int 0] Q (fS ps s r []):=by
 refine cm (k:=16*d+24) hN (d:=jC) rfl rfl fun M hM=>?_;refine qG fun ng=>?_;obtain⟨z,rfl,rfl,z3⟩:=f8 hx;refine ng ?_;rw[qH]at R K;rw[List.flatMap_map]at K;refine nX (d:=d) (fun q:(Int×Int)×(yK×Int)=>jA q.1) (fun q=>x8 ps q.2.1 q.2.2 (uI k q.2.2)) (fun z0=>EC d+1) z (qY ..) (by rw[j7]; exact R) (fun f q s1 K' hq pr R1 k1=>?_) fun f s' st=>?_
 ·have zz:=z3 q hq;refine qG fun ng=>?_;refine XQ (hal q.2 (z5 hq)) fun a1 a2 a3=>?_;refine ng ?_;rw[<-zz.1]at k1;exact eN IH hM h a1 a2 a3 R1 (yL.mono pr zz.2) (hs.mono pr) (lok.kok (.head _)) (lok.k _ (.head _)).2.2 (lok.dp _ (.head _)) (fun t1 G z=>z) fun G=>k1
 ·rw[j7]at st;exact K s' st
def q3O(IH:wV ps r d)(hM:16*d+24<=M)(h:PS ps)(hal:∀q∈am,u9 q.1<=d/\j4 q.1/\tH q.1<64)(R:f5 ps d (am.length*(EC d+1)) s)(lok:bE lm)(hs:uV s.q8 sm lm)(hx:uU s.q8 tm am)(tl:(tm.map jA).length<=3)(hn:xO lm=none)(kn:∀s',yZ ps s (am.length*(EC d+1)) (sA ps lm am) s'->K .next (mρ (sm.map jA) (tm.map jA)) (fS ps s' r [])):xA (xP D (y4 D M)) (q34 (jC.body.getD 1 .bad)) (mρ (sm.map jA) (tm.map jA)) K (fS ps s r []):=by
 have e:=S5 hx;revert hx tl kn R hal;refine D6 e ?_ ?_ ?_
 ·exact fun hal R hx tl kn=>kn s (yZ.refl R.inv)
 ·intro x q hal R hx tl kn;have e1:[q].length*(EC d+1)=EC d+1:=Nat.one_mul _;rw[e1]at R kn;obtain⟨t,g⟩:=x;obtain⟨α,g'⟩:=q;cases (hx.1:g=g');exact R4 IH hM h (hal _ (.head _)).1 (hal _ (.head _)).2.1 (hal _ (.head _)).2.2 R lok hs hx.2.1 hn kn
 ·intro x y l q q' m hal R hx tl kn;refine ft (l:=(x::y::l).map jA) (qF tl (by decide)) ?_;refine ft (l:=(x::y::l).map jA) (qF tl (by decide)) ?_;exact kn s (yZ.refl R.inv)
def DJ(IH:wV ps r d)(hN:16*d+25<=N)(h:PS ps)(hal:∀q∈am,u9 q.1<=d/\j4 q.1/\tH q.1<64)(R:f5 ps d (am.length*(EC d+1)) s)(lok:bE lm)(hs:uV s.q8 sm lm)(hx:uU s.q8 tm am)(sl:(sm.map jA).length<=3)(tl:(tm.map jA).length<=3)(K:∀s',yZ ps s (am.length*(EC d+1)) (eD ps lm am) s'->Q .none (fS ps s' r [])):y4 D N "seek_middle" [] [.ref true 4,.tup (sm.map jA),.tup (tm.map jA),.int 0] Q (fS ps s r []):=by
 unfold eD at K;cases hsr:xO lm with
 | some k =>
  rw[hsr]at K;cases jF hsr;obtain⟨x,rfl⟩:=List.length_eq_one_iff.mp (N3 hs);obtain⟨e,g⟩:=x;cases (hs.1:g=2);exact DI IH hN h hal R lok hs.2.1 hx K
 | none =>
  rw[hsr]at K;refine cm (k:=16*d+24) hN (d:=jC) rfl rfl fun M hM=>?_;have w:=fun K=>q3O IH hM h hal R lok hs hx tl hsr (K:=uO Q) K;have e:=N3 hs;revert sl hs hsr w K lok;refine D6 e ?_ ?_ ?_
  ·exact fun z0 z0 z0 K z0 w=>w K
  ·exact fun x q z0 hs z0 K hsr w=>df (p:=x.2=2) (fun e=>wF (hsr.symm.trans (if_pos (hs.1.symm.trans e)))) (w K)
  ·exact fun x y l q q' m z0 z0 sl K z0 w=>ft (l:=(x::y::l).map jA) (qF sl (by decide)) (w K)
end
def lD(ps:List Int)(l:vB)(al:List (yK×Int))(i j:Nat):List Ev:=match l[i]?,al[j]? with
 | some q,some a=>x8 ps a.1 a.2 (yR q)
 | _,_=>[]
noncomputable def pρ(S T:List V)(f b:Nat):y5:=y5.set (y5.set (y5.set (y5.set (y5.set (y5.set xV "finder" (.ref true 4)) "sources" (.tup S)) "targets" (.tup T)) "contra" (.int 0)) "front" (.int f)) "back" (.int b)
abbrev ZS:=List ((Int×Int)×(List Pt×Int))
abbrev ZA:=List ((Int×Int)×(yK×Int))
section
variable{ps as:List Int}{s s' s2:Fs}{q8:List yD}{n d m i f b:Nat}{E:List Ev}{t e g ro it:Int}{α:yK}{k κ:Kd}{r:xF}{N M:Nat}{Q:Kv}{K:V->Prop}{L:List V}{z:ZS}{y:ZA}
theorem JC:∀{z:ZS},(∀q∈z,q.1.2=q.2.2/\wO q8 q.1.1 q.2.1)->uV q8 (z.map (·.1)) (z.map (·.2))
 | [],_=>trivial
 | q::z,h=>⟨(h q (.head _)).1,(h q (.head _)).2,JC fun x hx=>h x (.tail _ hx)⟩
theorem XW:∀{z:ZA},(∀q∈z,q.1.2=q.2.2/\yL q8 q.1.1 q.2.1)->uU q8 (z.map (·.1)) (z.map (·.2))
 | [],_=>trivial
 | q::z,h=>⟨(h q (.head _)).1,(h q (.head _)).2,XW fun x hx=>h x (.tail _ hx)⟩
def N1{n f b:Nat}(h:f+b<=n):∃p,n=f+p+b:=⟨n-(f+b),by rw[Nat.add_right_comm,Nat.add_sub_cancel' h]⟩
def q3N{n f p b:Nat}(h:n=f+p+b):n-b-f=p:=by rw[h,Nat.add_sub_cancel,Nat.add_sub_cancel_left]
def q7M{v:V}(h:L[L.length-1-n]?=some v)(hn:n<L.length)(hl:L.length<=lim)(k:K v):lH L (-(1+(n:Int))) K:=by
 exact(show -(1+(n:Int))=Int.negSucc n from congrArg (- ·) (Int.add_comm 1 n))▸(ft hl (kt (Nat.ble_eq_true_of_le hn) (sv h k)))
def VT{γ:Type}{z:List ((Int×Int)×γ)}{q:(Int×Int)×γ}(h:z[i]?=some q):((z.map (·.1)).map jA)[i]?=some (jA q.1):=by rw[List.getElem?_map,List.getElem?_map,h]; rfl
def q2S{i j:Nat}{q:(Int×Int)×(List Pt×Int)}{a:(Int×Int)×(yK×Int)}(h:z[i]?=some q)(h':y[j]?=some a):lD ps (z.map (·.2)) (y.map (·.2)) i j=x8 ps a.2.1 a.2.2 (yR q.2):=by unfold lD; rw[List.getElem?_map,List.getElem?_map,h,h']; rfl
def q70(n:Nat):((List.range n).map fun (i:Nat)=>V.int (0+i))=(List.range n).map fun (i:Nat)=>V.int i:=List.map_congr_left fun i z0=>congrArg V.int (Int.zero_add _)
def q2L{f p b X:Nat}:f*X+p*(X+1)+b*X<=(f+p+b)*(X+1):=by
 rw[Nat.add_mul,Nat.add_mul];exact Nat.add_le_add (qR (zR f (Nat.le_succ X)) _) (zR b (Nat.le_succ X))
def PD(IH:wV ps r d)(hM:16*d+25<=M)(h:PS ps)(hal:∀q∈y,u9 q.2.1<=d/\j4 q.2.1/\tH q.2.1<64)(R:f5 ps d (y.length*(EC d+1)) s)(lok:bE (z.map (·.2)))(z3:∀q∈z,q.1.2=q.2.2/\wO s.q8 q.1.1 q.2.1)(y3:∀q∈y,q.1.2=q.2.2/\yL s.q8 q.1.1 q.2.1)(yl:y.length<=3)(hf:f<=z.length)(hb:b<=z.length)(hfb:f+b<=y.length)
  (K:∀s',yZ ps s (y.length*(EC d+1)) (((List.range f).flatMap fun i=>lD ps (z.map (·.2)) (y.map (·.2)) i i)++eD ps (cut (z.map (·.2)) f (z.length-b)) (cut (y.map (·.2)) f (y.length-b))++(List.range b).flatMap fun i=>lD ps (z.map (·.2)) (y.map (·.2)) (z.length-1-i) (y.length-1-i)) s'->Q .none (fS ps s' r [])) :
  xA (xP D (y4 D M)) (jD.body.drop 3) (pρ ((z.map (·.1)).map jA) ((y.map (·.1)).map jA) f b) (uO Q) (fS ps s r []):=by
 have zl:z.length<=3:=(qH (f:=(·.2)) (as:=z))▸lok.len;refine(N1 hfb).elim fun p py=>?_;have G9:=q2L (f:=f) (p:=p) (b:=b) (X:=EC d);have eS:((z.map (·.1)).map jA).length=z.length:=(qH ..).trans (qH ..);have eT:((y.map (·.1)).map jA).length=y.length:=(qH ..).trans (qH ..);have b3:∀{n:Nat},n<=3->n<=lim:=fun h=>qF h (by decide);have b4:∀{n:Nat},n<=3->n<1000000000:=fun h=>qI h (by decide);have R0:f5 ps d ((f+p+b)*(EC d+1)) s:=py▸R;have el:∀{i j:Nat}{s1:Fs}{Q':Kv}{q:(Int×Int)×(List Pt×Int)}{a:(Int×Int)×(yK×Int)},s.q8 <+: s1.q8->f5 ps d (EC d) s1->z[i]?=some q->y[j]?=some a->(∀s2,yZ ps s1 (EC d) (lD ps (z.map (·.2)) (y.map (·.2)) i j) s2->Q' .none (fS ps s2 r []))->y4 D M "seek_elem" [] [.ref true 4,jA q.1,jA a.1,.int 0] Q' (fS ps s1 r []):=fun {i j s1 Q' q a} pr R1 e1 e2 k1=>by
  have m1:=List.mem_of_getElem? e1;refine qG fun ng=>?_;refine(z3 q m1).elim fun h1 h2=>?_;refine(y3 a (List.mem_of_getElem? e2)).elim fun h3 h4=>?_;refine XQ (hal a (List.mem_of_getElem? e2)) fun a1 a2 a3=>?_;refine ng ?_;rw[q2S e1 e2,<-h3,show yR q.2=yR (q.2.1,q.1.2)by rw[h1]]at k1;exact FL IH (zK hM) h a1 a2 a3 R1 (.inl (yL.mono pr h4)) (h2.mono pr) (lok.kok (z5 (f:=(·.2)) m1)) (qF (lok.k _ (z5 (f:=(·.2)) m1)).2.2 (by decide)) (h1▸iF _ lok.tag _ (z5 (z5 (f:=(·.2)) m1))) k1
 refine kt (b:=Nat.blt f 1000000000) (Nat.ble_eq_true_of_le (b4 (qF hf zl))) ?_;refine nX (d:=d) (fun i:Nat=>.int i) (fun i=>lD ps (z.map (·.2)) (y.map (·.2)) i i) (fun z0=>EC d) (List.range f) (q70 f) (by rw[j7,List.length_range]; exact R0.le (qT _) (qF (qJ _ _) (qF (qJ _ _) G9))) (fun g i s1 K' hi pr R1 k1=>?_) fun g s1 st1=>?_
 ·have hi:=List.mem_range.mp hi;refine ix (VT (zS (qQ hi hf))) (b4 (z9 (qQ hi (qF hf zl)))) ?_;refine ix (VT (zS (l:=y) (qQ hi (qF (qJ ..) hfb)))) (b4 (z9 (qQ hi (qF hf zl)))) ?_;exact el pr R1 (zS (qQ hi hf)) (zS (l:=y) (qQ hi (qF (qJ ..) hfb))) k1
 ·rw[j7,List.length_range]at st1;refine ft (b3 (eS▸zl)) ?_;refine ft (b3 (eS▸zl)) ?_;refine sJ rfl (eS▸hf) (b4 (eS▸zl)) ?_;refine sJ (NB (eS▸hb)) (Nat.sub_le ..) (b4 (eS▸zl)) ?_;refine ft (b3 (eT▸yl)) ?_;refine ft (b3 (eT▸yl)) ?_;refine sJ rfl (eT▸qF (qJ ..) hfb) (b4 (eT▸yl)) ?_;refine sJ (NB (eT▸qF (qP ..) hfb)) (Nat.sub_le ..) (b4 (eT▸yl)) ?_;rw[eS,eT,vG,vG,vG,vG];have cl:((cut y f (y.length-b)).map (·.2)).length=p:=by
   rw[qH];exact(List.length_drop).symm▸(List.length_take).symm▸(Nat.min_eq_left (Nat.sub_le ..)).symm▸(q3N py)
  rw[vG,vG]at K;refine DJ (lm:=(cut z f (z.length-b)).map (·.2)) (am:=(cut y f (y.length-b)).map (·.2)) IH hM h (List.forall_mem_map.mpr fun q hq=>hal q (uD hq)) (by rw[cl]; exact R0.step st1 (qF (qJ _ _) G9)) (vG (f:=(·.2)) (l:=z)▸lok.cut (qF hf zl) (qF (Nat.sub_le ..) zl)) (JC fun q hq=>⟨(z3 q (uD hq)).1,(z3 q (uD hq)).2.mono st1.pre⟩) (XW fun q hq=>⟨(y3 q (uD hq)).1,yL.mono st1.pre (y3 q (uD hq)).2⟩) (by rw[qH,qH]; exact qF KL zl) (by rw[qH,qH]; exact qF KL yl) fun s2 st2=>?_;rw[cl]at st2;have st3:=st1.trans st2;refine kt (b:=Nat.blt b 1000000000) (Nat.ble_eq_true_of_le (b4 (qF hb zl))) ?_;refine nX (d:=d) (fun i:Nat=>.int (1+i)) (fun i=>lD ps (z.map (·.2)) (y.map (·.2)) (z.length-1-i) (y.length-1-i)) (fun z0=>EC d) (List.range b) rfl ((j7)▸((List.length_range)▸(R0.step st3 G9))) (fun g i s1 K' hi pr R1 k1=>?_) fun g s1 st4=>?_
  ·have hi:=List.mem_range.mp hi;have i1:i<z.length:=qQ hi hb;have i2:i<y.length:=qQ hi (qF (qP ..) hfb);refine q7M (by rw[eS]; exact VT (zS (l:=z) (i:=z.length-1-i) (Nat.sub_one_sub_lt_of_lt i1))) (eS▸i1) (b3 (eS▸zl)) ?_;refine q7M (by rw[eT]; exact VT (zS (l:=y) (i:=y.length-1-i) (Nat.sub_one_sub_lt_of_lt i2))) (eT▸i2) (b3 (eT▸yl)) ?_;exact el (st3.pre.trans pr) R1 (zS (l:=z) (i:=z.length-1-i) (Nat.sub_one_sub_lt_of_lt i1)) (zS (l:=y) (i:=y.length-1-i) (Nat.sub_one_sub_lt_of_lt i2)) k1
  ·rw[j7,List.length_range]at st4;exact K s1 ((st3.trans st4).le (py▸G9))
end
section
variable{ps:List Int}{l:vB}{al:List (yK×Int)}{i j f b p:Nat}{e:Ev}{gf:Nat->Option Kd}{k:Kd}{a:yK×Int}
def oU{γ:Type}{l:List γ}{q:γ}{n m:Nat}:q∈cut l n m↔∃i,n<=i/\i<m/\l[i]?=some q:=by
 unfold cut;rw[List.mem_iff_getElem?]
 constructor
 ·rintro⟨i,h⟩
  rw[List.getElem?_drop,List.getElem?_take]at h
  by_cases c:n+i<m
  ·rw[if_pos c]at h;exact⟨n+i,qJ ..,c,h⟩
  ·rw[if_neg c]at h;exact wF h
 ·rintro⟨i,h1,h2,h3⟩
  refine⟨i-n,?_⟩;rw[List.getElem?_drop,List.getElem?_take,Nat.add_sub_cancel' h1];exact(if_pos h2).trans h3
def fH(h:al[i]?=some a)(g:gf i=some k):xT ps gf al i=x8 ps a.1 a.2 k:=by unfold xT; rw[h,g]
def l8(g:gf i=none):xT ps gf al i=[]:=by unfold xT; rw[g]
def bK(g:gf i=(l[j]?).map yR):xT ps gf al i=lD ps l al j i:=by
 unfold xT lD;rw[g];cases l[j]? <;> cases al[i]? <;> rfl
def HZ(hf:f=gL (l.map (·.2)) (al.map (·.2)))(hb:b=back (l.map (·.2)) (al.map (·.2)))(hp:al.length=f+p+b):e∈eD ps (cut l f (l.length-b)) (cut al f (al.length-b))↔∃i,f<=i/\i<f+p/\e∈xT ps (wK l (al.map (·.2))) al i:=by
 have lt:∀{i},i<f+p->i<al.length:=fun h=>qQ h (hp▸qJ ..);have G:∀i,f<=i->i<f+p->∀a,al[i]?=some a->wK l (al.map (·.2)) i=match xO (cut l f (l.length-b))with
   | some k=>some (uI k a.2)
   | none=>if p=1/\a.2=3 then some [.t false (cut l f (l.length-b))]else if p=1/\a.2=2/\cut l f (l.length-b)≠[]then some (yF ((cut l f (l.length-b)).flatMap yR))else none:=fun i h1 h2 a ha=>by
  unfold wK t6 left;rw[<-hf,<-hb,if_neg (Nat.not_lt.mpr h1),qH,if_neg (fun z=>Nat.not_le_of_lt h2 (Nat.le_of_add_le_add_right (qF (qK hp.symm) (qF (Nat.sub_le_iff_le_add.mp z) (qK (Nat.add_comm b i)))))),show(al.map (·.2)).getD i 0=a.2 by rw[List.getD_eq_getElem?_getD,List.getElem?_map,ha]; rfl,q3N hp];rfl
 rw[(by rw[hp,Nat.add_sub_cancel]:al.length-b=f+p)];unfold eD;cases hs:xO (cut l f (l.length-b))with
 | some k =>
  rw[hs]at G;rw[List.mem_flatMap]
  constructor
  ·rintro⟨a,ha,he⟩
   refine gZ (oU.mp ha) fun i h1 h2 h3=>?_;exact⟨i,h1,h2,fH h3 (G i h1 h2 a h3)▸he⟩
  ·rintro⟨i,h1,h2,he⟩
   have h3:=zS (l:=al) (i:=i) (lt h2);exact⟨_,oU.mpr ⟨i,h1,h2,h3⟩,fH h3 (G i h1 h2 _ h3)▸he⟩
 | none =>
  rw[hs]at G;show e∈sA ps _ _↔_;have cl:(cut al f (f+p)).length=p:=by
   unfold cut;rw[List.length_drop,List.length_take,Nat.min_eq_left (hp▸qJ ..),Nat.add_sub_cancel_left]
  by_cases p1:p=1
  ·subst p1;obtain⟨⟨α,g⟩,hm⟩:=List.length_eq_one_iff.mp cl;rw[hm];refine qG fun ng=>?_;refine gZ (oU.mp (hm.symm▸List.mem_cons_self:(α,g)∈cut al f (f+1))) fun i h1 h2 h3=>?_;refine ng ?_;have i1:∀{i},f<=i->i<f+1->i=f:=fun a b=>Nat.le_antisymm (Nat.le_of_lt_succ b) a;cases i1 h1 h2;have E:xT ps (wK l (al.map (·.2))) al f=sA ps (cut l f (l.length-b)) [(α,g)]:=by
    by_cases g3:g=3
    ·exact(fH h3 ((G f h1 h2 _ h3).trans (if_pos ⟨rfl,g3⟩)))▸(show x8 ps α g _=_ from if_pos (g3▸by decide))▸((if_pos g3).symm)
    ·by_cases g2:g=2/\cut l f (l.length-b)≠[]
     ·exact(fH h3 (((G f h1 h2 _ h3).trans (if_neg fun z=>g3 z.2)).trans (if_pos ⟨rfl,g2⟩))).trans ((show x8 ps α g _=_ from if_pos (g2.1▸by decide)).trans (((if_neg g3).trans (if_pos g2)).symm))
     ·exact(l8 (((G f h1 h2 _ h3).trans (if_neg fun z=>g3 z.2)).trans (if_neg fun z=>g2 z.2))).trans (((if_neg g3).trans (if_neg g2)).symm)
   rw[<-E];exact⟨fun he=>⟨f,h1,h2,he⟩,fun z=>gZ z fun i a b he=>i1 a b▸he⟩
  ·have m0:sA ps (cut l f (l.length-b)) (cut al f (f+p))=[]:=by
    revert cl;cases cut al f (f+p)with
    | nil=>exact fun z0=>rfl
    | cons a l=>cases l with
     | nil=>exact fun c=>absurd c.symm p1
     | cons _ _=>exact fun z0=>rfl
   rw[m0];refine⟨fun h=>absurd h qW,fun z=>z.elim fun i z=>z.elim fun h1 z=>z.elim fun h2 he=>?_⟩;rw[l8 ((G i h1 h2 _ (zS (l:=al) (i:=i) (lt h2))).trans ((if_neg fun z=>p1 z.1).trans (if_neg fun z=>p1 z.1)))]at he;exact he
def OE{i b n:Nat}(h:i<b):n-b<=n-1-i:=Nat.sub_sub n 1 i▸Nat.sub_le_sub_left (Nat.add_comm 1 i▸h) n
def OF{i b n:Nat}(h:i<b)(hn:i<n):n-(n-1-i)<=b:=by
 rw[Nat.sub_sub,Nat.sub_sub_self (Nat.add_comm 1 i▸hn)];exact Nat.add_comm 1 i▸h
def OG{l i n:Nat}(h:i<n):l+(n-1-i)-n=l-1-i:=by
 rw[Nat.sub_sub,Nat.sub_sub,<-Nat.add_sub_assoc (Nat.add_comm 1 i▸h),Nat.sub_right_comm,Nat.add_sub_cancel]
def PQ{i m b n:Nat}(e:n=m+b)(h:m<=i)(hn:i<n):n-1-i<b:=by
 rw[Nat.sub_sub];exact Nat.sub_lt_left_of_lt_add (Nat.add_comm 1 i▸hn) (e▸Nat.add_lt_add_right (qI h (Nat.lt_add_of_pos_left Nat.one_pos)) b)
def XJ(hf:f=gL (l.map (·.2)) (al.map (·.2)))(hb:b=back (l.map (·.2)) (al.map (·.2)))(hfb:f+b<=al.length)(bl:b<=l.length):e∈((List.range f).flatMap fun i=>lD ps l al i i)++eD ps (cut l f (l.length-b)) (cut al f (al.length-b))++((List.range b).flatMap fun i=>lD ps l al (l.length-1-i) (al.length-1-i))↔e∈jG ps (wK l (al.map (·.2))) al 0:=by
 refine(N1 hfb).elim fun p py=>?_;have mn:al.length-b=f+p:=by rw[py,Nat.add_sub_cancel]
 have gF:∀i,i<f->wK l (al.map (·.2)) i=(l[i]?).map yR:=fun i hi=>by
  unfold wK t6;exact(hf)▸(if_pos hi)
 have gB:∀i,i<b->wK l (al.map (·.2)) (al.length-1-i)=(l[l.length-1-i]?).map yR:=fun i hi=>by
  unfold wK t6;rw[<-hf,<-hb,if_neg (Nat.not_lt_of_le (qF (mn▸qJ f p:f<=al.length-b) (OE hi))),qH,if_pos (OF hi (((fun h=>qQ h (qF (qP b f) hfb):∀{i},i<b->i<al.length)) hi)),OG (((fun h=>qQ h (qF (qP b f) hfb):∀{i},i<b->i<al.length)) hi)]
 rw[uK,zH,zH,HZ hf hb py,List.mem_flatMap,List.mem_flatMap,List.mem_flatMap]
 constructor
 ·rintro((⟨i,h1,h2⟩ | ⟨i,h1,h2,h3⟩) | ⟨i,h1,h2⟩)
  ·have h1:=List.mem_range.mp h1;exact⟨i,List.mem_range.mpr (qQ h1 (qF (qJ f b) hfb)),bK (gF i h1)▸h2⟩
  ·exact⟨i,List.mem_range.mpr (qQ h2 (py▸qJ (f+p) b)),h3⟩
  ·have h1:=List.mem_range.mp h1;exact⟨al.length-1-i,List.mem_range.mpr (Nat.sub_one_sub_lt_of_lt (((fun h=>qQ h (qF (qP b f) hfb):∀{i},i<b->i<al.length)) h1)),bK (gB i h1)▸h2⟩
 ·rintro⟨i,h1,h2⟩
  by_cases c:i<f
  ·exact .inl (.inl ⟨i,List.mem_range.mpr c,bK (gF i c)▸h2⟩)
  ·by_cases c2:i<f+p
   ·exact .inl (.inr ⟨i,Nat.not_lt.mp c,c2,h2⟩)
   ·refine .inr ⟨al.length-1-i,List.mem_range.mpr (PQ py (Nat.not_lt.mp c2) (List.mem_range.mp h1)),?_⟩;have g:=bK (ps:=ps) (al:=al) (gB (al.length-1-i) (PQ py (Nat.not_lt.mp c2) (List.mem_range.mp h1)));rw[Nat.sub_sub_self (Nat.le_sub_one_of_lt (List.mem_range.mp h1))]at g ⊢;exact g▸h2
end
section
variable{ps as:List Int}{s s' s2:Fs}{q8:List yD}{n d m i f b:Nat}{E:List Ev}{t e g ro it:Int}{α:yK}{k κ:Kd}{r:xF}{N M:Nat}{Q:Kv}{L:List V}{z:ZS}{y:ZA}{p:Pt}{al:List (yK×Int)}{ts:List (Int×Int)}
def CD{ρ:y5}{x:String}{v w:V}:y5.set (y5.set ρ x v) x w=y5.set ρ x w:=funext fun y=>by
 unfold y5.set
 by_cases e:y=x
 ·rw[if_pos e,if_pos e]
 ·rw[if_neg e,if_neg e,if_neg e]
def q0X{q:List Int}(h:as∈AT):gL q as+back q as<=as.length:=by
 unfold gL back
 by_cases c:yS as<as.length
 ·rw[if_pos c];exact qF (Nat.add_le_add (Nat.min_le_right ..) (Nat.min_le_right ..)) (Nat.add_comm ..▸LH as h c)
 ·rw[if_neg c];exact qF (Nat.min_le_right ..) (j6 as)
def iV{q:List Int}:back q as<=q.length:=by
 unfold back
 by_cases c:yS as<as.length
 ·rw[if_pos c];exact qF (Nat.min_le_left ..) (List.length_reverse (as:=q)▸j6 _)
 ·rw[if_neg c];exact zA _
def q4Q:∀s∈FT,s∈vE:=fun s h=>cT h
def PB(IH:wV ps r d)(hN:16*d+26<=N)(h:PS ps)(hal:∀q∈y,u9 q.2.1<=d/\j4 q.2.1/\tH q.2.1<64)(R:f5 ps d (y.length*(EC d+1)) s)(lok:bE (z.map (·.2)))(lft:(z.map (·.2)).map (·.2)∈FT)(aat:(y.map (·.2)).map (·.2)∈AT)(z3:∀q∈z,q.1.2=q.2.2/\wO s.q8 q.1.1 q.2.1)(y3:∀q∈y,q.1.2=q.2.2/\yL s.q8 q.1.1 q.2.1)
  (K:∀s',yZ ps s (y.length*(EC d+1)) (jG ps (wK (z.map (·.2)) ((y.map (·.2)).map (·.2))) (y.map (·.2)) 0) s'->Q .none (fS ps s' r [])):y4 D N "seek_places" [] [.ref true 4,.tup ((z.map (·.1)).map jA),.tup ((y.map (·.1)).map jA),.int 0] Q (fS ps s r []):=by
 refine cm (k:=16*d+25) hN (d:=jD) rfl rfl fun M hM=>?_;have m1:1<=M:=qF (qP 1 _) hM;have eg:(z.map (·.1)).map (·.2)=(z.map (·.2)).map (·.2):=by rw[qY,qY]; exact List.map_congr_left fun q hq=>(z3 q hq).1
 have eh:(y.map (·.1)).map (·.2)=(y.map (·.2)).map (·.2):=by rw[qY,qY]; exact List.map_congr_left fun q hq=>(y3 q hq).1
 have hz:(z.map (·.1)).map (·.2)∈vE:=eg▸cT lft;have hy:(y.map (·.1)).map (·.2)∈vE:=eh▸XX aat;have yl:y.length<=3:=by have:=tN aat; rwa [qH,qH]at this
 have TT:=fun e=>XJ (ps:=ps) (l:=z.map (·.2)) (al:=y.map (·.2)) (e:=e) rfl rfl (by rw[qH]; have:=q0X (q:=(z.map (·.2)).map (·.2)) aat; rwa [qH,qH]at this) (by have:=iV (q:=(z.map (·.2)).map (·.2)) (as:=(y.map (·.2)).map (·.2)); rwa [qH]at this);rw[qH,qH]at TT;have W:∀{f b:Nat},f=gL ((z.map (·.2)).map (·.2)) ((y.map (·.2)).map (·.2))->b=back ((z.map (·.2)).map (·.2)) ((y.map (·.2)).map (·.2))->xA (xP D (y4 D M)) (jD.body.drop 3) (pρ ((z.map (·.1)).map jA) ((y.map (·.1)).map jA) f b) (uO Q) (fS ps s r []):=fun {f b} ef eb=>by
  subst ef eb;refine PD IH hM h hal R lok z3 y3 yl ?_ ?_ ?_ fun s' st=>K s' (st.eq TT)
  ·exact qF (Nat.min_le_left ..) (qF (j6 _) (qK ((qH ..).trans (qH ..))))
  ·exact qF iV (qK ((qH ..).trans (qH ..)))
  ·exact qF (q0X aat) (qK ((qH ..).trans (qH ..)))
 refine oA m1 hz ?_;refine oA m1 hy ?_;rw[eg,eh];show xA (xP D (y4 D M)) (jD.body.drop 1) (y5.set (y5.set (y5.set (y5.set (y5.set xV "finder" (.ref true 4)) "sources" (.tup ((z.map (·.1)).map jA))) "targets" (.tup ((y.map (·.1)).map jA))) "contra" (.int 0)) "front" (.int (min (yS ((z.map (·.2)).map (·.2)):Int) (yS ((y.map (·.2)).map (·.2)))))) (uO Q) (fS ps s r []);rw[YH];refine oA m1 hy ?_;rw[eh];refine ft (by rw[qH,qH]; exact qF yl (by decide)) ?_;have lt:∀{x:Nat},(x:Int)<(((y.map (·.1)).map jA).length:Nat)↔x<((y.map (·.2)).map (·.2)).length:=fun {x}=>by rw[qH,qH,qH,qH]; exact zI
 refine dc (fun c=>?_) fun c=>?_
 ·refine GY m1 hz ?_;refine GY m1 hy ?_;rw[eg,eh];have e:=W (b:=min (yS ((z.map (·.2)).map (·.2)).reverse) (yS ((y.map (·.2)).map (·.2)).reverse)) rfl (if_pos (lt.mp c)).symm;unfold pρ at e;rw[<-YH (a:=yS ((z.map (·.2)).map (·.2)).reverse),<-CD (v:=.int 0)]at e;exact e
 ·exact W (b:=0) rfl (if_neg fun z=>c (lt.mpr z)).symm
end
section
variable{ps as:List Int}{s s' s2:Fs}{q8:List yD}{n d m i f b c:Nat}{E:List Ev}{t e g ro s0:Int}{α:yK}{k κ:Kd}{r:xF}{N M:Nat}{Q:Kv}{L:List V}{z:List (Int×Pt)}{p:Pt}{al:List (yK×Int)}{ts:List (Int×Int)}{it:Int}{rt:yD}
def q1F(h:al.length<=3):al.length*(EC d+1)<=PC (d+1):=by
 have:=z4 (EC d+1) h
 exact yX [_,_] (LF.c 1 (.v 0) (.m 3 (.a (.a (.m 6 (.v 1)) (.k 175)) (.k 1))) .n) 0 (.v 0) (.a (.m 3 (.a (.m 6 (.v 1)) (.k 210))) (.k 20)) rfl this
def q15{l:List Int}(h:l∈FT):l.contains 3=false:=by
 cases e:l.contains 3 with
 | false=>rfl
 | true=>exact absurd rfl (iF l (List.mem_cons_of_mem _ h) 3 (qX.mp e))
def RK(IH:wV ps r d)(hN:16*d+30<=N)(h:PS ps)(hal:∀q∈al,u9 q.1<=d/\j4 q.1/\tH q.1<64)(hat:al.map (·.2)∈AT)(hx:uU s.q8 ts al)(hs:xS s.q8 it p)(fp:kO p)(dp:c6 p<=4)(R:f5 ps d (nl [p]*PC (d+1)) s)(hl:s.q8.length<=lim)
  (K:∀s',yZ ps s (nl [p]*PC (d+1)) (yU ps (.t al) p) s'->Q .none (fS ps s' r [])):y4 D N "seek_one" [] [.ref true 4,.int it,.int t,.tup (yD.tpl ts ro).enc,.int 0] Q (fS ps s r []):=by
 have G9:=q1F (d:=d) (by have:=tN hat; rwa [qH]at this:al.length<=3);cases p with
 | u x =>
  refine a8 (rw_:=pD x) (rt:=.tpl ts ro) (qF (qP 3 (16*d+27)) hN) hs (by cases x <;> rfl) rfl hl (K s ?_);exact(fW)▸(yZ.refl R.inv)
 | a ro' k =>
  refine qG fun ng=>?_;refine uL (hs) fun e' ids s1 s2 s3=>?_;refine ng ?_;have q:=jP (p:=.a ro' k) fp dp rfl;have n1:nl [Pt.a ro' k]*PC (d+1)=PC (d+1):=Nat.one_mul _;rw[n1,show yU ps (.t al) (.a ro' k)=jG ps (wK [(k,2)] (al.map (·.2))) al 0 from(t9 rfl).trans (if_pos rfl)]at K;rw[n1]at R;refine cm (k:=16*d+29) hN (d:=kE) rfl rfl fun M hM=>?_;refine t7 (qF (qP 1 _) hM) s1 hl ?_;refine cm (k:=16*d+28) hM (d:=uF) rfl rfl fun M2 h2=>?_;refine gr s1 hl ?_;exact L5 IH (qF (qJ _ 3) h2) h hal (R.le (qT _) G9) hx s1 ⟨ids,s2,s3⟩ (q.kok (.head _)) (q.k _ (.head _)).2.2 (q.dp _ (.head _)) fun s' st=>K s' (st.le G9)
 | t ro' l =>
  refine qG fun ng=>?_;refine wI (hs) fun es s1 s2=>?_;have q:=jP (p:=.t ro' l) fp dp rfl;have n1:nl [Pt.t ro' l]*PC (d+1)=PC (d+1):=Nat.one_mul _;rw[n1]at K;rw[n1]at R;obtain⟨z,rfl,rfl,z3⟩:=b7 s2;obtain⟨y,rfl,rfl,y3⟩:=f8 hx;refine ng ?_;have eg:(z.map (·.1)).map (·.2)=(z.map (·.2)).map (·.2):=by rw[qY,qY]; exact List.map_congr_left fun q hq=>(z3 q hq).1
  have eh:(y.map (·.1)).map (·.2)=(y.map (·.2)).map (·.2):=by rw[qY,qY]; exact List.map_congr_left fun q hq=>(y3 q hq).1
  refine cm (k:=16*d+29) hN (d:=kE) rfl rfl fun M hM=>?_;refine t7 (qF (qP 1 _) hM) s1 hl ?_;refine cm (k:=16*d+28) hM (d:=uF) rfl rfl fun M2 h2=>?_;refine gr s1 hl ?_;refine TA (qF (qP 2 (16*d+26)) h2) (eg▸cT fp.2) (eh▸XX hat) (eg▸q15 fp.2) ?_;rw[eg,eh];cases ap:apart ((z.map (·.2)).map (·.2)) ((y.map (·.2)).map (·.2))with
  | true =>
   rw[show yU ps (.t (y.map (·.2))) (.t ro' (z.map (·.2)))=[]from(t9 rfl).trans (if_neg (by rw[ap]; exact Bool.false_ne_true))]at K;exact K s (yZ.refl R.inv)
  | false =>
   rw[show yU ps (.t (y.map (·.2))) (.t ro' (z.map (·.2)))=jG ps (wK (z.map (·.2)) ((y.map (·.2)).map (·.2))) (y.map (·.2)) 0 from(t9 rfl).trans (if_pos (by rw[ap]; rfl))]at K;rw[qH]at G9;refine cm (k:=16*d+27) h2 (d:=vJ) rfl rfl fun M3 h3=>?_;refine gr s1 hl ?_;exact PB IH (zK h3) h (fun q hq=>hal q.2 (z5 hq)) (R.le (qT _) G9) q fp.2 hat z3 y3 fun s' st=>K s' (st.le G9)
end
section
variable{ps as:List Int}{s s' s2:Fs}{q8:List yD}{n d m i f b c k:Nat}{E:List Ev}{t e g ro s0:Int}{α:yK}{κ:Kd}{r:xF}{N M:Nat}{Q:Kv}{L:List V}{z:List (Int×Pt)}{p:Pt}{it:Int}{rt:yD}
def SU(h:Y4 rt=true):∃l,rt.enc=.int rt.kind::l/\decide (rt.kind=6)=false/\decide (rt.kind=7)=false/\decide (rt.kind=16)=false:=by
 cases rt with
 | arr _ _=>exact⟨_,rfl,rfl,rfl,rfl⟩
 | tpl _ _=>exact⟨_,rfl,rfl,rfl,rfl⟩
 | _=>exact wQ h
def pG(h:∀x,α≠.i x):walk ps α κ=κ.flatMap (yU ps α):=by rw[bW,p9 (fun z=>z.elim fun x w=>h x w.1),List.nil_append]
def DS:(z.map fun q=>nl [q.2]*c).sum=nl (z.map (·.2))*c:=by
 induction z with
 | nil=>exact(Nat.zero_mul _).symm
 | cons q z ih =>
  rw[List.map_cons,List.sum_cons,ih,<-Nat.add_mul,<-vY];rfl
def ZY(hN:k+4<=N)(ht:y9 s.q8 t=some rt)(hat:Y4 rt=true)(hh:∀x,α≠.i x)(R:f5 ps d (nl κ*c) s)(hs:wO s.q8 s0 κ)(hk:xB κ)(hl:s.q8.length<=lim)
  (one:∀M s1 i p(Q:Kv),k+3<=M->s.q8 <+: s1.q8->xS s1.q8 i p->p∈κ->f5 ps d (nl [p]*c) s1->(∀s',yZ ps s1 (nl [p]*c) (yU ps α p) s'->Q .none (fS ps s' r []))->y4 D M "seek_one" [] [.ref true 4,.int i,.int t,.tup rt.enc,.int 0] Q (fS ps s1 r []))
  (K:∀s',yZ ps s (nl κ*c) (walk ps α κ) s'->Q .none (fS ps s' r [])):y4 D N "seek_forced" [] [.ref true 4,.int s0,.int t,.int 0] Q (fS ps s r []):=by
 refine cm (k:=k+3) hN (d:=uQ) rfl rfl fun M hM=>?_;have m3:3<=M:=qF (qP 3 k) hM;have h2:=xX R.inv.base;have no:∀Q:Kv,Q .none (fS ps s r [])->y4 D M "seek_one" [] [.ref true 4,.int 2,.int t,.tup rt.enc,.int 0] Q (fS ps s r []):=fun Q K=>a8 m3 h2 rfl hat hl K;refine qG fun ng=>?_;refine XN (SU hat) fun l el k6 k7 k16=>?_;refine ng ?_;rw[pG hh]at K;refine gr ht hl ?_;rw[el]at one no ⊢;refine bf k6 ?_;refine bf k7 ?_;refine bf k16 ?_;refine wI (hs) fun ids s1 s2=>?_;have e:=jQ s1;revert hk R K one s1 s2;refine D6 e ?_ ?_ ?_
 ·intro R hk K one s1 s2;cases (s2:s0=2);refine fO (lv m3) h2 hl ?_;exact no _ (K s (yZ.refl R.inv))
 ·intro i p R hk K one s1 s2;cases (s2:s0=i);refine(b9 s1.1).elim fun r0 w=>?_;refine fO (lv m3) w.1 hl ?_;refine bf (decide_eq_false w.2.2.1) ?_;exact one M s s0 p _ hM (List.prefix_refl _) s1.1 (.head _) R fun s' st=>K s' (st.eq fun e=>by rw[List.flatMap_singleton])
 ·intro i j rr p p' κ R hk K one s1 s2;refine wI (s2) fun u hu z0=>?_;refine fO (lv m3) hu hl ?_;refine nU (lv m3) h2 hl s1 s2 fun is pm z0=>?_;obtain⟨z,rfl,z2,z3⟩:=cB s1 pm;refine nX (d:=d) (fun q:Int×Pt=>.int q.1) (fun q=>yU ps α q.2) (fun q=>nl [q.2]*c) z (qY ..) ((DS)▸((nS z2)▸R)) (fun f q s1 K' hq pr R1 k1=>?_) fun f s' st=>?_
  ·exact one M s1 q.1 q.2 _ hM pr ((z3 q hq).mono pr) (z2.mem_iff.mp (z5 hq)) R1 k1
  ·rw[DS,nS z2]at st;refine K s' (st.eq fun e=>?_);rw[List.mem_flatMap,List.mem_flatMap];exact⟨fun z=>wI z fun q hq he=>⟨q.2,z2.mem_iff.mp (z5 hq),he⟩,fun z=>wI z fun p hp he=>(zC.mp (z2.mem_iff.mpr hp)).elim fun q w=>⟨q,w.1,w.2▸he⟩⟩
end
section
variable{ps:List Int}{s s' s2:Fs}{q8:List yD}{n d d' m k:Nat}{E:List Ev}{t s0:Int}{α:yK}{κ:Kd}{r:xF}{N M:Nat}{Q:Kv}{al:List (yK×Int)}
def JX(h:d<=d'):SC α d m<=SC α d' m:=qR (zR _ (JW h)) _
def CX{q:yK×Int}(h:q∈al):tH q.1<=NI al:=by
 induction h with
 | head=>exact qJ ..
 | tail _ _ ih=>exact qF ih (qP ..)
def BX{a b c a' b' c':Int}(h:bZ a b c=bZ a' b' c'):a=a'/\b=b'/\c=c':=by
 cases h; exact⟨rfl,rfl,rfl⟩
def eQ(h:PS ps)(hz:tH α<64)(hx:wJ s.q8 t α)(hs:wO s.q8 s0 κ)(hk:xB κ)(hn:nl κ<=6)(R:f5 ps d (SC α d (nl κ)) s)(hN:20<=N)(hc:xD ps α=false\/∃x,α=.i x)(K:∀s',yZ ps s (SC α d (nl κ)) (walk ps α κ) s'->Q .none (fS ps s' r [])):y4 D N "seek" [] [.ref true 4,.int s0,.int t,.int 0] Q (fS ps s r []):=by
 have rs:s.sz+(nl κ*PC d+K0 α)<=lim:=R.sz;refine qG fun ng=>?_;cases hm:xD ps α with
 | false =>
  refine ng ?_;have k6:6<=K0 α:=by cases α <;> first | exact qT _ | exact qJ 6 74
  refine U0 (lv hN) R.inv (by exact yX [_,_,_] (LF.c 1 (.a (.v 0) (.a (.v 1) (.v 2))) (.k 16000000) (LF.c 1 (.k 6) (.v 2) .n)) 0 (.a (.v 0) (.k 1)) (.k 16000000) rfl rs k6) hx hz hm fun hv st=>K _ ((st.le (show 1<=nl κ*PC d+K0 α by exact yX [_,_] (LF.c 1 (.k 6) (.v 1) .n) 0 (.k 1) (.a (.v 0) (.v 1)) rfl k6)).eq fun e=>?_);rw[tL ps α _ hm]
 | true =>
  refine ng ?_;obtain⟨x,rfl⟩:=hc.resolve_left fun z=>j0 (hm.symm.trans z);have hp:x∈ps:=qX.mp hm;refine aI (lv hN) h R.inv R.lw (by exact yX [_,_] (LF.c 1 (.a (.v 0) (.a (.v 1) (.k 80))) (.k 16000000) .n) 0 (.a (.v 0) (.k 66)) (.k 16000000) rfl ((rs:s.sz+(nl κ*PC d+80)<=lim))) hx hp hs hk (qF hn (by decide)) fun s' st=>K s' ((st.le (show 67<=nl κ*PC d+80 by exact yX [_] LF.n 0 (.k 67) (.a (.v 0) (.k 80)) rfl)).eq fun e=>?_);rw[show walk ps (.i x) κ=[(true,x,kU κ)]from if_pos hp]
def C8(h:PS ps)(IH:wV ps r d):wV ps r (d+1):=by
 intro α t s0 κ s N Q hd fa hz hx hs hk hn R hN K
 by_cases hc:xD ps α=false\/∃x,α=.i x
 ·exact eQ h hz hx hs hk hn R (qF (qP 20 _) hN) hc K
 by_cases hd':u9 α<=d
 ·exact IH α t s0 κ s N Q hd' fa hz hx hs hk hn (R.le (Nat.le_succ d) (JX (Nat.le_succ d))) (qF (qR (zR 16 (Nat.le_succ d)) 20) hN) fun s' st=>K s' (st.le (JX (Nat.le_succ d)))
 have hm:xD ps α=true:=by
  cases e:xD ps α with
  | true=>rfl
  | false=>exact absurd (.inl e) hc
 have hno:∀x,α≠.i x:=fun x e=>hc (.inr ⟨x,e⟩);have hao:=nL hx hm;have rs:s.sz+(nl κ*PC (d+1)+K0 α)<=lim:=R.sz;have K:∀s',yZ ps s (nl κ*PC (d+1)+K0 α) (walk ps α κ) s'->Q .none (fS ps s' r []):=K;rw[(LN hno)]at rs K;have rlv:=R.lv;refine eP (k:=16*d+30) (n:=nl κ*PC (d+1)) (E:=walk ps α κ) (w:=0) (qF (qK (by exact Nat.le_antisymm (yX [_] LF.n 0 (.a (.a (.m 16 (.v 0)) (.k 30)) (.k 6)) (.a (.m 16 (.a (.v 0) (.k 1))) (.k 20)) rfl) (yX [_] LF.n 0 (.a (.m 16 (.a (.v 0) (.k 1))) (.k 20)) (.a (.a (.m 16 (.v 0)) (.k 30)) (.k 6)) rfl))) hN) (by rw[R.lw]; rfl) R.inv (by exact yX [_,_] (LF.c 1 (.a (.v 0) (.a (.v 1) (.k 6))) (.k 16000000) .n) 0 (.a (.a (.v 0) (.v 1)) (.k 4)) (.k 16000000) rfl rs) hx hz hm (WX hno) (by omega) (fun z=>wI z fun e he e1=>?_) (fun M hM hv Q K' st=>?_) (fun s2 pr ev=>⟨s0,t,0,rfl,fun z0=>⟨κ,α,hs.mono pr,hk,yL.mono pr hao,fun z0 e he=>(ev e).mpr (.inr he)⟩⟩) fun s' st=>K s' (st.le (by exact yX [_] LF.n 0 (.a (.v 0) (.k 4)) (.a (.v 0) (.k 6)) rfl))
 ·refine qG fun ng=>?_;refine uM (R.sk e he) fun s1 t1 w1 e2 q=>?_;obtain⟨rfl,rfl,rfl⟩:=BX (e1.symm.trans e2);obtain⟨κ',α',a1,a2,a3,a4⟩:=q rfl;refine ng ?_;cases pL hao a3;cases mA (xX R.inv.base) hk.fit a2.fit hk.can a2.can hs a1;exact a4 hd
 ·have R1:f5 ps d (nl κ*PC (d+1)) ((s.hold hv).see (bZ s0 t 0) 0 (s.lv+1)):=by
   refine⟨QB st.inv,R.lw,by show s.lv+1+d<24; omega,fun e he=>?_,by exact yX [_,_,_,_] (LF.c 1 (.a (.v 0) (.a (.v 1) (.k 6))) (.k 16000000) (LF.c 1 (.v 2) (.a (.v 3) (.k 1)) (LF.c 1 (.v 3) (.a (.v 0) (.k 1)) .n))) 0 (.a (.v 2) (.v 1)) (.k 16000000) rfl rs (QC (s:=s.hold hv) (key:=bZ s0 t 0) (c:=0) (l:=s.lv+1)) st.sz⟩;refine(tC he).elim (fun he=>?_) fun z=>?_
   ·exact(R.sk e he).mono (List.prefix_refl _) (fun e he=>he) fun α h=>Nat.le_succ_of_le h
   ·exact⟨s0,t,0,congrArg Prod.fst z,fun z0=>⟨κ,α,hs,hk,hao,fun hd2=>absurd hd2 hd'⟩⟩
  refine qG fun ng=>?_;cases α with
  | n=>exact ng (wQ hm)
  | i x=>exact ng (absurd rfl (hno x))
  | a β =>
   refine ng ?_;obtain⟨e',ro',q1,q2⟩:=hao;refine ZY (k:=16*d+30) (rt:=.arr e' ro') (c:=PC (d+1)) hM q1 rfl hno R1 hs hk (bD.rl R.sz:s.q8.length<=lim) (fun M2 s1 i p Q h2 pr sp hp R3 k1=>?_) K';exact RJ IH (qF (by exact yX [_] LF.n 0 (.a (.m 16 (.v 0)) (.k 24)) (.a (.a (.m 16 (.v 0)) (.k 30)) (.k 3)) rfl) h2) (zJ hd) fa (Nat.lt_of_succ_lt hz) (.inl (yL.mono pr q2)) sp (hk.pt p hp).1 (hk.pt p hp).2 R3 (bD.rl R3.sz) k1
  | t al =>
   refine ng ?_;obtain⟨es,ro',q1,q2⟩:=hao;refine ZY (k:=16*d+30) (rt:=.tpl es ro') (c:=PC (d+1)) hM q1 rfl hno R1 hs hk (bD.rl R.sz:s.q8.length<=lim) (fun M2 s1 i p Q h2 pr sp hp R3 k1=>?_) K';exact RK IH (qF (by exact yX [_] LF.n 0 (.a (.m 16 (.v 0)) (.k 30)) (.a (.a (.m 16 (.v 0)) (.k 30)) (.k 3)) rfl) h2) h (fun q hq=>⟨qF (uX hq) (zJ hd),uZ fa.1 hq,qI (CX hq) (Nat.lt_of_succ_lt hz)⟩) fa.2 (uU.mono pr q2) sp (hk.pt p hp).1 (hk.pt p hp).2 R3 (bD.rl R3.sz) k1
theorem X1(h:PS ps):∀d,wV ps r d
 | 0=>fun α t s0 κ s N Q hd fa hz hx hs hk hn R hN K=>eQ h hz hx hs hk hn R hN (by
   cases α with
   | n=>exact .inl rfl
   | i x=>exact .inr ⟨x,rfl⟩
   | a β=>exact absurd hd (Nat.not_succ_le_zero _)
   | t al=>exact absurd hd (Nat.not_succ_le_zero _)) K
 | d+1=>C8 h (X1 h d)
end
noncomputable def kY(f:Pt->Nat)(k:Kd):Nat:=(k.map f).sum
noncomputable def eE(f:Pt->Nat):vB->Nat
 | []=>0
 | q::l=>max (kY f q.1) (eE f l)
noncomputable def cP:Nat->Pt->Nat
 | 0,p=>bif Y5 p then 1 else 0
 | t+1,p=>match yO p with
  | none=>0
  | some l=>max 1 (2*eE (cP t) l+max (eE (cP t) l) (cP t p))
noncomputable def gB(M P:Nat)(g:Int):Nat:=if g=3 then max M P else if g=2 then 2*M else M
section
variable{f:Pt->Nat}{k a b:Kd}{p p':Pt}{l l' ps:List Pt}{t M P:Nat}{q:List Pt×Int}{L L':vB}{as:List Int}{g:Int}{i n:Nat}
def bA:kY f (a++b)=kY f a+kY f b:=by unfold kY; rw[qU,List.sum_append]
def NC(nd:l.Nodup):∀{ps:List Pt},(∀p∈l,p∈ps)->kY f l<=kY f ps:=by
 induction l with
 | nil=>exact fun z0=>zA _
 | cons x r ih =>
  intro ps h;refine(List.nodup_cons.mp nd).elim fun h1 h2=>?_;obtain⟨a,b,rfl⟩:=List.append_of_mem (h x (.head _))
  have:=ih h2 (ps:=a++b) fun p hp=>(zH.mp (h p (.tail _ hp))).elim (List.mem_append_left _) fun z=>(qV.mp z).elim (fun e=>absurd (e▸hp) h1) (zM _)
  rw[bA]at this;exact Eq.mpr (congrArg _ (bA)) (qF (qL this (f x)) (qK (Nat.add_left_comm ..)))
def XB{c:Pt->Bool}:kY f (k.filter c)<=kY f k:=by
 induction k with
 | nil=>exact qT _
 | cons p r ih =>
  rw[List.filter_cons];cases c p with
  | true=>exact qL ih (f p)
  | false=>exact qF ih (qP ..)
def q29(x:Un):cP t (.u x)=0:=by cases t <;> rfl
def SK(h:Y5 p=true):1<=cP t p:=by
 cases t with
 | zero=>show 1<=bif Y5 p then 1 else 0; rw[h]; exact qT _
 | succ t=>cases p with
  | u x=>exact wQ h
  | a ro k=>exact zP _ _
  | t ro l=>exact zP _ _
def QL:nl k<=kY (cP t) k:=by
 induction k with
 | nil=>exact zA _
 | cons p r ih =>
  unfold nl at ih ⊢;rw[List.filter_cons];cases h:Y5 p with
  | true=>exact qF (z7 ih) (qF (qL (SK (t:=t) h) _) (qK (Nat.add_comm ..)))
  | false=>exact qF ih (qP ..)
def hV(h:yY ps=true):kY f (yF ps)<=kY f ps:=NC (jO h).nodup fun p hp=>((xE h p).mp hp).1
def i4(h:xB q.1):kY (cP t) (yR q)<=kY (cP t) q.1:=by
 obtain⟨k,g⟩:=q
 by_cases e:g=1
 ·rw[B7 e];refine qF (hV (h.pt.app aB).tags) ?_;rw[bA];exact qK (congrArg (kY (cP t) k+·) ((Nat.add_zero _).trans (q29 _)))
 ·rw[B6 e];exact qT _
def bP(h:q∈L):kY f q.1<=eE f L:=by
 induction h with
 | head=>exact zP ..
 | tail _ _ ih=>exact qF ih (zQ ..)
def a7(h:∀q∈L,kY f q.1<=n):eE f L<=n:=by
 induction L with
 | nil=>exact zA _
 | cons x r ih=>exact Nat.max_le.mpr ⟨h x (.head _),ih fun q hq=>h q (.tail _ hq)⟩
def MX(h:yO p=some L):cP (t+1) p=max 1 (2*eE (cP t) L+max (eE (cP t) L) (cP t p)):=by
 show(match yO p with
  | none=>0
  | some l=>max 1 (2*eE (cP t) l+max (eE (cP t) l) (cP t p)))=_
 rw[h]
def RQ(h:yO p=some L):Y5 p=true:=by
 cases p with
 | u x=>exact wF h
 | a _ _=>rfl
 | t _ _=>rfl
theorem F3(h:yO p=some L)(h':yO p'=some L')(s:∀q∈L',∃q2∈L,q.1=q2.1):∀t,cP t p'<=cP t p
 | 0=>by
  show(bif Y5 p' then 1 else 0)<=bif Y5 p then 1 else 0;exact(RQ h)▸(RQ h')▸(qT _)
 | t+1=>by
  rw[MX h,MX h'];exact Nat.max_le.mpr ⟨zP ..,qF (Nat.add_le_add (zR 2 ((a7 fun q hq=>(s q hq).elim fun q2 z=>z.2▸bP z.1:eE (cP t) L'<=eE (cP t) L))) (Nat.max_le.mpr ⟨qF ((a7 fun q hq=>(s q hq).elim fun q2 z=>z.2▸bP z.1:eE (cP t) L'<=eE (cP t) L)) (zP ..),qF (F3 h h' s t) (zQ ..)⟩)) (zQ ..)⟩
def B8(h:bE L):kY (cP t) (yF (L.flatMap yR))<=L.length*eE (cP t) L:=by
 refine qF (hV (oC h).tags) ?_
 suffices H:∀m:vB,(∀q∈m,q∈L)->kY (cP t) (m.flatMap yR)<=m.length*eE (cP t) L from H L fun z0 h=>h
 intro m
 induction m with
 | nil=>exact fun z0=>zA _
 | cons q r ih =>
  intro hm;rw[List.flatMap_cons,bA,List.length_cons,Nat.succ_mul,Nat.add_comm];exact Nat.add_le_add (ih fun x hx=>hm x (.tail _ hx)) (qF (i4 (h.kok (hm q (.head _)))) (bP (hm q (.head _))))
def A4:M<=gB M P g:=by
 unfold gB
 by_cases e:g=3
 ·rw[if_pos e]; exact zP ..
 ·rw[if_neg e]
  by_cases e:g=2
  ·rw[if_pos e]; exact Nat.le_mul_of_pos_left M (by decide)
  ·rw[if_neg e]; exact qT _
def q7H:P<=gB M P 3:=zQ ..
end
noncomputable def v3(g:Int):Nat:=if g=3 then 1 else 0
noncomputable def w3(g:Int):Nat:=if g=2 then 2 else 1
noncomputable def eH(E:List Ev):Nat:=(E.map fun e=>nl e.2.2).sum
section
variable{ps:List Int}{k:Kd}{p:Pt}{t M P n i:Nat}{L:vB}{as:List Int}{g:Kd}{c f h:Nat->Nat}{E E':List Ev}{α:yK}{al:List (yK×Int)}
def q0Y:∀as∈AT,(as.map fun g=>if g=2 then 2 else 1).sum<=3/\(as.map fun g=>if g=3 then 1 else 0).sum<=1/\(2∈as->as.length=2):=by unfold AT; decide
def EG:(as.map (gB M P)).sum+(as.map v3).sum*M=(as.map w3).sum*M+(as.map v3).sum*max M P:=by
 induction as with
 | nil =>
  show 0+0*M=0*M+0*max M P;rw[Nat.zero_mul,Nat.zero_mul]
 | cons g as ih =>
  rw[List.map_cons,List.map_cons,List.map_cons,List.sum_cons,List.sum_cons,List.sum_cons,Nat.add_mul,Nat.add_mul,Nat.add_mul];have e:gB M P g+v3 g*M=w3 g*M+v3 g*max M P:=by
   unfold gB v3 w3
   by_cases e:g=3
   ·rw[if_pos e,if_pos e,if_neg (by rw[e]; decide)]; exact Nat.le_antisymm (yX [_,_] LF.n 0 (.a (.v 0) (.m 1 (.v 1))) (.a (.m 1 (.v 1)) (.m 1 (.v 0))) rfl) (yX [_,_] LF.n 0 (.a (.m 1 (.v 1)) (.m 1 (.v 0))) (.a (.v 0) (.m 1 (.v 1))) rfl)
   ·rw[if_neg e,if_neg e]
    by_cases e:g=2
    ·rw[if_pos e,if_pos e]; exact Nat.le_antisymm (yX [_,_] LF.n 0 (.a (.m 2 (.v 0)) (.m 0 (.v 0))) (.a (.m 2 (.v 0)) (.m 0 (.v 1))) rfl) (yX [_,_] LF.n 0 (.a (.m 2 (.v 0)) (.m 0 (.v 1))) (.a (.m 2 (.v 0)) (.m 0 (.v 0))) rfl)
    ·rw[if_neg e,if_neg e]; exact Nat.le_antisymm (yX [_,_] LF.n 0 (.a (.v 0) (.m 0 (.v 0))) (.a (.m 1 (.v 0)) (.m 0 (.v 1))) rfl) (yX [_,_] LF.n 0 (.a (.m 1 (.v 0)) (.m 0 (.v 1))) (.a (.v 0) (.m 0 (.v 0))) rfl)
  exact Nat.le_antisymm (yX [_,_,_,_,_,_,_,_] (LF.c 1 (.a (.v 0) (.v 1)) (.a (.v 2) (.v 3)) (LF.c 1 (.a (.v 4) (.v 5)) (.a (.v 6) (.v 7)) .n)) 0 (.a (.a (.v 4) (.v 0)) (.a (.v 5) (.v 1))) (.a (.a (.v 6) (.v 2)) (.a (.v 7) (.v 3))) rfl (qK ih) (qK e)) (yX [_,_,_,_,_,_,_,_] (LF.c 1 (.a (.v 2) (.v 3)) (.a (.v 0) (.v 1)) (LF.c 1 (.a (.v 6) (.v 7)) (.a (.v 4) (.v 5)) .n)) 0 (.a (.a (.v 6) (.v 2)) (.a (.v 7) (.v 3))) (.a (.a (.v 4) (.v 0)) (.a (.v 5) (.v 1))) rfl (qK ih.symm) (qK e.symm))
def EF(ha:as∈AT):(as.map (gB M P)).sum<=2*M+max M P:=by
 have e:=EG (as:=as) (M:=M) (P:=P);refine qG fun ng=>?_;refine XQ (q0Y as ha) fun h1 h2 z0=>?_;refine ng ?_;have h2:(as.map v3).sum<=1:=h2;rcases Nat.le_one_iff_eq_zero_or_eq_one.mp h2 with z | z
 ·rw[z]at e; exact yX [_,_,_,_] (LF.c 1 (.a (.v 0) (.m 0 (.v 1))) (.a (.v 2) (.m 0 (.v 3))) (LF.c 1 (.v 2) (.m 3 (.v 1)) (LF.c 1 (.v 1) (.v 3) .n))) 0 (.v 0) (.a (.m 2 (.v 1)) (.v 3)) rfl (qK e) (z4 M ((h1:(as.map w3).sum<=3))) (zP ..:M<=max M P)
 ·rw[z]at e; exact yX [_,_,_,_] (LF.c 1 (.a (.v 0) (.m 1 (.v 1))) (.a (.v 2) (.m 1 (.v 3))) (LF.c 1 (.v 2) (.m 3 (.v 1)) .n)) 0 (.v 0) (.a (.m 2 (.v 1)) (.v 3)) rfl (qK e) (z4 M ((h1:(as.map w3).sum<=3)))
theorem YW{B:Int->Nat}:∀{as:List Int},((List.range as.length).map fun i=>B (as.getD i 0)).sum=(as.map B).sum
 | []=>rfl
 | g::as=>by
  rw[List.length_cons,List.range_succ_eq_map,List.map_cons,List.map_cons,List.sum_cons,List.sum_cons,qY];exact congrArg (B g+·) (YW (as:=as))
def JK{α:Type}{l:List α}{f g:α->Nat}(h:∀x∈l,f x<=g x):(l.map f).sum<=(l.map g).sum:=by
 induction l with
 | nil=>exact qT _
 | cons x r ih=>exact Nat.add_le_add (h x (.head _)) (ih fun y hy=>h y (.tail _ hy))
theorem EJ(h:bE L)(hp:yO p=some L)(ha:as∈AT)(hi:i<as.length)(e:wK L as i=some g):kY (cP t) g<=gB (eE (cP t) L) (cP t p) (as.getD i 0):=by
 have hc:bE (left L as):=h.cut ((qF (Nat.min_le_left ..) (qF (j6 _) (c0 h.tag)):gL (L.map (·.2)) as<=3)) (qF (Nat.sub_le ..) h.len);have sub:∀q∈left L as,q∈L:=fun q hq=>uD hq;have one:∀{j:Nat},(L[j]?).map yR=some g->kY (cP t) g<=gB (eE (cP t) L) (cP t p) (as.getD i 0):=fun e=>by
  obtain⟨q,hq,rfl⟩:=zN.mp e;have m:=List.mem_of_getElem? hq;exact qF (i4 (h.kok m)) (qF (bP m) A4)
 have sg:∀{p':Pt}{L':vB},yO p'=some L'->(∀q∈L',∃q2∈L,q.1=q2.1)->kY (cP t) [p']<=cP t p:=fun h' s=>qF (qK (Nat.add_zero _)) (F3 hp h' s t);unfold wK t6 at e
 split at e
 ·exact one e
 ·split at e
  ·exact one e
  ·split at e
   ·rename_i k hs
    split at e
    ·rename_i g3
     rw[g3];exact qN e▸qF (sg (p':=.a false k) (L':=[(k,2)]) rfl fun q hq=>⟨_,((sub _ (jF hs▸.head _):(k,(2:Int))∈L)),qO.mp hq▸rfl⟩) q7H
    ·exact qN e▸qF (bP ((sub _ (jF hs▸.head _):(k,(2:Int))∈L))) A4
   ·rename_i hs
    split at e
    ·rename_i c
     rw[c.2];exact qN e▸qF (sg (p':=.t false (left L as)) (L':=left L as) rfl fun q hq=>⟨q,sub q hq,rfl⟩) q7H
    ·split at e
     ·rename_i c
      have m2:as.length=2:=(q0Y as ha).2.2 (c.2.1▸(by rw[List.getD_eq_getElem?_getD,zS hi]; exact List.getElem_mem hi));rw[c.2.1];cases qN e;refine qF (B8 hc) (show _<=2*eE (cP t) L from Nat.mul_le_mul ?_ (a7 fun q hq=>bP (sub q hq)));have l3:=h.len;have bl:=iV (q:=L.map (·.2)) (as:=as);rw[qH]at bl;unfold left cut;rw[List.length_drop,List.length_take,Nat.min_eq_left (Nat.sub_le ..)];have c1:=c.1;omega
     ·exact wF e
end
section
variable{ps:List Int}{k:Kd}{p:Pt}{t n i c:Nat}{L:vB}{x:Int}{w:Bool}{E E':List Ev}{α:yK}{al:List (yK×Int)}{f:Pt->List Ev}
def RC:eH (E++E')=eH E+eH E':=by unfold eH; rw[qU,List.sum_append]
def YM{γ:Type}{l:List γ}{f:γ->List Ev}:eH (l.flatMap f)=(l.map fun x=>eH (f x)).sum:=by
 induction l with
 | nil=>rfl
 | cons x r ih=>rw[List.flatMap_cons,RC,ih]; rfl
def D9{γ:Type}{l:List γ}{f:γ->List Ev}:(l.flatMap f).length=(l.map fun x=>(f x).length).sum:=by
 induction l with
 | nil=>rfl
 | cons x r ih=>rw[List.flatMap_cons,qM,ih]; rfl
def RD(h:xB k):eH [(w,x,kU k)]<=kY (cP t) k:=qF (qK (Nat.add_zero _)) (qF (cC h).2 QL)
def M0(t:Nat)(c:Nat)(k:Kd)(E:List Ev):Prop:=eH E<=kY (cP t) k/\E.length<=c
def M0.nil:M0 t c k []:=⟨zA _,zA _⟩
def A6(h:xB k):M0 t (18 ^ n) k (M6 w ps α k):=by
 cases α with
 | i x =>
  show M0 t _ k (if x∈ps then[(w,x,kU k)]else[])
  by_cases m:x∈ps
  ·rw[if_pos m]; exact⟨RD h,Nat.pow_pos (by decide)⟩
  ·rw[if_neg m]; exact .nil
 | _=>exact .nil
def VR(hn:nl k<=6)(h:∀p∈k,eH (f p)<=cP t p/\(f p).length<=nl [p]*c):M0 t (6*c) k (k.flatMap f):=by
 refine⟨by rw[YM]; exact JK fun p hp=>(h p hp).1,qF ?_ (z4 c hn)⟩;clear hn
 induction k with
 | nil=>exact zA _
 | cons p r ih =>
  rw[List.flatMap_cons,qM,show nl (p::r)=nl [p]+nl r from vY (a:=[p]),Nat.add_mul];exact Nat.add_le_add (h p (.head _)).2 (ih fun q hq=>h q (.tail _ hq))
def FJ{g:Kd}{tag:Int}(hg:xB g)(gn:nl g<=6)(IH:∀k,xB k->nl k<=6->M0 t (18 ^ t) k (walk ps α k)):M0 t (18 ^ t) g (x8 ps α tag g):=by
 unfold x8
 by_cases e:tag≠1
 ·rw[if_pos e]; exact IH g hg gn
 ·rw[if_neg e]
  by_cases e:yE g=[]
  ·rw[if_pos e]; exact A6 hg
  ·exact Eq.mpr (congrArg _ (if_neg e)) (⟨qF (IH (yE g) (yH hg).1 (qF (yH hg).2 gn)).1 XB,(IH (yE g) (yH hg).1 (qF (yH hg).2 gn)).2⟩)
def P3(fp:kO p)(dp:c6 p<=4)(fa:j4 α)(hd:u9 α<=t+1)(IH:∀β,u9 β<=t->j4 β->∀k,xB k->nl k<=6->M0 t (18 ^ t) k (walk ps β k)):eH (yU ps α p)<=cP (t+1) p/\(yU ps α p).length<=nl [p]*(3*18 ^ t):=by
 cases hq:yO p with
 | none =>
  have e:yU ps α p=[]:=by
   cases p with
   | u x=>exact fW
   | a _ _=>exact wF hq.symm
   | t _ _=>exact wF hq.symm
  rw[e];exact⟨zA _,zA _⟩
 | some L =>
  have h:=jP fp dp hq;rw[((by unfold nl; rw[List.filter_cons,(RQ hq)]; rfl:nl [p]=1)),Nat.one_mul,MX hq];have g:=jV h;cases α with
  | n=>exact⟨zA _,zA _⟩
  | i x=>exact⟨zA _,zA _⟩
  | a β =>
   rw[nT hq];refine⟨qF (IH β (zJ hd) fa _ g.1 g.2.2).1 (qF (B8 h) (qF (z4 _ h.len) ?_)),qF (IH β (zJ hd) fa _ g.1 g.2.2).2 (Nat.le_mul_of_pos_left _ (by decide))⟩;refine qF ?_ (zQ ..);rw[Nat.succ_mul];exact qL (zP ..) _
  | t al =>
   rw[t9 hq]
   by_cases c:(lM p||!apart (L.map (·.2)) (al.map (·.2)))=true
   ·rw[if_pos c,uK];have el:∀i,i<al.length->eH (xT ps (wK L (al.map (·.2))) al i)<=gB (eE (cP t) L) (cP t p) ((al.map (·.2)).getD i 0)/\(xT ps (wK L (al.map (·.2))) al i).length<=18 ^ t:=fun i hi=>by
     cases hg:wK L (al.map (·.2)) i with
     | none=>rw[l8 hg]; exact⟨zA _,zA _⟩
     | some g =>
      rw[fH (zS hi) hg];exact⟨qF (FJ (tag:=al[i].2) (tZ h hg).1 (tZ h hg).2 (IH al[i].1 (qF (uX (List.getElem_mem hi)) (zJ hd)) (uZ fa.1 (List.getElem_mem hi)))).1 (EJ h hq fa.2 (by rw[qH]; exact hi) hg),(FJ (tag:=al[i].2) (tZ h hg).1 (tZ h hg).2 (IH al[i].1 (qF (uX (List.getElem_mem hi)) (zJ hd)) (uZ fa.1 (List.getElem_mem hi)))).2⟩
    constructor
    ·rw[YM];refine qF (JK fun i hi=>(el i (List.mem_range.mp hi)).1) ?_;have e:=YW (B:=gB (eE (cP t) L) (cP t p)) (as:=al.map (·.2));rw[qH]at e;exact(e)▸(qF (EF fa.2) (zQ ..))
    ·rw[D9];refine qF (JK (g:=fun z0=>18 ^ t) fun i hi=>(el i (List.mem_range.mp hi)).2) ?_;exact(j7)▸(List.length_range)▸(z4 _ (by have:=tN fa.2; rwa [qH]at this:al.length<=3))
   ·rw[if_neg c];exact⟨zA _,zA _⟩
def q0H(h:xB k):M0 t (18 ^ n) k (walk ps (.i x) k):=A6 (w:=true) (α:=.i x) h
theorem tK:∀(t:Nat)(α:yK),u9 α<=t->j4 α->∀k,xB k->nl k<=6->M0 t (18 ^ t) k (walk ps α k)
 | _,.n,hd,fa,k,hk,hn=>.nil
 | _,.i x,hd,fa,k,hk,hn=>q0H hk
 | 0,.a β,hd,fa,k,hk,hn=>absurd hd (Nat.not_succ_le_zero _)
 | 0,.t al,hd,fa,k,hk,hn=>absurd hd (Nat.not_succ_le_zero _)
 | t+1,.a β,hd,fa,k,hk,hn=>by
  rw[pG fun x e=>yK.noConfusion e,show 18 ^ (t+1)=6*(3*18 ^ t)by rw[Nat.pow_succ]; exact Nat.le_antisymm (yX [_] LF.n 0 (.w (.v 0) 18) (.m 6 (.m 3 (.v 0))) rfl) (yX [_] LF.n 0 (.m 6 (.m 3 (.v 0))) (.w (.v 0) 18) rfl)];exact VR hn fun p hp=>P3 (hk.pt p hp).1 (hk.pt p hp).2 fa hd (tK t)
 | t+1,.t al,hd,fa,k,hk,hn=>by
  rw[pG fun x e=>yK.noConfusion e,show 18 ^ (t+1)=6*(3*18 ^ t)by rw[Nat.pow_succ]; exact Nat.le_antisymm (yX [_] LF.n 0 (.w (.v 0) 18) (.m 6 (.m 3 (.v 0))) rfl) (yX [_] LF.n 0 (.m 6 (.m 3 (.v 0))) (.w (.v 0) 18) rfl)];exact VR hn fun p hp=>P3 (hk.pt p hp).1 (hk.pt p hp).2 fa hd (tK t)
end
noncomputable def fE(ps:List Int)(s:Fs)(es:List (Int×V))(r:xF):St:=tS s.q8 (gX ps s.c s.lv s.lw (fun w=>bif w then es else gW (s.bag false) 13) (fun w p=>V4 (s.bag w) p) s.seen s.holds r) []
noncomputable def fT(s:Fs)(p:Int):Option V:=y8 (gW (s.bag true) 9) p
noncomputable def fL(s:Fs)(p:Int):Option V:=y8 (gW (s.bag false) 13) p
set_option genCtorIdx false in
structure IE (ps:List Int) (s:Fs) (r:List Int) (es:List (Int×V)):Prop where
 dn:∃dn,dn++r=ps
 nd:(es.map (·.1)).Nodup
 ks:∀p∈es.map (·.1),p∈ps
 rest:∀p∈r,y8 es p=fT s p
 done:∀p∈ps,p∉r->y8 es p=(fT s p).or (fL s p)
section
variable{ps r':List Int}{s s' s2:Fs}{n d m:Nat}{E:List Ev}{t s0 p q:Int}{α:yK}{κ:Kd}{r:xF}{N M:Nat}{Q:Kv}{es:List (Int×V)}{v:V}
def PS.nd(h:PS ps):ps.Nodup:=h.elim (fun e=>e▸(by decide)) fun e=>e▸(by decide)
def PS.len(h:PS ps):ps.length<=3:=h.elim (fun e=>e▸(by decide)) fun e=>e▸(by decide)
def aE(h:y8 es p=none):xQ es p v=es++[(p,v)]:=by unfold xQ; rw[h]; rfl
def YF(h:y8 es q=none):y8 (es++[(p,v)]) q=if p=q then some v else none:=by
 induction es with
 | nil=>rfl
 | cons x es ih =>
  have h:(if x.1=q then some x.2 else y8 es q)=none:=h
  by_cases e:x.1=q
  ·rw[if_pos e]at h; exact DW h
  ·rw[if_neg e]at h;exact(if_neg e).trans (ih h)
def WU{x:V}(h:y8 es q=some x):y8 (es++[(p,v)]) q=some x:=by
 induction es with
 | nil=>exact wF h
 | cons y es ih =>
  have h:(if y.1=q then some y.2 else y8 es q)=some x:=h;show(if y.1=q then some y.2 else y8 (es++[(p,v)]) q)=some x
  by_cases e:y.1=q
  ·rw[if_pos e]at h ⊢; exact h
  ·rw[if_neg e]at h ⊢; exact ih h
def lQ(n:q≠p):y8 (es++[(p,v)]) q=y8 es q:=by
 cases h:y8 es q with
 | some x=>exact WU h
 | none=>exact(YF h).trans (if_neg fun e=>n e.symm)
def Y6(h:y8 es p=none):p∉es.map (·.1):=by
 induction es with
 | nil=>exact qW
 | cons x es ih =>
  have h:(if x.1=p then some x.2 else y8 es p)=none:=h
  by_cases e:x.1=p
  ·rw[if_pos e]at h; exact DW h
  ·rw[if_neg e]at h;exact fun m=>(qV.mp m).elim (fun z=>e z.symm) (ih h)
def IE.len(i:IE ps s r' es)(h:PS ps):es.length<=3:=(qH (f:=(·.1)) (as:=es))▸qF (List.Nodup.length_le_of_subset i.nd i.ks) h.len
def IE.keep(i:IE ps s (p::r') es)(h:PS ps)(e:y8 es p=(fT s p).or (fL s p)):IE ps s r' es :=
 ⟨i.dn.elim fun dn z=>⟨dn++[p],by rw[qZ]; exact z⟩,i.nd,i.ks,fun q hq=>i.rest q (.tail _ hq),fun q hq n=>by
  by_cases z:q=p
  ·rw[z]; exact e
  ·exact i.done q hq fun m=>(qV.mp m).elim z n⟩
def IE.put(i:IE ps s (p::r') es)(h:PS ps)(e:y8 es p=none)(el:fL s p=some v):IE ps s r' (es++[(p,v)]):=by
 refine(i.dn).elim fun dn z=>?_;have hp:p∈ps:=z▸zM _ (.head _);have pr:p∉r':=(List.nodup_cons.mp (List.nodup_append.mp (z▸h.nd)).2.1).1;refine⟨⟨dn++[p],by rw[qZ]; exact z⟩,?_,?_,fun q hq=>?_,fun q hq n=>?_⟩
 ·exact(qU)▸(List.nodup_append.mpr ⟨i.nd,List.nodup_cons.mpr ⟨qW,.nil⟩,fun a ha b hb e'=>Y6 e (((e'.trans (qO.mp hb):a=p))▸ha)⟩)
 ·exact(qU)▸(fun q hq=>(zH.mp hq).elim (i.ks q) fun z=>qO.mp z▸hp)
 ·exact(lQ (q:=q) (p:=p) fun z=>pr (z▸hq)).symm▸(i.rest q (.tail _ hq))
 ·by_cases z:q=p
  ·rw[z,YF e,if_pos rfl,<-i.rest p (.head _),e,el]; rfl
  ·exact(lQ z).trans (i.done q hq fun m=>(qV.mp m).elim z n)
end
section
variable{ps r':List Int}{s s' s2:Fs}{n d m a:Nat}{E:List Ev}{t s0 p q:Int}{α:yK}{κ:Kd}{r:xF}{N M:Nat}{Q:Kv}{es:List (Int×V)}{v:V}{bg:mH}{w:Bool}
def MT(h:p∈bg.map (·.1)):∃l,x9 bg p=some l:=by
 induction bg with
 | nil=>exact absurd h qW
 | cons b bg ih =>
  by_cases e:b.1=p
  ·exact⟨b.2,if_pos e⟩
  ·exact((qV.mp h).elim (fun z=>absurd z.symm e) ih).elim fun l z=>⟨l,(if_neg e).trans z⟩
def KW:(gW bg a).map (·.1)=bg.map (·.1):=qY ..
def IE.start(i:bD ps s):IE ps s ps (gW (s.bag true) 9) :=
 ⟨⟨[],rfl⟩,KW▸i.ks true,fun p hp=>(MT (KW▸hp)).elim fun l z=>(i.bg true p l z).1,fun z0 z0=>rfl,fun p hp n=>absurd hp n⟩
def HD(h:PS ps)(hN:16*d+21<=N)(hd:u9 α<=d)(fa:j4 α)(hz:tH α<64)(hx:wJ s.q8 t α)(hs:wO s.q8 s0 κ)(hk:xB κ)(hn:nl κ<=6)(R:f5 ps d (SC α d (nl κ)) s)(K:∀s1 es,yZ ps s (SC α d (nl κ)) (walk ps α κ) s1->IE ps s1 [] es->Q .none (fE ps s1 es r)):y4 D N "infer_with" [] [.ref true 4,.int s0,.int t] Q (fS ps s r []):=by
 refine cm (k:=16*d+20) hN (d:=pU) rfl rfl fun M hM=>?_;refine X1 h d α t s0 κ s M _ hd fa hz hx hs hk hn R hM fun s1 st=>?_;refine lg ["pid"] V.int (fun es=>fE ps s1 es r) (fun r' es=>IE ps s1 r' es) (g0:=gW (s1.bag true) 9) rfl (fun f es i=>?_) (fun p r' f es i W kw=>?_) (IE.start st.inv)
 ·exact K s1 es st i
 ·refine bc (b:=!(y8 es p).isSome) (fun e=>?_) fun e=>?_
  ·have e:y8 es p=none:=Option.isNone_iff_eq_none.mp (by rw[<-Option.not_isSome]; exact e);have F:=(i.rest p (.head _)).symm.trans e;refine bc (b:=(fL s1 p).isSome) (fun e2=>?_) fun e2=>?_
   ·have lf:=bO (bg:=s1.bag false) (a:=13) (p:=p);cases hb:x9 (s1.bag false) p with
    | none =>
     rw[hb]at lf;exact wQ ((congrArg Option.isSome lf).symm.trans e2)
    | some l =>
     rw[hb]at lf;refine sv lf ?_;refine fd (qI (i.len h) (by decide)) ?_
     have:=kw (y5.set (y5.mix (y5.set (y5.set (y5.set xV "finder" (.ref true 4)) "source" (.int s0)) "target" (.int t)) ["pid"] f) "pid" (.int p)) _ (.set .mix rfl) (i.put h e lf)
     rw[<-aE e]at this;exact this
   ·have e2:fL s1 p=none:=by cases z:fL s1 p with
     | none=>rfl
     | some x=>exact j0 ((congrArg Option.isSome z).symm.trans e2)
    exact kw _ es (.set .mix rfl) (i.keep h (by rw[e,F,e2]; rfl))
  ·have e:∃x,y8 es p=some x:=by cases z:y8 es p with
    | none=>exact j0 ((show(!(none:Option V).isSome)=true from rfl).symm.trans (z▸e))
    | some x=>exact⟨x,rfl⟩
   obtain⟨x,e⟩:=e;have F:=(i.rest p (.head _)).symm.trans e;exact kw _ es (.set .mix rfl) (i.keep h (by rw[e,F]; rfl))
end
noncomputable def gG(i:Int):xF:=[none,none,none,none,none,none,none,none,none,none,none,none,none,none,none,none,none,none,none,none,none,none,some (.list [.none]),some (.list [.int (-1),.int (-1),.int (-1)]),some (.list [.int (-1),.int (-1),.int (-1)]),some (.list [.str [65],.str [66],.str [67]]),some (.dI []),some (.dI []),some (.list [.int i])]
noncomputable def gS(q8:List yD)(i:Nat):St:=tS q8 (gG i) []
section
variable{q8:List yD}{qC:List Int}{i N n:Nat}{k x:Int}{Q:Kv}{L:List V}{v:V}{K:V->Prop}
def q6D(e:x=(n:Nat))(h:L[n]?=some v)(hn:n<1000000000)(k:K v):lH L x K:=by subst e; exact ix h hn k
def u4(hN:1<=N)(nn:qC≠[])(nl:qC.length<=63)(hk:0<k)(hi:i<1000000000)(K:∀r,0<=r->r<k->Q (.int r) (gS q8 (i+1))):y4 D N "roll" [.lst (vI qC),.ref true 32] [.int k] Q (gS q8 i):=by
 refine cm hN (d:=wC) rfl rfl fun M hM=>?_;have vl:(vI qC).length=qC.length:=qH ..;have ne:(((vI qC).length:Nat):Int)≠0:=fun z=>absurd (Int.ofNat.inj z) (vl▸Nat.ne_of_gt (List.length_pos_iff.mpr nn:0<qC.length));have hm:i % (vI qC).length<qC.length:=qQ (Nat.mod_lt _ (qQ (List.length_pos_iff.mpr nn:0<qC.length) (qK vl.symm))) (qK vl);refine ft ((vl▸qF nl (by decide):(vI qC).length<=lim)) ?_;refine⟨ne,?_⟩;refine q6D (n:=i % (vI qC).length) (Int.fmod_eq_emod_of_nonneg _ (zD _)) (v:=.int qC[i % (vI qC).length]) (by rw[List.getElem?_map,zS hm]; rfl) (qQ hm (qF nl (by decide))) ?_;refine ft ((vl▸qF nl (by decide):(vI qC).length<=lim)) ?_;refine⟨ne,AR (qI (vl▸nl) (by decide)),?_⟩;refine⟨sm (by decide),by rw[Int.fdiv_eq_ediv_of_nonneg _ (zD _),<-Int.natCast_ediv]; exact AR (qI (Nat.div_le_self ..) hi),?_⟩;refine⟨((fun z=>absurd hk (z▸Int.lt_irrefl 0):k≠0)),?_⟩;exact K _ (Int.fmod_nonneg_of_pos _ hk) (Int.fmod_lt_of_pos _ hk)
end
noncomputable def pF(b:Nat->Nat):Nat->Nat
 | 0=>1
 | t+1=>max 1 (2*b t+max (b t) (pF b t))
noncomputable def bF:Nat->Nat->Nat
 | 0,_=>0
 | s+1,t=>max (pF (bF s) t) (2*bF s t)
set_option genCtorIdx false in
structure GK (s:Nat) (k:Kd):Prop where
 pt:∀p∈k,kO p/\c6 p<=s
 can:wW k
 c:∀t,kY (cP t) k<=bF s t
section
variable{s t:Nat}{k a b:Kd}{p:Pt}{L:vB}{ro:Bool}
def q1Q:bF s t<=bF (s+1) t:=qF (Nat.le_mul_of_pos_left _ (by decide)) (zQ ..)
def GK.up(h:GK s k):GK (s+1) k:=⟨fun p hp=>⟨(h.pt p hp).1,Nat.le_succ_of_le (h.pt p hp).2⟩,h.can,fun t=>qF (h.c t) q1Q⟩
theorem GK.up0(h:GK 0 k):∀s,GK s k
 | 0=>h
 | s+1=>(GK.up0 h s).up
def GK.nil:GK 0 []:=⟨yV,⟨.nil,yV⟩,fun z0=>zA _⟩
def GK.unit(x:Un):GK 0 [.u x]:=⟨fun p hp=>qO.mp hp▸⟨trivial,zA _⟩,mK _,fun t=>qK ((Nat.add_zero _).trans (q29 x))⟩
def q5H:∀s,s<=2->bF s 0<=2:=fun s h=>match s,h with
 | 0,_=>by decide
 | 1,_=>by decide
 | 2,_=>by decide
def q5I:∀s,s<=3->bF s 0<=4:=fun s h=>match s,h with
 | 0,_=>by decide
 | 1,_=>by decide
 | 2,_=>by decide
 | 3,_=>by decide
def SA:∀t,t<=3->bF 3 t<=22:=fun t h=>match t,h with
 | 0,_=>by decide
 | 1,_=>by decide
 | 2,_=>by decide
 | 3,_=>by decide
def GK.nl2(h:GK s k)(hs:s<=2):nl k<=2:=qF QL (qF (h.c 0) (q5H s hs))
def GK.nl4(h:GK s k)(hs:s<=3):nl k<=4:=qF QL (qF (h.c 0) (q5I s hs))
def GK.kok(h:GK s k)(hs:s<=4):xB k:=u8.kok (fun p hp=>⟨(h.pt p hp).1,qF (h.pt p hp).2 hs⟩) h.can
def GK.tags(h:GK s k):yY k=true:=xW fun p hp=>wS (h.pt p hp).1
def GK.join(ha:GK s a)(hb:GK s b):GK (s+1) (yF (a++b)):=by
 have hf:∀p∈a++b,kO p/\c6 p<=s:=fun p hp=>(zH.mp hp).elim (ha.pt p) (hb.pt p);have hm:=fun p hp=>((xE ((xW fun p hp=>wS (hf p hp).1:yY (a++b)=true)) p).mp hp).1;refine⟨fun p hp=>⟨(hf p (hm p hp)).1,Nat.le_succ_of_le (hf p (hm p hp)).2⟩,rP ((xW fun p hp=>wS (hf p hp).1:yY (a++b)=true)),fun t=>qF (hV ((xW fun p hp=>wS (hf p hp).1:yY (a++b)=true))) ?_⟩;rw[bA];exact qF (Nat.add_le_add (ha.c t) (hb.c t)) (qF (qK (Nat.two_mul _).symm) (zQ ..))
theorem ZF(h:yO p=some L)(hl:∀q∈L,∀t,kY (cP t) q.1<=bF s t):∀t,cP t p<=pF (bF s) t
 | 0=>by
  show(bif Y5 p then 1 else 0)<=1;exact(RQ h)▸(qT _)
 | t+1=>by
  rw[MX h];exact Nat.max_le.mpr ⟨zP ..,qF (Nat.add_le_add (zR 2 (a7 (f:=cP t) (L:=L) fun q hq=>hl q hq t)) (Nat.max_le.mpr ⟨qF (a7 (f:=cP t) (L:=L) fun q hq=>hl q hq t) (zP ..),qF (ZF h hl t) (zQ ..)⟩)) (zQ ..)⟩
def GK.list(f:kO p)(h:yO p=some L)(hl:∀q∈L,GK s q.1)(d:c6 p<=s+1):GK (s+1) [p] :=
 ⟨fun q hq=>qO.mp hq▸⟨f,d⟩,mK p,fun t=>qF (qK (Nat.add_zero _)) (qF (ZF h (fun q hq=>(hl q hq).c) t) (zP ..))⟩
def GK.arr(h:GK s k)(hs:s<=2):GK (s+1) [.a ro k] :=
 GK.list (L:=[(k,2)]) ⟨yM.mpr fun p hp=>(h.pt p hp).1,h.can,h.nl2 hs⟩ rfl (fun q hq=>qO.mp hq▸h) (z7 (o4 fun p hp=>(h.pt p hp).2))
def GK.tup(h:∀q∈L,GK s q.1)(hs:s<=2)(ht:L.map (·.2)∈FT):GK (s+1) [.t ro L] :=
 GK.list (L:=L) ⟨kF.mpr fun q hq=>⟨yM.mpr fun p hp=>((h q hq).pt p hp).1,(h q hq).can,(h q hq).nl2 hs⟩,ht⟩ rfl h (z7 (WF fun q hq=>o4 fun p hp=>((h q hq).pt p hp).2))
end
noncomputable def fZ(qC:List Int):V:=.clos "roll" [.lst (vI qC),.ref true 32]
set_option genCtorIdx false in
structure GI (qC:List Int) (q8:List yD) (i c:Nat):Prop where
 tok:uB c q8
 il:i+c<1000000000
 nn:qC≠[]
 nl:qC.length<=63
set_option genCtorIdx false in
structure GX (q8:List yD) (i c:Nat) (q9:List yD) (i':Nat):Prop where
 ext:vQ q8 c q9
 il:i'<=i+c
section
variable{qC:List Int}{q8 q9 qB:List yD}{i i' i2 N a b c:Nat}{Q:Kv}{n:Int}
def GX.trans(h:GX q8 i a q9 i')(h':GX q9 i' b qB i2):GX q8 i (a+b) qB i2:=⟨h.ext.trans h'.ext,qF h'.il (qF (qR h.il b) (qK (Nat.add_assoc ..)))⟩
def GX.le(h:GX q8 i a q9 i')(l:a<=b):GX q8 i b q9 i':=⟨h.ext.le l,qF h.il (qL l _)⟩
def GI.step(h:GI qC q8 i (a+b))(x:GX q8 i a q9 i'):GI qC q9 i' b:=⟨h.tok.ext x.ext,qI (qR x.il b) (qI (qK (Nat.add_assoc ..)) h.il),h.nn,h.nl⟩
def JQ{r:Int}(h0:0<=r)(h2:r<2):∃b,r=aZ b:=by
 obtain⟨m,rfl⟩:=Int.eq_ofNat_of_zero_le h0;have h2:m<2:=zI.mp h2;cases m with
 | zero=>exact⟨false,rfl⟩
 | succ m=>cases m with
  | zero=>exact⟨true,rfl⟩
  | succ m=>exact absurd h2 (Nat.not_lt_of_le (qP 2 m))
@[elab_as_elim] def q4D{P:Int->Prop}{n:Int}(h0:0<=n)(h7:n<7)(a0:P 0)(a1:P 1)(a2:P 2)(a3:P 3)(a4:P 4)(a5:P 5)(a6:P 6):P n:=by
 obtain⟨m,rfl⟩:=Int.eq_ofNat_of_zero_le h0;have h7:m<7:=zI.mp h7;cases m with
 | zero=>exact a0
 | succ m=>cases m with
  | zero=>exact a1
  | succ m=>cases m with
   | zero=>exact a2
   | succ m=>cases m with
    | zero=>exact a3
    | succ m=>cases m with
     | zero=>exact a4
     | succ m=>cases m with
      | zero=>exact a5
      | succ m=>cases m with
       | zero=>exact a6
       | succ m=>exact absurd h7 (Nat.not_lt_of_le (qP 7 m))
def NT(hN:3<=N)(h:GI qC q8 i 3)(K:∀t k q9 i',wO q9 t k->GK 0 k->GX q8 i 3 q9 i'->Q (.tup [.int t,.lst (jL k)]) (gS q9 i')):y4 D N "_law_unit" [] [.ref true 0,fZ qC] Q (gS q8 i):=by
 refine cm hN (d:=l5) rfl rfl fun M hM=>?_;refine u4 (lv hM) h.nn h.nl (by decide) (by exact yX [_] (LF.c 1 (.a (.a (.v 0) (.k 3)) (.k 1)) (.k 1000000000) .n) 0 (.a (.v 0) (.k 1)) (.k 1000000000) rfl h.il) fun n n0 n7=>?_;refine u4 (lv hM) h.nn h.nl (by decide) (by exact yX [_] (LF.c 1 (.a (.a (.v 0) (.k 3)) (.k 1)) (.k 1000000000) .n) 0 (.a (.a (.v 0) (.k 1)) (.k 1)) (.k 1000000000) rfl h.il) fun f f0 f2=>?_;refine(JQ f0 f2).elim fun f z=>z▸?_;have U:∀(x:Un)t q9,y9 q9 t=some (pD x)->vQ q8 1 q9->Q (.tup [.int t,.lst (jL [.u x])]) (gS q9 (i+1+1)):=fun x t q9 hr E=>K t [.u x] q9 _ (gA hr) (.unit x) ⟨E.le (by decide),by exact yX [_] LF.n 0 (.a (.a (.v 0) (.k 1)) (.k 1)) (.a (.v 0) (.k 3)) rfl⟩;refine q4D n0 n7 ?_ ?_ ?_ ?_ ?_ ?_ ?_
 ·refine AJ hM h.tok.nd (h.tok.lt:q8.length<lim) fun t q9 hr E=>?_;cases f with
  | false=>exact QK (b:=false) (U (.num false false) t q9 hr E)
  | true=>exact QK (b:=false) (U (.num false true) t q9 hr E)
 ·refine AJ hM h.tok.nd (h.tok.lt:q8.length<lim) fun t q9 hr E=>?_;cases f with
  | false=>exact QK (b:=true) (U (.num true false) t q9 hr E)
  | true=>exact QK (b:=true) (U (.num true true) t q9 hr E)
 ·refine q4G hM h.tok.nd (h.tok.lt:q8.length<lim) fun t q9 hr E=>?_;cases f with
  | false=>exact U (.str false) t q9 hr E
  | true=>exact U (.str true) t q9 hr E
 ·exact((fun x {k} e=>U x k q8 (kK h.tok.base e) h.tok.refl:∀(x:Un){k:Nat},FIRST16[k]?=some (pD x)->Q (.tup [.int k,.lst (jL [.u x])]) (gS q8 (i+1+1)))) .undef (k:=4) rfl
 ·exact((fun x {k} e=>U x k q8 (kK h.tok.base e) h.tok.refl:∀(x:Un){k:Nat},FIRST16[k]?=some (pD x)->Q (.tup [.int k,.lst (jL [.u x])]) (gS q8 (i+1+1)))) .null (k:=5) rfl
 ·exact((fun x {k} e=>U x k q8 (kK h.tok.base e) h.tok.refl:∀(x:Un){k:Nat},FIRST16[k]?=some (pD x)->Q (.tup [.int k,.lst (jL [.u x])]) (gS q8 (i+1+1)))) .number (k:=7) rfl
 ·exact K 2 [] q8 _ ⟨[],trivial,rfl⟩ .nil ⟨h.tok.refl,by exact yX [_] LF.n 0 (.a (.a (.v 0) (.k 1)) (.k 1)) (.a (.v 0) (.k 3)) rfl⟩
end
noncomputable def kc:Nat->Nat
 | 0=>3
 | s+1=>3*kc s+5
def KP(qC:List Int)(s c:Nat)(f:String)(fuel:Nat):Prop:=∀(N:Nat)(q8:List yD)(i:Nat)(Q:Kv),fuel<=N->GI qC q8 i c->(∀t k q9 i',wO q9 t k->GK s k->GX q8 i c q9 i'->Q (.tup [.int t,.lst (jL k)]) (gS q9 i'))->y4 D N f [] [.ref true 0,fZ qC,.int s] Q (gS q8 i)
section
variable{qC:List Int}{q8 q9 qB:List yD}{i i' i2 N a b c s:Nat}{Q:Kv}{n:Int}
def I2:KP qC 0 (kc 0) "_law_kind" 4:=fun N q8 i Q hN h K=>by
 refine cm hN (d:=dP) rfl rfl fun M hM=>?_;exact NT hM h K
def I3(hs:s<=2)(F:Nat)(f12:11<=F)(IH:KP qC s (kc s) "_law_kind" F) (L:KP qC (s+1) (3*kc s+4) "_law_list" F):KP qC (s+1) (kc (s+1)) "_law_kind" (F+1):=fun N q8 i Q hN h K=>by
 refine cm hN (d:=dP) rfl rfl fun M hM=>?_;have kp:3<=kc s:=by cases s with
  | zero=>exact qT _
  | succ s=>show 3<=3*kc s+5; exact yX [_] LF.n 0 (.k 3) (.a (.m 3 (.v 0)) (.k 5)) rfl
 have h:GI qC q8 i (1+(3*kc s+4)):=⟨h.tok.le (show _<=3*kc s+5 by exact yX [_] LF.n 0 (.a (.k 1) (.a (.m 3 (.v 0)) (.k 4))) (.a (.m 3 (.v 0)) (.k 5)) rfl),by show i+_<_; have:i+(3*kc s+5)<1000000000:=h.il; exact yX [_,_] (LF.c 1 (.a (.a (.v 0) (.a (.m 3 (.v 1)) (.k 5))) (.k 1)) (.k 1000000000) .n) 0 (.a (.a (.v 0) (.a (.k 1) (.a (.m 3 (.v 1)) (.k 4)))) (.k 1)) (.k 1000000000) rfl this,h.nn,h.nl⟩;have K:∀t k q9 i',wO q9 t k->GK (s+1) k->GX q8 i (3*kc s+5) q9 i'->Q (.tup [.int t,.lst (jL k)]) (gS q9 i'):=K;refine dt (p:=(0:Int)<((s+1:Nat):Int)) (zI.mpr (Nat.succ_pos s)) ?_;refine u4 (k:=8) (qF (by exact yX [_] (LF.c 1 (.k 11) (.v 0) .n) 0 (.k 1) (.v 0) rfl f12) hM) h.nn h.nl (by decide) (by have:=h.il; exact yX [_,_] (LF.c 1 (.a (.a (.v 0) (.v 1)) (.k 1)) (.k 1000000000) .n) 0 (.a (.v 0) (.k 1)) (.k 1000000000) rfl h.il) fun w w0 w8=>?_;have x1:GX q8 i 1 q8 (i+1):=⟨h.tok.refl,qT _⟩;have g1:=h.step x1;refine dc (p:=w<4) (fun z0=>?_) fun n4=>?_
 ·exact NT (qF (by exact yX [_] (LF.c 1 (.k 11) (.v 0) .n) 0 (.k 3) (.v 0) rfl f12) hM) ⟨g1.tok.le (by exact yX [_] (LF.c 3 (.k 3) (.v 0) .n) 0 (.k 3) (.a (.m 3 (.v 0)) (.k 4)) rfl kp),by have:=g1.il; exact yX [_,_] (LF.c 3 (.k 3) (.v 1) (LF.c 1 (.a (.a (.a (.v 0) (.k 1)) (.a (.m 3 (.v 1)) (.k 4))) (.k 1)) (.k 1000000000) .n)) 0 (.a (.a (.a (.v 0) (.k 1)) (.k 3)) (.k 1)) (.k 1000000000) rfl kp this,h.nn,h.nl⟩ fun t k q9 i' hs' hk x=>K t k q9 i' hs' (hk.up0 _) ((x1.trans x).le (by exact yX [_] (LF.c 3 (.k 3) (.v 0) .n) 0 (.a (.k 1) (.k 3)) (.a (.m 3 (.v 0)) (.k 5)) rfl kp))
 ·refine dc (p:=w=4) (fun z0=>?_) fun z0=>?_
  ·have e1:((s+1:Nat):Int)-1=(s:Nat):=Int.add_sub_cancel (s:Int) 1;have G1:GI qC q8 (i+1) (kc s+(2*kc s+4)):=⟨g1.tok.le (by exact yX [_] LF.n 0 (.a (.v 0) (.a (.m 2 (.v 0)) (.k 4))) (.a (.m 3 (.v 0)) (.k 4)) rfl),by have:=g1.il; exact yX [_,_] (LF.c 1 (.a (.a (.a (.v 0) (.k 1)) (.a (.m 3 (.v 1)) (.k 4))) (.k 1)) (.k 1000000000) .n) 0 (.a (.a (.a (.v 0) (.k 1)) (.a (.v 1) (.a (.m 2 (.v 1)) (.k 4)))) (.k 1)) (.k 1000000000) rfl this,h.nn,h.nl⟩;show y4 D M "_law_kind" [] [.ref true 0,fZ qC,.int (((s+1:Nat):Int)-1)] _ _;rw[e1];refine IH M q8 (i+1) _ hM ⟨G1.tok.le (by exact yX [_] (LF.c 2 (.k 3) (.v 0) .n) 0 (.v 0) (.a (.v 0) (.a (.m 2 (.v 0)) (.k 4))) rfl kp),by have:=G1.il; exact yX [_,_,_] (LF.c 2 (.a (.a (.v 0) (.v 1)) (.k 1)) (.k 1000000000) (LF.c 1 (.a (.a (.a (.v 0) (.k 1)) (.a (.v 2) (.a (.m 2 (.v 2)) (.k 4)))) (.k 1)) (.k 1000000000) .n)) 2 (.a (.a (.a (.v 0) (.k 1)) (.v 2)) (.k 1)) (.k 1000000000) rfl h.il this,h.nn,h.nl⟩ fun t1 k1 qA i1 s1 h1 y1=>?_;have G2:=G1.step y1;show y4 D M "_law_kind" [] [.ref true 0,fZ qC,.int (((s+1:Nat):Int)-1)] _ _;rw[e1];refine IH M qA i1 _ hM ⟨G2.tok.le (by exact yX [_] (LF.c 1 (.k 3) (.v 0) .n) 0 (.v 0) (.a (.m 2 (.v 0)) (.k 4)) rfl kp),by have:=G2.il; exact yX [_,_] (LF.c 1 (.k 3) (.v 0) (LF.c 1 (.a (.a (.v 1) (.a (.m 2 (.v 0)) (.k 4))) (.k 1)) (.k 1000000000) .n)) 0 (.a (.a (.v 1) (.v 0)) (.k 1)) (.k 1000000000) rfl kp this,h.nn,h.nl⟩ fun t2 k2 qB i2 s2 h2 y2=>?_;have ef:([(t1,k1),(t2,k2)].map (·.2)).flatten=k1++k2:=by show k1++(k2++[])=_; rw[qS]
   have n4:nl (k1++k2)<=54:=by rw[vY]; exact yX [_,_] (LF.c 1 (.v 0) (.k 2) (LF.c 1 (.v 1) (.k 2) .n)) 0 (.a (.v 0) (.v 1)) (.k 54) rfl (h1.nl2 hs) (h2.nl2 hs)
   refine cK (l:=[(t1,k1),(t2,k2)]) (n:=0) (qF (by exact yX [_] (LF.c 1 (.k 11) (.v 0) .n) 0 (.k 3) (.v 0) rfl f12) hM) ((((⟨G2.tok.le (by exact yX [_] LF.n 0 (.a (.v 0) (.a (.v 0) (.k 4))) (.a (.m 2 (.v 0)) (.k 4)) rfl),by have:=G2.il; exact yX [_,_] (LF.c 1 (.a (.a (.v 1) (.a (.m 2 (.v 0)) (.k 4))) (.k 1)) (.k 1000000000) .n) 0 (.a (.a (.v 1) (.a (.v 0) (.a (.v 0) (.k 4)))) (.k 1)) (.k 1000000000) rfl this,h.nn,h.nl⟩:GI qC qA i1 (kc s+(kc s+4))).step y2:GI qC qB i2 (kc s+4))).tok.le (by exact yX [_] (LF.c 1 (.k 3) (.v 0) .n) 0 (.a (.k 0) (.k 1)) (.a (.v 0) (.k 4)) rfl kp)) rfl (fun σ K h=>h) (zB.mpr ⟨s1.mono y2.ext.pre,zB.mpr ⟨s2,yV⟩⟩) (zB.mpr ⟨h1.kok (by exact yX [_] (LF.c 1 (.v 0) (.k 2) .n) 0 (.v 0) (.k 4) rfl hs),zB.mpr ⟨h2.kok (by exact yX [_] (LF.c 1 (.v 0) (.k 2) .n) 0 (.v 0) (.k 4) rfl hs),yV⟩⟩) ((ef)▸n4) fun t3 rows3 q1 q2=>?_;rw[ef]at q1;refine mU (ks:=[k1,k2]) (qF (by exact yX [_] (LF.c 1 (.k 11) (.v 0) .n) 0 (.k 10) (.v 0) rfl f12) hM) rfl (fun σ K h=>h) (zB.mpr ⟨⟨(h1.kok (by exact yX [_] (LF.c 1 (.v 0) (.k 2) .n) 0 (.v 0) (.k 4) rfl hs)).fit,(h1.kok (by exact yX [_] (LF.c 1 (.v 0) (.k 2) .n) 0 (.v 0) (.k 4) rfl hs)).dp⟩,zB.mpr ⟨⟨(h2.kok (by exact yX [_] (LF.c 1 (.v 0) (.k 2) .n) 0 (.v 0) (.k 4) rfl hs)).fit,(h2.kok (by exact yX [_] (LF.c 1 (.v 0) (.k 2) .n) 0 (.v 0) (.k 4) rfl hs)).dp⟩,yV⟩⟩) (tX (by show nl (k1++(k2++[]))<=54; rw[qS]; exact n4)) ?_;exact(show[k1,k2].flatten=k1++k2 from ef)▸(K t3 (yF (k1++k2)) rows3 i2 q1 (h1.join h2) ((((x1.trans y1).trans y2).trans ⟨q2,qJ i2 1⟩).le (by exact yX [_] (LF.c 1 (.k 3) (.v 0) .n) 0 (.a (.a (.a (.k 1) (.v 0)) (.v 0)) (.k 1)) (.a (.m 3 (.v 0)) (.k 5)) rfl kp)))
  ·exact L M q8 (i+1) _ hM g1 fun t k q9 i' hs' hk x=>K t k q9 i' hs' hk ((x1.trans x).le (by exact yX [_] LF.n 0 (.a (.k 1) (.a (.m 3 (.v 0)) (.k 4))) (.a (.m 3 (.v 0)) (.k 5)) rfl))
end
abbrev ZL:=List ((Int×Int)×(List Pt×Int))
noncomputable def lS(g:ZL×List yD×Nat):St:=tS g.2.1 (gG g.2.2) [some (.list (g.1.map fun q=>jA q.1)),some (.list (g.1.map fun q=>lC q.2))]
def lI(fm:List Int)(q8:List yD)(i s:Nat)(r':List Int)(g:ZL×List yD×Nat):Prop:=g.1.map (·.2.2)++r'=fm/\(∀q∈g.1,q.1.2=q.2.2/\wO g.2.1 q.1.1 q.2.1/\GK s q.2.1)/\GX q8 i (g.1.length*kc s) g.2.1 g.2.2
section
variable{qC fm:List Int}{q8 q9 qB:List yD}{i i' i2 N M a b c s F:Nat}{Q:Kv}{n:Int}{K:Kf}{ρ0:y5}
def KP.mono{f:String}{F':Nat}(h:KP qC s c f F)(l:F<=F'):KP qC s c f F':=fun N q8 i Q hN=>h N q8 i Q (qF l hN)
def B3{r:Int}(h0:0<=r)(h:r<12):∃fm∈[2]::FT,([[0,0],[0,0,0],[0],[0,2],[2,0],[0,2,0],[0,1],[1,2],[0,0,2],[2,0,0],[2],[]]:List (List Int))[r.toNat]?=some fm:=by
 have:∀n<12,∃fm∈[2]::FT,([[0,0],[0,0,0],[0],[0,2],[2,0],[0,2,0],[0,1],[1,2],[0,0,2],[2,0,0],[2],[]]:List (List Int))[n]?=some fm:=by unfold FT; decide
 exact this r.toNat ((Int.toNat_lt h0).mpr h)
def DA(IH:KP qC s (kc s) "_law_kind" F) (hM:F<=M) (h:GI qC q8 i (3*kc s)) (l3:fm.length<=3) {ro:Int} (f:V)
  (k:∀f' g,lI fm q8 i s [] g->K .next (y5.mix (y5.set (y5.set (y5.set (y5.set (y5.set (y5.set (y5.set xV "tab" (.ref true 0)) "roll" (fZ qC)) "floor" (.int ((s+1:Nat):Int))) "ro" (.int ro)) "form" f) "rows" (.ref false 0)) "held" (.ref false 1)) ["t","kind","tag"] f') (lS g)) :
  r9 (.nm "tag") (xA (xP D (y4 D M)) (o8 (dQ.body.getD 4 .bad))) K (vI fm) (y5.set (y5.set (y5.set (y5.set (y5.set (y5.set (y5.set xV "tab" (.ref true 0)) "roll" (fZ qC)) "floor" (.int ((s+1:Nat):Int))) "ro" (.int ro)) "form" f) "rows" (.ref false 0)) "held" (.ref false 1)) (lS ([],q8,i)):=by
 refine lg ["t","kind","tag"] V.int lS (lI fm q8 i s) (g0:=([],q8,i)) rfl (fun f g z=>k f g z) (fun x r' f g z W kw=>?_) ⟨rfl,yV,⟨List.prefix_refl _,qJ ..,h.tok.nd⟩,qJ ..⟩;obtain⟨zl,qA,i1⟩:=g;refine qG fun ng=>?_;refine XQ (z) fun e zz x1=>?_;refine ng ?_;have ln:zl.length+1<=3:=qF (by rw[<-((e:zl.map (·.2.2)++x::r'=fm)),qM,qH]; exact qL (z7 (zA _)) _) l3;have cm:=z4 (kc s) ln;rw[Nat.succ_mul]at cm;have e1:((s+1:Nat):Int)-1=(s:Nat):=Int.add_sub_cancel (s:Int) 1;show y4 D M "_law_kind" [] [.ref true 0,fZ qC,.int (((s+1:Nat):Int)-1)] _ (gS qA i1);rw[e1];refine IH M qA i1 _ hM (((⟨h.tok.le cm,qI (qL cm i) h.il,h.nn,h.nl⟩:GI qC q8 i (zl.length*kc s+kc s))).step ((x1:GX q8 i (zl.length*kc s) qA i1))) fun t k2 qB i2 s2 hk y2=>?_;refine ft (((fun f v=>by rw[qM,qH]; exact qF ln (by decide):∀(f:(Int×Int)×(List Pt×Int)->V)(v:V),(zl.map f++[v]).length<=lim)) _ _) ?_;refine ft (((fun f v=>by rw[qM,qH]; exact qF ln (by decide):∀(f:(Int×Int)×(List Pt×Int)->V)(v:V),(zl.map f++[v]).length<=lim)) _ _) ?_;have ea:zl.map (fun q=>jA q.1)++[V.tup [.int t,.int x]]=(zl++[((t,x),(k2,x))]).map fun q=>jA q.1:=(qU (f:=fun q:(Int×Int)×(List Pt×Int)=>jA q.1) (l₁:=zl) (l₂:=[((t,x),(k2,x))])).symm;have eb:zl.map (fun q=>lC q.2)++[V.tup [.lst (jL k2),.int x]]=(zl++[((t,x),(k2,x))]).map fun q=>lC q.2:=(qU (f:=fun q:(Int×Int)×(List Pt×Int)=>lC q.2) (l₁:=zl) (l₂:=[((t,x),(k2,x))])).symm;show W _ (tS qB (gG i2) [some (.list (zl.map (fun q=>jA q.1)++[V.tup [.int t,.int x]])),some (.list (zl.map (fun q=>lC q.2)++[V.tup [.lst (jL k2),.int x]]))]);rw[ea,eb];refine kw _ (zl++[((t,x),(k2,x))],qB,i2) (.set (.set (.set .mix rfl) rfl) rfl) ⟨?_,fun q hq=>?_,?_⟩
 ·show(zl++[((t,x),(k2,x))]).map (·.2.2)++r'=fm;rw[qU,qZ];exact((e:zl.map (·.2.2)++x::r'=fm))
 ·exact(zH.mp hq).elim (fun m=>⟨(zz q m).1,(zz q m).2.1.mono y2.ext.pre,(zz q m).2.2⟩) fun m=>by cases qO.mp m; exact⟨rfl,s2,hk⟩
 ·show GX q8 i ((zl++[((t,x),(k2,x))]).length*kc s) qB i2;rw[qM,Nat.add_mul];exact(((x1:GX q8 i (zl.length*kc s) qA i1)).trans y2).le (qK (congrArg (zl.length*kc s+·) (Nat.one_mul _).symm))
end
noncomputable def q13:List (List Int):=[[0,0],[0,0,0],[0],[0,2],[2,0],[0,2,0],[0,1],[1,2],[0,0,2],[2,0,0],[2],[]]
section
variable{qC fm:List Int}{q8 q9 qB:List yD}{i i' i2 N M a b c s F:Nat}{Q:Kv}{n:Int}{K:Kf}{ρ0:y5}
def o9:∀fm∈[2]::FT,((xR (.tup (vI fm))).canLay0&&((xR (.tup [.int 2])).canLay0&&Nat.ble (xR (.tup [.int 2])).depth 20))=true/\PySem.PyData.eqv (xR (.tup (vI fm))) (xR (.tup [.int 2]))=(fm==[2]):=by unfold FT; decide +kernel
def DB(hs:s<=2)(f11:11<=F)(IH:KP qC s (kc s) "_law_kind" F):KP qC (s+1) (3*kc s+4) "_law_list" (F+1):=fun N q8 i Q hN h K=>by
 refine cm hN (d:=dQ) rfl rfl fun M hM=>?_;refine u4 (k:=2) (qF (by exact yX [_] (LF.c 1 (.k 11) (.v 0) .n) 0 (.k 1) (.v 0) rfl f11) hM) h.nn h.nl (by decide) (by exact yX [_,_] (LF.c 1 (.a (.a (.v 0) (.a (.m 3 (.v 1)) (.k 4))) (.k 1)) (.k 1000000000) .n) 0 (.a (.v 0) (.k 1)) (.k 1000000000) rfl h.il) fun ro r0 r2=>?_;refine(JQ r0 r2).elim fun ro z=>z▸?_;refine u4 (k:=12) (qF (by exact yX [_] (LF.c 1 (.k 11) (.v 0) .n) 0 (.k 1) (.v 0) rfl f11) hM) h.nn h.nl (by decide) (by exact yX [_,_] (LF.c 1 (.a (.a (.v 0) (.a (.m 3 (.v 1)) (.k 4))) (.k 1)) (.k 1000000000) .n) 0 (.a (.a (.v 0) (.k 1)) (.k 1)) (.k 1000000000) rfl h.il) fun r q0 q12=>?_;refine qG fun ng=>?_;refine wI (B3 q0 q12) fun fm mf ef=>?_;refine ng ?_;have l3:fm.length<=3:=c0 mf;refine q6D (L:=q13.map fun l=>.tup (vI l)) (n:=r.toNat) (Int.toNat_of_nonneg q0).symm (v:=.tup (vI fm)) (by rw[List.getElem?_map]; exact congrArg (Option.map fun l=>V.tup (vI l)) ef) (Nat.lt_trans ((Int.toNat_lt q0).mpr q12) (by decide)) ?_;refine DA (i:=i+1+1) IH hM ⟨h.tok.le (by exact yX [_] LF.n 0 (.m 3 (.v 0)) (.a (.m 3 (.v 0)) (.k 4)) rfl),by exact yX [_,_] (LF.c 1 (.a (.a (.v 0) (.a (.m 3 (.v 1)) (.k 4))) (.k 1)) (.k 1000000000) .n) 0 (.a (.a (.a (.a (.v 0) (.k 1)) (.k 1)) (.m 3 (.v 1))) (.k 1)) (.k 1000000000) rfl h.il,h.nn,h.nl⟩ l3 (.tup (vI fm)) fun f' g z=>?_;obtain⟨zl,qA,i1⟩:=g;refine XQ (z) fun e zz x1=>?_;have e:zl.map (·.2.2)=fm:=(qS _).symm.trans e;have zz:∀q∈zl,q.1.2=q.2.2/\wO qA q.1.1 q.2.1/\GK s q.2.1:=zz;have cz:=z4 (kc s) (by rw[<-e,qH]at l3; exact l3:zl.length<=3);have T1:uB 1 qA:=(h.tok.le (show 2+zl.length*kc s+1<=3*kc s+4 by exact yX [_,_] (LF.c 1 (.v 1) (.m 3 (.v 0)) .n) 0 (.a (.a (.k 2) (.v 1)) (.k 1)) (.a (.m 3 (.v 0)) (.k 4)) rfl cz)).ext (((⟨h.tok.refl,qT _⟩:GX q8 i 2 q8 (i+1+1))).trans ((x1:GX q8 (i+1+1) (zl.length*kc s) qA i1))).ext;have fin:∀{t k q9},wO q9 t k->GK (s+1) k->vQ qA 1 q9->Q (.tup [.int t,.lst (jL k)]) (gS q9 i1):=fun hs' hk E=>K _ _ _ _ hs' hk (((((⟨h.tok.refl,qT _⟩:GX q8 i 2 q8 (i+1+1))).trans ((x1:GX q8 (i+1+1) (zl.length*kc s) qA i1))).trans ⟨E,qJ i1 1⟩).le (by exact yX [_,_] (LF.c 1 (.v 1) (.m 3 (.v 0)) .n) 0 (.a (.a (.k 2) (.v 1)) (.k 1)) (.a (.m 3 (.v 0)) (.k 4)) rfl cz));refine kt (o9 fm mf).1 ?_;refine bc (b:=PySem.PyData.eqv (xR (.tup (vI fm))) (xR (.tup [.int 2]))) (fun c=>?_) fun c=>?_
 ·rw[(o9 fm mf).2]at c;have c:=eq_of_beq c;rw[c]at e;obtain⟨q,rfl⟩:=List.length_eq_one_iff.mp ((qH ..).symm.trans (congrArg List.length e));have w:=zz q (.head _);refine GU (qF (by exact yX [_] (LF.c 1 (.k 11) (.v 0) .n) 0 (.k 2) (.v 0) rfl f11) hM) T1.nd T1.lt fun t' q9 hr E=>?_;exact fin (k:=[.a ro q.2.1]) ((w.2.1.mono E.pre).elim fun ids z=>gA ⟨q.1.1,ids,hr,z.1,z.2⟩) (w.2.2.arr hs) E
 ·rw[(o9 fm mf).2]at c;have mF:fm∈FT:=(qV.mp mf).resolve_left fun z=>j0 ((beq_iff_eq.mpr z).symm.trans c);have e3:(zl.map (·.1)).map (·.2)=fm:=by rw[<-e,qY]; exact List.map_congr_left fun q hq=>(zz q hq).1
  refine hZ (es:=zl.map (·.1)) (n:=0) (qF (by exact yX [_] (LF.c 1 (.k 11) (.v 0) .n) 0 (.k 2) (.v 0) rfl f11) hM) T1 (e3▸cT mF) (fun σ K h=>by rw[qY]at h; exact h) id rfl fun t' q9 hr E=>?_
  have:=fin (k:=[.t ro (zl.map (·.2))]) (gA ⟨zl.map (·.1),hr,JC fun q hq=>⟨(zz q hq).1,(zz q hq).2.1.mono E.pre⟩⟩) (GK.tup (List.forall_mem_map.mpr fun q hq=>(zz q hq).2.2) hs ((((qY ..).trans e:(zl.map (·.2)).map (·.2)=fm))▸mF)) E
  have this:Q (.tup [.int t',.lst [.tup [.str [116],.int (aZ ro),.lst (jY (zl.map (·.2)))]]]) (gS q9 i1):=this;rw[x5,qY]at this;exact this
theorem nJ:∀s,s<=3->KP qC s (kc s) "_law_kind" (11+2*s)
 | 0,_=>I2.mono (by decide)
 | s+1,h=>KP.mono (F:=12+2*s+1) (by exact I3 (zJ h) (12+2*s) (by exact yX [_] LF.n 0 (.k 11) (.a (.k 12) (.m 2 (.v 0))) rfl) ((nJ s (zK h)).mono (by exact yX [_] LF.n 0 (.a (.k 11) (.m 2 (.v 0))) (.a (.k 12) (.m 2 (.v 0))) rfl)) ((DB (F:=11+2*s) (zJ h) (by exact yX [_] LF.n 0 (.k 11) (.a (.k 11) (.m 2 (.v 0))) rfl) (nJ s (zK h))).mono (by exact yX [_] LF.n 0 (.a (.a (.k 11) (.m 2 (.v 0))) (.k 1)) (.a (.k 12) (.m 2 (.v 0))) rfl))) (by exact yX [_] LF.n 0 (.a (.a (.k 12) (.m 2 (.v 0))) (.k 1)) (.a (.k 11) (.m 2 (.a (.v 0) (.k 1)))) rfl)
end
noncomputable def M7:List (List Int):=[[0],[0,3],[3,0],[0,3,0],[0,0],[3],[0,1],[0,2],[1,3],[2,0],[0,0,3],[3,0,0],[2],[]]
noncomputable def ac:Nat->Nat
 | 0=>2
 | s+1=>3*ac s+4
noncomputable def zF:Nat->Nat
 | 0=>1
 | s+1=>3*zF s+1
set_option genCtorIdx false in
structure GA (s:Nat) (α:yK):Prop where
 fit:j4 α
 dp:u9 α<=s
 sz:tH α<=zF s
def rA(q8:List yD)(own:List Int):Prop:=∀k:Nat,k<3->∃t,own[k]?=some t/\y9 q8 t=some (.par k)
def AP(qC own:List Int)(s c:Nat)(f:String)(fuel:Nat):Prop:=∀(N:Nat)(q8:List yD)(i:Nat)(Q:Kv),fuel<=N->GI qC q8 i c->rA q8 own->(∀t α q9 i',yL q9 t α->GA s α->GX q8 i c q9 i'->Q (.tup [.int t,uA α]) (gS q9 i'))->y4 D N f [] [.ref true 0,fZ qC,.int s,.lst (vI own)] Q (gS q8 i)
noncomputable def aρ(qC own:List Int)(s:Nat):y5:=y5.set (y5.set (y5.set (y5.set xV "tab" (.ref true 0)) "roll" (fZ qC)) "floor" (.int s)) "own" (.lst (vI own))
section
variable{qC fm own:List Int}{q8 q9 qB:List yD}{i i' i2 N M a b c s F:Nat}{Q:Kv}{n:Int}{K:Kf}{ρ0:y5}{α:yK}{l:List (yK×Int)}
def rA.mono(h:rA q8 own)(p:q8 <+: q9):rA q9 own:=fun k hk=>(h k hk).elim fun t z=>⟨t,z.1,xG p z.2⟩
def q76:∀s,1<=zF s
 | 0=>qT _
 | _+1=>qP ..
def GA.up(h:GA s α):GA (s+1) α:=⟨h.fit,Nat.le_succ_of_le h.dp,qF h.sz (qF (Nat.le_mul_of_pos_left _ (by decide)) (Nat.le_succ _))⟩
theorem GA.up0(h:GA 0 α):∀s,GA s α
 | 0=>h
 | s+1=>(GA.up0 h s).up
def GA.arr(h:GA s α):GA (s+1) (.a α):=⟨h.fit,z7 h.dp,z7 (qF h.sz (Nat.le_mul_of_pos_left _ (by decide)))⟩
theorem t5:∀{l:List (yK×Int)},(∀q∈l,GA s q.1)->JU l/\H3 l<=s/\NI l<=l.length*zF s
 | [],_=>⟨trivial,zA _,zA _⟩
 | q::l,h =>
  ⟨⟨(h q (.head _)).fit,(t5 fun x hx=>h x (.tail _ hx)).1⟩,Nat.max_le.mpr ⟨(h q (.head _)).dp,(t5 fun x hx=>h x (.tail _ hx)).2.1⟩,qF (Nat.add_le_add (h q (.head _)).sz (t5 fun x hx=>h x (.tail _ hx)).2.2) (qK (by rw[List.length_cons,Nat.succ_mul,Nat.add_comm]))⟩
def GA.tup(h:∀q∈l,GA s q.1)(ht:l.map (·.2)∈AT):GA (s+1) (.t l) :=
 ⟨⟨(t5 h).1,ht⟩,z7 (t5 h).2.1,z7 (qF (t5 h).2.2 (z4 _ (qH (f:=(·.2)) (as:=l)▸tN ht)))⟩
def GA.leaf(h:α=.n\/∃k:Nat,k<3/\α=.i k)(f:j4 α):GA 0 α:=by
 rcases h with rfl | ⟨k,_,rfl⟩
 ·exact⟨f,qT _,qT _⟩
 ·exact⟨f,qT _,qT _⟩
def q2U:∀{k:Nat},k<3->j4 (.i k)
 | 0,_=>.inl rfl
 | 1,_=>.inr (.inl rfl)
 | 2,_=>.inr (.inr rfl)
def D4(hM:2<=M)(h:GI qC q8 i 1)(ho:rA q8 own){w:Int}(K:∀t α q9 i',yL q9 t α->GA 0 α->GX q8 i 1 q9 i'->Q (.tup [.int t,uA α]) (gS q9 i')):
  xA (xP D (y4 D M)) (bI.body.drop 2) (y5.set (aρ qC own s) "way" (.int w)) (uO Q) (gS q8 i):=by
 refine u4 (k:=4) (lv hM) h.nn h.nl (by decide) (Nat.lt_of_succ_lt h.il) fun k k0 k4=>?_;refine dc (p:=k=3) (fun z0=>?_) fun k3=>?_
 ·exact O0 hM h.tok.nd h.tok.lt fun t q9 hr E=>K t .n q9 _ hr (.leaf (.inl rfl) trivial) ⟨E,qT _⟩
 ·refine qG fun ng=>?_;obtain⟨k,rfl⟩:=Int.eq_ofNat_of_zero_le k0;have hk:k<3:=Nat.lt_of_le_of_ne (Nat.le_of_lt_succ (zI.mp k4)) fun e=>k3 (congrArg Int.ofNat e);refine wI (ho k hk) fun t et hr=>?_;refine ng ?_;refine ix (L:=vI own) (n:=k) (v:=.int t) (by rw[List.getElem?_map,et]; rfl) (qQ hk (by decide)) ?_;exact K t (.i k) q8 _ hr (.leaf (.inr ⟨k,hk,rfl⟩) (q2U hk)) ⟨h.tok.refl.le (zA _),qT _⟩
def q1L:AP qC own 0 (ac 0) "_law_aim" 3:=fun N q8 i Q hN h ho K=>by
 refine cm hN (d:=bI) rfl rfl fun M hM=>?_;exact D4 (s:=0) (w:=0) hM ⟨h.tok.le (by decide),Nat.lt_of_succ_lt h.il,h.nn,h.nl⟩ ho fun t α q9 i' h1 h2 x=>K t α q9 i' h1 h2 (x.le (by decide))
end
noncomputable def lA(g:ZA×List yD×Nat):St:=tS g.2.1 (gG g.2.2) [some (.list (g.1.map fun q=>jA q.1)),some (.list (g.1.map fun q=>sB uA q.2))]
def lJ(fm:List Int)(q8:List yD)(i s:Nat)(r':List Int)(g:ZA×List yD×Nat):Prop:=g.1.map (·.2.2)++r'=fm/\(∀q∈g.1,q.1.2=q.2.2/\yL g.2.1 q.1.1 q.2.1/\GA s q.2.1)/\GX q8 i (g.1.length*ac s) g.2.1 g.2.2
noncomputable def tρ(qC own:List Int)(s:Nat)(f:V):y5:=y5.set (y5.set (y5.set (aρ qC own s) "form" f) "rows" (.ref false 0)) "held" (.ref false 1)
section
variable{qC fm own:List Int}{q8 q9 qB:List yD}{i i' i2 N M a b c s F:Nat}{Q:Kv}{n:Int}{K:Kf}{ρ0:y5}{α:yK}{l:List (yK×Int)}
def AP.mono{f:String}{F':Nat}(h:AP qC own s c f F)(l:F<=F'):AP qC own s c f F':=fun N q8 i Q hN=>h N q8 i Q (qF l hN)
def MN{r:Int}(h0:0<=r)(h:r<14):∃fm∈[2]::AT,M7[r.toNat]?=some fm:=by
 have:∀n<14,∃fm∈[2]::AT,M7[n]?=some fm:=by unfold M7 AT; decide
 obtain⟨n,rfl⟩:=Int.eq_ofNat_of_zero_le h0;exact this n (zI.mp h)
def iP:∀fm∈[2]::AT,((xR (.tup (vI fm))).canLay0&&((xR (.tup [.int 2])).canLay0&&Nat.ble (xR (.tup [.int 2])).depth 20))=true/\PySem.PyData.eqv (xR (.tup (vI fm))) (xR (.tup [.int 2]))=(fm==[2]):=by unfold AT; decide +kernel
def MM:∀{fm:List Int},fm∈[2]::AT->fm.length<=3:=fun h=>(qV.mp h).elim (fun e=>e▸(by decide)) fun h=>tN h
def ML(IH:AP qC own s (ac s) "_law_aim" F) (hM:F<=M) (h:GI qC q8 i (3*ac s)) (ho:rA q8 own) (l3:fm.length<=3) (f:V)
  (k:∀f' g,lJ fm q8 i s [] g->K .next (y5.mix (tρ qC own (s+1) f) ["t","aim","tag"] f') (lA g)) :
  r9 (.nm "tag") (xA (xP D (y4 D M)) (o8 (tQ.body.getD 3 .bad))) K (vI fm) (tρ qC own (s+1) f) (lA ([],q8,i)):=by
 refine lg ["t","aim","tag"] V.int lA (lJ fm q8 i s) (g0:=([],q8,i)) rfl (fun f g z=>k f g z) (fun x r' f g z W kw=>?_) ⟨rfl,yV,⟨List.prefix_refl _,qJ ..,h.tok.nd⟩,qJ ..⟩;obtain⟨zl,qA,i1⟩:=g;refine qG fun ng=>?_;refine XQ (z) fun e zz x1=>?_;refine ng ?_;have ln:zl.length+1<=3:=qF (by rw[<-((e:zl.map (·.2.2)++x::r'=fm)),qM,qH]; exact qL (z7 (zA _)) _) l3;have cm:=z4 (ac s) ln;rw[Nat.succ_mul]at cm;have e1:((s+1:Nat):Int)-1=(s:Nat):=(show(s:Int)+1-1=s from Int.add_sub_cancel ..);show y4 D M "_law_aim" [] [.ref true 0,fZ qC,.int (((s+1:Nat):Int)-1),.lst (vI own)] _ (gS qA i1);rw[e1];refine IH M qA i1 _ hM (((⟨h.tok.le cm,qI (qL cm i) h.il,h.nn,h.nl⟩:GI qC q8 i (zl.length*ac s+ac s))).step ((x1:GX q8 i (zl.length*ac s) qA i1))) (ho.mono ((x1:GX q8 i (zl.length*ac s) qA i1)).ext.pre) fun t k2 qB i2 s2 hk y2=>?_;refine ft (((fun f v=>by rw[qM,qH]; exact qF ln (by decide):∀(f:(Int×Int)×(yK×Int)->V)(v:V),(zl.map f++[v]).length<=lim)) _ _) ?_;refine ft (((fun f v=>by rw[qM,qH]; exact qF ln (by decide):∀(f:(Int×Int)×(yK×Int)->V)(v:V),(zl.map f++[v]).length<=lim)) _ _) ?_;have ea:zl.map (fun q=>jA q.1)++[V.tup [.int t,.int x]]=(zl++[((t,x),(k2,x))]).map fun q=>jA q.1:=(qU (f:=fun q:(Int×Int)×(yK×Int)=>jA q.1) (l₁:=zl) (l₂:=[((t,x),(k2,x))])).symm;have eb:zl.map (fun q=>sB uA q.2)++[V.tup [uA k2,.int x]]=(zl++[((t,x),(k2,x))]).map fun q=>sB uA q.2:=(qU (f:=fun q:(Int×Int)×(yK×Int)=>sB uA q.2) (l₁:=zl) (l₂:=[((t,x),(k2,x))])).symm;rw[ea,eb];refine kw _ (zl++[((t,x),(k2,x))],qB,i2) (.set (.set (.set .mix rfl) rfl) rfl) ⟨?_,fun q hq=>?_,?_⟩
 ·show(zl++[((t,x),(k2,x))]).map (·.2.2)++r'=fm;rw[qU,qZ];exact((e:zl.map (·.2.2)++x::r'=fm))
 ·exact(zH.mp hq).elim (fun m=>⟨(zz q m).1,(zz q m).2.1.mono y2.ext.pre,(zz q m).2.2⟩) fun m=>by cases qO.mp m; exact⟨rfl,s2,hk⟩
 ·show GX q8 i ((zl++[((t,x),(k2,x))]).length*ac s) qB i2;rw[qM,Nat.add_mul];exact(((x1:GX q8 i (zl.length*ac s) qA i1)).trans y2).le (qK (congrArg (zl.length*ac s+·) (Nat.one_mul _).symm))
def aQ(hF:2<=F)(IH:AP qC own s (ac s) "_law_aim" F):AP qC own (s+1) (3*ac s+3) "_law_target" (F+1):=fun N q8 i Q hN h ho K=>by
 refine cm hN (d:=tQ) rfl rfl fun M hM=>?_;have hM2:2<=M:=qF hF hM;refine u4 (k:=14) (zK hM2) h.nn h.nl (by decide) (qI (qJ ..) h.il) fun r q0 q14=>?_;refine qG fun ng=>?_;refine wI (MN q0 q14) fun fm mf ef=>?_;refine ng ?_;have l3:=MM mf;refine q6D (L:=M7.map fun l=>.tup (vI l)) (n:=r.toNat) (Int.toNat_of_nonneg q0).symm (v:=.tup (vI fm)) (by rw[List.getElem?_map]; exact congrArg (Option.map fun l=>V.tup (vI l)) ef) (Nat.lt_trans ((Int.toNat_lt q0).mpr q14) (by decide)) ?_;refine ML (i:=i+1) IH hM ⟨h.tok.le (qJ ..),qI (yX [_,_] LF.n 0 (.a (.a (.v 0) (.k 1)) (.m 3 (.v 1))) (.a (.v 0) (.a (.m 3 (.v 1)) (.k 3))) rfl) h.il,h.nn,h.nl⟩ ho l3 (.tup (vI fm)) fun f' g z=>?_;obtain⟨zl,qA,i1⟩:=g;refine XQ (z) fun e zz x1=>?_;have e:zl.map (·.2.2)=fm:=(qS _).symm.trans e;have zz:∀q∈zl,q.1.2=q.2.2/\yL qA q.1.1 q.2.1/\GA s q.2.1:=zz;have c3:1+zl.length*ac s+1<=3*ac s+3:=yX [_,_] (LF.c 1 (.v 0) (.m 3 (.v 1)) .n) 0 (.a (.a (.k 1) (.v 0)) (.k 1)) (.a (.m 3 (.v 1)) (.k 3)) rfl (z4 (ac s) (by rw[<-e,qH]at l3; exact l3:zl.length<=3));have T1:uB 1 qA:=(h.tok.le c3).ext ((show GX q8 i 1 q8 (i+1)from⟨h.tok.refl,qT _⟩).trans ((x1:GX q8 (i+1) (zl.length*ac s) qA i1))).ext;refine u4 (k:=2) (i:=i1) (q8:=qA) (zK hM2) h.nn h.nl (by decide) (by exact yX [_,_,_,_] (LF.c 1 (.v 0) (.a (.v 1) (.a (.k 1) (.v 2))) (LF.c 1 (.a (.a (.k 1) (.v 2)) (.k 1)) (.a (.m 3 (.v 3)) (.k 3)) (LF.c 1 (.a (.a (.v 1) (.a (.m 3 (.v 3)) (.k 3))) (.k 1)) (.k 1000000000) .n))) 0 (.a (.v 0) (.k 1)) (.k 1000000000) rfl ((show GX q8 i 1 q8 (i+1)from⟨h.tok.refl,qT _⟩).trans ((x1:GX q8 (i+1) (zl.length*ac s) qA i1))).il c3 h.il) fun ro r0 r2=>?_;refine(JQ r0 r2).elim fun ro z=>z▸?_;have fin:∀{t k q9},yL q9 t k->GA (s+1) k->vQ qA 1 q9->Q (.tup [.int t,uA k]) (gS q9 (i1+1)):=fun hs' hk E=>K _ _ _ _ hs' hk ((((show GX q8 i 1 q8 (i+1)from⟨h.tok.refl,qT _⟩).trans ((x1:GX q8 (i+1) (zl.length*ac s) qA i1))).trans (show GX qA i1 1 _ (i1+1)from⟨E,qT _⟩)).le c3);refine kt (iP fm mf).1 ?_;refine bc (b:=PySem.PyData.eqv (xR (.tup (vI fm))) (xR (.tup [.int 2]))) (fun c=>?_) fun c=>?_
 ·rw[(iP fm mf).2]at c;have c:=eq_of_beq c;rw[c]at e;obtain⟨q,rfl⟩:=List.length_eq_one_iff.mp ((qH ..).symm.trans (congrArg List.length e));have w:=zz q (.head _);refine GU hM2 T1.nd T1.lt fun t' q9 hr E=>?_;exact fin (k:=.a q.2.1) ⟨q.1.1,aZ ro,hr,w.2.1.mono E.pre⟩ w.2.2.arr E
 ·rw[(iP fm mf).2]at c;have mF:fm∈AT:=(qV.mp mf).resolve_left fun z=>j0 ((beq_iff_eq.mpr z).symm.trans c);have e3:(zl.map (·.1)).map (·.2)=fm:=by rw[<-e,qY]; exact List.map_congr_left fun q hq=>(zz q hq).1
  refine hZ (es:=zl.map (·.1)) (n:=0) hM2 T1 (e3▸XX mF) (fun σ K h=>by rw[qY]at h; exact h) id rfl fun t' q9 hr E=>?_
  have:=fin (k:=.t (zl.map (·.2))) ⟨zl.map (·.1),aZ ro,hr,XW fun q hq=>⟨(zz q hq).1,(zz q hq).2.1.mono E.pre⟩⟩ (GA.tup (List.forall_mem_map.mpr fun q hq=>(zz q hq).2.2) ((((qY ..).trans e:(zl.map (·.2)).map (·.2)=fm))▸mF)) E
  have this:Q (.tup [.int t',.tup [.str [116],.lst (lB (zl.map (·.2)))]]) (gS q9 (i1+1)):=this;rw[jN,qY]at this;exact this
def q1M(hF:2<=F)(T:AP qC own (s+1) (3*ac s+3) "_law_target" F):AP qC own (s+1) (ac (s+1)) "_law_aim" (F+1):=fun N q8 i Q hN h ho K=>by
 refine cm hN (d:=bI) rfl rfl fun M hM=>?_;have h:GI qC q8 i (1+(3*ac s+3)):=⟨h.tok.le (qK (Nat.add_comm 1 _)),qI (qK (congrArg (i+·) (Nat.add_comm 1 (3*ac s+3)))) h.il,h.nn,h.nl⟩;refine dt (p:=(0:Int)<((s+1:Nat):Int)) (zI.mpr (Nat.succ_pos s)) ?_;refine u4 (k:=6) (qF (qF (by decide) hF) hM) h.nn h.nl (by decide) (qI (qJ ..) h.il) fun w w0 w6=>?_;have x1:GX q8 i 1 q8 (i+1):=⟨h.tok.refl,qT _⟩;refine dc (p:=3<=w) (fun z0=>?_) fun n3=>?_
 ·exact T M q8 (i+1) _ hM (h.step x1) ho fun t α q9 i' hs' hk x=>((K:∀t α q9 i',yL q9 t α->GA (s+1) α->GX q8 i (3*ac s+4) q9 i'->Q (.tup [.int t,uA α]) (gS q9 i'))) t α q9 i' hs' hk ((x1.trans x).le (qK (Nat.add_comm 1 _)))
 ·exact D4 (s:=s+1) (w:=w) (qF hF hM) ⟨(h.step x1).tok.le (qF (by decide) (qP 3 _)),qI (qL (qF (by decide) (qP 3 _)) _) (h.step x1).il,h.nn,h.nl⟩ ho fun t α q9 i' hs' hk x=>((K:∀t α q9 i',yL q9 t α->GA (s+1) α->GX q8 i (3*ac s+4) q9 i'->Q (.tup [.int t,uA α]) (gS q9 i'))) t α q9 i' hs' (hk.up0 _) ((x1.trans x).le (qF (by decide) (qP 4 _)))
end
theorem iO{qC own:List Int}:∀s,AP qC own s (ac s) "_law_aim" (3+2*s)
 | 0=>q1L
 | s+1=>q1M (F:=3+2*s+1) (qF (by decide) (z7 (qJ 3 _))) (aQ (qF (by decide) (qJ 3 _)) (iO s))
noncomputable def gP(b d n:List V)(i:Int):xF:=[none,none,none,none,none,none,none,none,none,none,none,none,none,none,none,none,none,none,none,none,none,none,some (.list [.none]),some (.list b),some (.list d),some (.list n),some (.dI []),some (.dI []),some (.list [.int i])]
section
variable{q8 q9:List yD}{b d n:List V}{N i:Nat}{Q:Kv}{x:List Nat}
noncomputable def q47:yD->List Nat
 | .key s=>s
 | .boo a b=>[a.toNat,b.toNat]
 | .obj=>[2]
 | _=>[]
def n8:FIRST16.Nodup:=by
 have h:(FIRST16.map q47).Nodup:=by unfold FIRST16 q47; decide
 exact(List.pairwise_map.mp h).imp fun h e=>h (congrArg _ e)
def FW{dn r:List yD}{x:yD}(e:dn++x::r=FIRST16){t:Int}(hr:y9 q9 t=some x)(E:vQ dn 1 q9):q9=dn++[x]:=by
 obtain⟨z,rfl⟩:=E.pre;have m:x∈dn++z:=by
  unfold y9 at hr
  split at hr
  ·exact List.mem_of_getElem? hr
  ·exact wF hr
 have m:=(zH.mp m).resolve_left ((fun m=>(List.nodup_append.mp (e▸n8)).2.2 x m x (.head _) rfl:x∉dn));have l:=E.len;rw[qM]at l;cases z with
 | nil=>cases m
 | cons y z=>cases z with
  | nil=>rw[qO.mp m]
  | cons w z=>exact absurd (Nat.le_of_add_le_add_left l) (Nat.not_le.mpr (Nat.succ_lt_succ (Nat.succ_pos _)))
def L0(hN:2<=N)(K:Q .none (tS FIRST16 (gP [] [] [] 0) [])):
  y4 D N "TypeTable.__init__" [] [.ref true 0] Q ⟨some (.inst "TypeTable" 3)::none::none::some (.ns [])::none::none::none::none::none::none::none::none::none::none::none::none::none::none::none::none::none::none::none::none::none::none::none::none::none::none::none::none::some (.list [.int 0])::[],[]⟩:=by
 refine cm hN (d:=uW) rfl rfl fun M hM=>?_;refine⟨1,2,26,27,28,29,30,31,?_⟩;refine lg ["row"] (fun r:yD=>V.tup r.enc) (fun dn:List yD=>tS dn (gP [] [] [] 0) []) (fun r' dn=>dn++r'=FIRST16) (l:=FIRST16) (g0:=[]) rfl (fun f dn z=>?_) (fun x r' f dn z W w=>?_) rfl
 ·have z:dn=FIRST16:=(qS dn).symm.trans z;subst z;exact K
 ·have z:dn++x::r'=FIRST16:=z;refine dD (r:=x) hM (List.nodup_append.mp (z▸n8)).1 (qI ((by have:=congrArg List.length z; rw[qM]at this; exact qF (qJ ..) (qK this):dn.length<=16)) (by decide)) fun t q9 hr E=>?_;have e:=FW z hr E;subst e;exact w _ (dn++[x]) (.set .mix rfl) ((qZ ..).trans z)
def Q3(hN:2<=N)(nd:q8.Nodup)(hl:q8.length<lim)(eb:b.length<=3)(ed:d.length<=3)(en:n.length<=3)(K:∀t q9,y9 q9 t=some (.par b.length)->vQ q8 1 q9->Q (.int t) (tS q9 (gP (b++[.int (-1)]) (d++[.int (-1)]) (n++[.str x]) i) [])):
  y4 D N "new_param" [] [.ref true 0,.str x] Q (tS q8 (gP b d n i) []):=by
 refine cm hN (d:=rI) rfl rfl fun M hM=>?_;refine ft (qF eb (by decide)) ?_;refine ft (((fun v h=>qF (qK qM) (qF (qR h 1) (by decide)):∀{l:List V}(v:V),l.length<=3->(l++[v]).length<=lim)) _ eb) ?_;refine ft (((fun v h=>qF (qK qM) (qF (qR h 1) (by decide)):∀{l:List V}(v:V),l.length<=3->(l++[v]).length<=lim)) _ ed) ?_;refine ft (((fun v h=>qF (qK qM) (qF (qR h 1) (by decide)):∀{l:List V}(v:V),l.length<=3->(l++[v]).length<=lim)) _ en) ?_;exact dD (r:=.par b.length) hM nd hl K
end
noncomputable def n5(q8:List yD):Fs:=⟨q8,fun z0=>[],[],[],0,0,0⟩
section
variable{q8 q9:List yD}{r:xF}{N i:Nat}{Q:Kv}{ps:List Int}
def q0A(hN:1<=N)(K:Q .none (tS q8 (none::none::some (.inst "Thin" 7)::some (.ns JO)::none::none::none::none::none::none::none::none::none::none::r) [])) :
  y4 D N "Thin.__init__" [] [.ref true 6,.ref true 0] Q (tS q8 (none::none::some (.inst "Thin" 7)::some (.ns [])::none::none::none::none::none::none::none::none::none::none::r) []):=by
 refine cm hN (d:=rB) rfl rfl fun M hM=>?_;exact K
def q2T(hN:1<=N)(K:Q .none (fS ps (n5 q8) r [])):
  y4 D N "Finder.__init__" [] [.ref true 4,.ref true 6,.tup (vI ps),.ref true 8] Q (tS q8 (some (.inst "Finder" 5)::some (.ns [])::some (.inst "Thin" 7)::some (.ns JO)::some (.dI [])::none::none::none::none::none::none::none::none::none::r) []):=by
 refine cm hN (d:=d7) rfl rfl fun M hM=>?_;refine⟨16,17,12,?_⟩;exact K
end
section
variable{q8 q9:List yD}{r:xF}{N i:Nat}{Q:Kv}{K:Kf}{ps qC:List Int}{ρ:y5}
def q6H{x:Option (List V)}{l:List V}{W:List V->Prop}(h:x=some l)(k:W l):lc x W:=by subst h; exact k
def q2D{x y:String}{v w:V}(h:ρ x=some v)(h':ρ y=some w):kM ρ [x,y]=some [v,w]:=by
 unfold kM kM kM;rw[h,h']
noncomputable def lρ(ρ:y5)(qC:List Int):y5:=y5.set (y5.set (y5.set ρ "at" (.ref true 32)) "roll" (fZ qC)) "tab" (.ref true 0)
def q3C(hN:3<=N)(hn:ρ "nums"=some (.lst (vI qC))) (k:xA (y4 D N) (x4.body.drop 5) (lρ ρ qC) K (tS FIRST16 (gP [] [] [] 0) [])):xA (y4 D N) (x4.body.drop 2) ρ K ⟨[],[]⟩:=by
 refine⟨32,?_⟩;refine q6H (q2D (x:="nums") (y:="at") (show(y5.set ρ "at" (.ref true 32)) "nums"=_ from hn) rfl) ?_;refine⟨0,3,?_⟩;exact L0 (zK hN) k
def q3D(hN:3<=N)(k:∀own q8,rA q8 own->vQ FIRST16 3 q8->xA (y4 D N) (x4.body.drop 6) (y5.set (lρ ρ qC) "own" (.lst (vI own))) K (gS q8 0)):xA (y4 D N) (x4.body.drop 5) (lρ ρ qC) K (tS FIRST16 (gP [] [] [] 0) []):=by
 refine Q3 (zK hN) n8 (by decide) (by decide) (by decide) (by decide) fun t0 r0 h0 E0=>?_;refine Q3 (zK hN) E0.nd (((fun E h=>qI (qF E.len (qL h _)) (by decide):∀{r:List yD}{m:Nat},vQ FIRST16 m r->m<=3->r.length<lim)) E0 (by decide)) (by decide) (by decide) (by decide) fun t1 r1 h1 E1=>?_;have E1:=E0.trans E1;refine Q3 (zK hN) E1.nd (((fun E h=>qI (qF E.len (qL h _)) (by decide):∀{r:List yD}{m:Nat},vQ FIRST16 m r->m<=3->r.length<lim)) E1 (by decide)) (by decide) (by decide) (by decide) fun t2 r2 h2 E2=>?_;refine k [t0,t1,t2] r2 (fun j hj=>?_) (E1.trans E2)
 match j,hj with
 | 0,_=>exact⟨t0,rfl,xG (E1.pre.trans E2.pre |> fun z0=>‹vQ r0 1 r1›.pre.trans E2.pre) h0⟩
 | 1,_=>exact⟨t1,rfl,xG E2.pre h1⟩
 | 2,_=>exact⟨t2,rfl,h2⟩
end
section
variable{q8 q9:List yD}{r:xF}{N i:Nat}{Q:Kv}{K:Kf}{ps qC l:List Int}{ρ:y5}
def q3B{tl:List Sx}(hl:l.length<=63)(k:∀qC ρ',qC≠[]->qC.length<=63->ρ' "nums"=some (.lst (vI qC))->xA (y4 D N) tl ρ' K ⟨[],[]⟩):xA (y4 D N) (x4.body.take 2++tl) (y5.set xV "script" (.lst (vI l))) K ⟨[],[]⟩:=by
 have ec:cut (vI l) 0 (min 40 (vI l).length)=vI (l.take (min 40 (vI l).length)):=(List.map_take ..).symm;generalize hm:min 40 (vI l).length=m at ec;refine ft (qF ((qF (qK (qH ..)) hl:(vI l).length<=63)) (by decide)) ?_;have l2:((l.take m).map fun x:Int=>x.fmod 999983).length<=63:=by rw[qH,List.length_take]; exact qF (Nat.min_le_right ..) hl
 refine ft (by rw[hm,ec,qH,<-qH (f:=fun x:Int=>x.fmod 999983)]; exact qF l2 (by decide)) ?_;refine LC V.int (fun x:Int=>x.fmod 999983) V.int (fun h=>h) (l:=l.take m) (hm▸ec) (fun x hx K h=>⟨by decide,h⟩) ?_;generalize (l.take m).map (fun x:Int=>x.fmod 999983)=qC at l2;refine ft (qF (qK (qH ..)) (qF l2 (by decide))) ?_;refine dc (p:=(((vI qC).length:Nat):Int)=0) (fun e=>?_) fun e=>?_
 ·exact k [0,3,0,0,1,1,2,2,0,1,0,8] _ (List.cons_ne_nil _ _) (by decide) rfl
 ·exact k qC _ (fun z=>e (z▸rfl)) l2 rfl
end
noncomputable def oρ(ρ:y5)(qC own:List Int):y5:=y5.set (lρ ρ qC) "own" (.lst (vI own))
noncomputable def q6Y(ρ:y5)(qC own ps:List Int):y5:=y5.set (oρ ρ qC own) "pids" (.tup (vI ps))
noncomputable def q75(ρ:y5)(qC own ps:List Int)(t:Int)(α:yK):y5:=y5.set (y5.set (q6Y ρ qC own ps) "target" (.int t)) "aim" (uA α)
section
variable{q8 q9:List yD}{r:xF}{N i:Nat}{Q:Kv}{K:Kf}{ps qC own l:List Int}{ρ:y5}{tl:List Sx}{t:Int}{α:yK}
def I4(hN:3<=N)(nn:qC≠[])(nl:qC.length<=63)(k:∀ps,PS ps->xA (y4 D N) tl (q6Y ρ qC own ps) K (gS q8 1)):xA (y4 D N) ((x4.body.drop 6).take 1++tl) (oρ ρ qC own) K (gS q8 0):=by
 refine u4 (q8:=q8) (i:=0) (k:=3) (qF (by decide) hN) nn nl (by decide) (by decide) fun w w0 w3=>?_;refine dc (p:=w=2) (fun z0=>?_) fun z0=>?_
 ·exact k [0,2] (.inl rfl)
 ·exact k [0,1,2] (.inr rfl)
def I5(hN:60<=N)(hn:ρ "nums"=some (.lst (vI qC))) (nn:qC≠[]) (nl:qC.length<=63) (ho:rA q8 own) (h:uB 200 q8) (k:∀t α q9 i',yL q9 t α->GA 3 α->GX q8 1 110 q9 i'->xA (y4 D N) tl (q75 ρ qC own ps t α) K (gS q9 i')) :
  xA (y4 D N) ((x4.body.drop 7).take 1++tl) (q6Y ρ qC own ps) K (gS q8 1):=by
 refine lo (x:=ρ "nums") hn ?_;refine ft ((qF (qK (qH ..)) (qF nl (by decide)):(vI qC).length<=lim)) ?_;refine dc (p:=(19:Int)<(((vI qC).length:Nat):Int)) (fun z0=>?_) fun z0=>?_
 ·refine aQ (F:=7) (s:=2) (qC:=qC) (own:=own) (by decide) (iO 2) N q8 1 _ (qF (by decide) hN) ⟨h.le (by decide),by decide,nn,nl⟩ ho fun t α q9 i' h1 h2 x=>?_;exact k t α q9 i' h1 h2 (x.le (by decide))
 ·refine aQ (F:=5) (s:=1) (qC:=qC) (own:=own) (by decide) (iO 1) N q8 1 _ (qF (by decide) hN) ⟨h.le (by decide),by decide,nn,nl⟩ ho fun t α q9 i' h1 h2 x=>?_;exact k t α q9 i' h1 h2.up (x.le (by decide))
end
noncomputable def q4I(ρ:y5)(qC own ps:List Int)(t:Int)(α:yK)(s0:Int)(κ:Kd):y5:=y5.set (y5.set (q75 ρ qC own ps t α) "source" (.int s0)) "kind" (.lst (jL κ))
section
variable{q8 q9:List yD}{r:xF}{N i:Nat}{Q:Kv}{K:Kf}{ps qC own l:List Int}{ρ:y5}{tl:List Sx}{t:Int}{α:yK}
def I6(hN:60<=N)(nn:qC≠[])(nl:qC.length<=63)(h:uB 200 q8)(il:i<=200)(k:∀s0 κ q9 i',wO q9 s0 κ->GK 3 κ->GX q8 i 147 q9 i'->xA (y4 D N) tl (q4I ρ qC own ps t α s0 κ) K (gS q9 i')):
  xA (y4 D N) ((x4.body.drop 8).take 1++tl) (q75 ρ qC own ps t α) K (gS q8 i):=by
 refine u4 (q8:=q8) (i:=i) (k:=4) (qF (by decide) hN) nn nl (by decide) (qI il (by decide)) fun w w0 w4=>?_;refine dc (p:=w=0) (fun z0=>?_) fun z0=>?_
 ·refine nJ (qC:=qC) 3 (by decide) N q8 (i+1) _ (qF (by decide) hN) ⟨h.le (by decide),((fun m hm=>qI (Nat.add_le_add (qR il 1) hm) (by decide):∀m,m<=147->i+1+m<1000000000)) _ (by decide),nn,nl⟩ fun s0 κ q9 i' h1 h2 x=>?_;exact k s0 κ q9 i' h1 h2 ((((⟨h.refl,qT _⟩:GX q8 i 1 q8 (i+1))).trans x).le (by decide))
 ·refine DB (qC:=qC) (s:=2) (F:=15) (by decide) (by decide) (nJ 2 (by decide)) N q8 (i+1) _ (qF (by decide) hN) ⟨h.le (by decide),((fun m hm=>qI (Nat.add_le_add (qR il 1) hm) (by decide):∀m,m<=147->i+1+m<1000000000)) _ (by decide),nn,nl⟩ fun s0 κ q9 i' h1 h2 x=>?_;exact k s0 κ q9 i' h1 h2 ((((⟨h.refl,qT _⟩:GX q8 i 1 q8 (i+1))).trans x).le (by decide))
end
noncomputable def rG(i:Int):xF:=[some (.list [.none]),some (.list [.int (-1),.int (-1),.int (-1)]),some (.list [.int (-1),.int (-1),.int (-1)]),some (.list [.str [65],.str [66],.str [67]]),some (.dI []),some (.dI []),some (.list [.int i])]
noncomputable def bρ(ρ:y5)(qC own ps:List Int)(t:Int)(α:yK)(s0:Int)(κ:Kd):y5:=y5.set (y5.set (q4I ρ qC own ps t α s0 κ) "found" (.ref true 18)) "low" (.ref true 22)
section
variable{q8 q9:List yD}{r:xF}{N i:Nat}{Q:Kv}{K:Kf}{ps qC own l:List Int}{ρ:y5}{tl:List Sx}{t s0:Int}{α:yK}{κ:Kd}
def I7(hN:60<=N)(h:uB 0 q8)(hs:wO q8 s0 κ)(hk:GK 3 κ)(k:xA (y4 D N) tl (q4I ρ qC own ps t α s0 κ) K (gS q8 i)):xA (y4 D N) ((x4.body.drop 9).take 1++tl) (q4I ρ qC own ps t α s0 κ) K (gS q8 i):=by
 refine PK (qF (by decide) hN) h.base h.len (hk.kok (by decide)) ((qF (hk.nl4 (by decide)) (by decide):nl κ<=54)) hs ?_;refine NM (qF (by decide) hN) (hk.kok (by decide)) ((qF (hk.nl4 (by decide)) (by decide):nl κ<=54)) ?_;exact bf (congrArg not (zU rfl)) k
def I8(h:PS ps)(k:xA (y4 D N) tl (bρ ρ qC own ps t α s0 κ) K (jT q8 ps (wP []) (rG i) [])):xA (y4 D N) ((x4.body.drop 10).take 2++tl) (q4I ρ qC own ps t α s0 κ) K (gS q8 i):=by
 rcases h with rfl | rfl
 ·exact⟨19,21,18,23,25,22,k⟩
 ·exact⟨19,20,21,18,23,24,25,22,k⟩
def I9(hN:60<=N)(h:PS ps)(ha:GA 3 α)(hk:GK 3 κ)(hE:(walk ps α κ).length<lim)(k:xA (y4 D N) tl (bρ ρ qC own ps t α s0 κ) K (jT q8 ps (wP (walk ps α κ)) (rG i) [])):xA (y4 D N) ((x4.body.drop 12).take 1++tl) (bρ ρ qC own ps t α s0 κ) K (jT q8 ps (wP []) (rG i) []):=by
 exact NW h 3 α ha.dp ha.fit κ (hk.kok (by decide)) (qF (hk.nl4 (by decide)) (by decide)) N (qF (qF (qL ha.dp 14) (by decide)) hN) [] _ hE k
end
section
variable{q8 q9:List yD}{r L:xF}{B:M8}{N i d:Nat}{Q:Kv}{K:Kf}{ps qC own l:List Int}{ρ:y5}{tl:List Sx}{t s0:Int}{α:yK}{κ:Kd}
def IA(hN:60<=N)(r1:ρ "tab"=some (.ref true 0)) (r2:ρ "pids"=some (.tup (vI ps))) (k:xA (y4 D N) tl (y5.set ρ "finder" (.ref true 4)) K (fS ps (n5 q8) r L)):xA (y4 D N) ((x4.body.drop 15).take 1++tl) ρ K (tS q8 (q6O r) L):=by
 refine lo (x:=ρ "tab") r1 ?_;refine⟨6,7,?_⟩;refine q0A ((qF (by decide) hN:1<=N)) ?_;refine lo (x:=ρ "pids") r2 ?_;refine⟨8,4,5,?_⟩;exact q2T ((qF (by decide) hN:1<=N)) k
end
section
variable{q8 q9:List yD}{r L:xF}{B:M8}{N i d:Nat}{Q:Kv}{K:Kf}{ps qC own l:List Int}{ρ:y5}{tl:List Sx}{t s0:Int}{α:yK}{κ:Kd}
def FY(h:uB 6000000 q8)(hd:SC α 3 (nl κ)<=5000000):f5 ps 3 (SC α 3 (nl κ)) (n5 q8) :=
 ⟨⟨h.nd,h.base,yV,fun w p l e=>wF e,fun w=>.nil,yV⟩,rfl,(show(0:Int)+(3:Nat)<24 by decide),yV,qF (qL (qF hd (by decide)) q8.length) h.len⟩
def IB(hN:69<=N)(h:PS ps)(T:uB 6000000 q8)(ha:GA 3 α)(hx:yL q8 t α)(hs:wO q8 s0 κ)(hk:GK 3 κ)(r3:ρ "finder"=some (.ref true 4)) (r4:ρ "source"=some (.int s0)) (r5:ρ "target"=some (.int t))
  (k:∀s1 es,yZ ps (n5 q8) (SC α 3 (nl κ)) (walk ps α κ) s1->IE ps s1 [] es->xA (y4 D N) tl ρ K ⟨(fE ps s1 es r).g,L⟩):xA (y4 D N) ((x4.body.drop 16).take 1++tl) ρ K (fS ps (n5 q8) r L):=by
 refine lo (x:=ρ "finder") r3 ?_;refine lo (x:=ρ "source") r4 ?_;refine lo (x:=ρ "target") r5 ?_;exact HD (s:=n5 q8) h hN ha.dp ha.fit (qI ha.sz (by decide)) (.inl hx) hs (hk.kok (by decide)) ((qF (hk.nl4 (by decide)) (by decide):nl κ<=6)) (FY T ((qF (qF (qP _ 4) (Z9 ((qF (hk.nl4 (by decide)) (by decide):nl κ<=6)))) (by decide):SC α 3 (nl κ)<=5000000))) k
end
section
variable{ps:List Int}{k:Kd}{α:yK}{w:Bool}{t:Nat}{E:List Ev}{l:vB}{al:List (yK×Int)}
def V9(h:xB k):∀e∈M6 w ps α k,xB e.2.2:=by
 cases α with
 | i x =>
  show ∀e∈(if x∈ps then[(w,x,kU k)]else[]),_
  split
  ·exact fun e he=>qO.mp he▸(cC h).1
  ·exact yV
 | _=>exact yV
def FK{g:Int}(W:∀k,xB k->nl k<=6->∀e∈walk ps α k,xB e.2.2)(h:xB k)(n:nl k<=6):∀e∈x8 ps α g k,xB e.2.2:=by
 unfold x8
 split
 ·exact W k h n
 ·split
  ·exact V9 h
  ·exact W _ (yH h).1 (qF (yH h).2 n)
def P4(h:bE l)(W:∀β,u9 β<u9 α->j4 β->∀k,xB k->nl k<=6->∀e∈walk ps β k,xB e.2.2)(fa:j4 α){p:Pt}(hp:yO p=some l):∀e∈yU ps α p,xB e.2.2:=by
 cases α with
 | a β =>
  show ∀e∈(match yO p with
   | some (q:vB)=>walk ps β (yF (q.flatMap yR))
   | none=>[]),_
  exact(hp)▸(W β (Nat.lt_succ_self _) fa _ (jV h).1 (jV h).2.2)
 | t al =>
  rw[((by unfold yU; dsimp only; rw[hp]:yU ps (.t al) p=(if lM p||!apart (l.map (·.2)) (al.map (·.2))then jG ps (wK l (al.map (·.2))) al 0 else[])))]
  split
  ·rw[uK];intro e he;refine(List.mem_flatMap.mp he).elim fun i z=>z.elim fun hi he=>?_;have hi:=List.mem_range.mp hi;have ha:al[i]∈al:=List.getElem_mem hi;unfold xT at he;rw[zS hi]at he;cases hg:wK l (al.map (·.2)) i with
   | none=>rw[hg]at he; cases he
   | some g =>
    rw[hg]at he;exact FK (W _ (Nat.lt_succ_of_le (uX ha)) (uZ fa.1 ha)) (tZ h hg).1 (tZ h hg).2 e he
  ·exact yV
 | _=>exact yV
def XK:∀t α,u9 α<=t->j4 α->∀k,xB k->nl k<=6->∀e∈walk ps α k,xB e.2.2:=fun t=>Nat.strongRecOn t fun t ih α hd fa k hk hn e he=>by
 rw[bW]at he;refine(zH.mp he).elim (fun he=>?_) fun he=>?_
 ·exact V9 hk e he
 ·obtain⟨p,hp,he⟩:=List.mem_flatMap.mp he;cases hq:yO p with
  | some l=>exact P4 (jP (hk.pt p hp).1 (hk.pt p hp).2 hq) (fun β hb fb=>ih (u9 β) (qQ hb hd) β (qT _) fb) fa hq e he
  | none =>
   have z:yU ps α p=[]:=by
    cases p with
    | u x=>exact fW
    | a _ _=>exact wF hq.symm
    | t _ _=>exact wF hq.symm
   rw[z]at he;cases he
end
noncomputable def uT(E:List Ev)(p:Int):List Kd:=bif (wP E true p).isEmpty then wP E false p else wP E true p
noncomputable def vD(E:List Ev)(p:Int):Bool:=!(wP E true p).isEmpty||!(wP E false p).isEmpty
def q0U(E:List Ev)(p:Int):List Nat:=text (yF (uT E p).flatten)
section
variable{w:Bool}{p:Int}{k:Kd}{E:List Ev}
def vM:k∈wP E w p↔(w,p,k)∈E:=by
 constructor
 ·intro h;obtain⟨e,he,rfl⟩:=zC.mp h;exact(eq_of_beq (zE.mp (zO.mp he).2).1)▸(eq_of_beq (zE.mp (zO.mp he).2).2)▸(zO.mp he).1
 ·exact fun h=>zC.mpr ⟨_,zO.mpr ⟨h,by simp⟩,rfl⟩
def E5:nl (wP E w p).flatten<=eH E:=by
 induction E with
 | nil=>exact qT _
 | cons e r ih =>
  unfold wP at ih ⊢;rw[List.filter_cons,((rfl:eH (e::r)=nl e.2.2+eH r))]
  split
  ·rw[List.map_cons,List.flatten_cons,vY];exact qL ih _
  ·exact qF ih (qP ..)
def bQ:nl (uT E p).flatten<=eH E:=by
 unfold uT;cases (wP E true p).isEmpty <;> exact E5
def fX(h:∀e∈E,xB e.2.2):∀k∈uT E p,xB k:=by
 unfold uT;cases (wP E true p).isEmpty <;> exact fun k hk=>h _ (vM.mp hk)
def sX:vD E p=true↔∃w k,(w,p,k)∈E:=by
 unfold vD;rw[Bool.or_eq_true_iff,((fun {l}=>by cases l <;> simp:∀{l:List Kd},(!l.isEmpty)=true↔∃k,k∈l)),((fun {l}=>by cases l <;> simp:∀{l:List Kd},(!l.isEmpty)=true↔∃k,k∈l))];exact⟨fun h=>h.elim (fun h=>h.elim fun k z=>⟨true,k,vM.mp z⟩) fun h=>h.elim fun k z=>⟨false,k,vM.mp z⟩,fun h=>v4 h fun w k z=>match w,z with
  | true,z=>.inl ⟨k,vM.mpr z⟩
  | false,z=>.inr ⟨k,vM.mpr z⟩⟩
end
section
variable{w:Bool}{p:Int}{k:Kd}{E:List Ev}{ps:List Int}{s:Fs}{q8:List yD}{n:Nat}{l:List Int}
def sQ(st:yZ ps (n5 q8) n E s)(e:Ev):XR s e↔e∈E:=(st.ev e).trans ⟨fun h=>h.elim (fun h=>h.elim fun l z=>wF z.1) id,.inr⟩
def F0(st:yZ ps (n5 q8) n E s)(e:x9 (s.bag w) p=some l)(hw:w=false->x9 (s.bag true) p=none):uT E p=wP E w p:=by
 refine(List.exists_mem_of_ne_nil l (st.inv.bg w p l e).2.1).elim fun t ht=>?_;refine wI ((st.inv.bg w p l e).2.2 t ht) fun k hs hk=>?_;unfold uT;cases w with
 | true =>
  have m:k∈wP E true p:=vM.mpr ((sQ st _).mp ⟨l,e,t,ht,hs,hk⟩);cases h:wP E true p with
  | nil=>rw[h]at m; cases m
  | cons _ _=>rfl
 | false =>
  cases h:wP E true p with
  | nil=>rfl
  | cons k' r =>
   refine wI ((sQ st (true,p,k')).mpr (vM.mp (h▸.head _))) fun l' z z0=>?_;exact DW (z.symm.trans (hw rfl))
def US(st:yZ ps (n5 q8) n E s)(e:x9 (s.bag w) p=some l):∃z:List (Int×Kd),z.map (·.1)=l/\(∀q∈z,wO s.q8 q.1 q.2/\xB q.2/\q.2∈wP E w p):=by
 have i:=(st.inv.bg w p l e).2.2;have H:∀m:List Int,(∀t∈m,t∈l)->∃z:List (Int×Kd),z.map (·.1)=m/\(∀q∈z,wO s.q8 q.1 q.2/\xB q.2/\q.2∈wP E w p):=by
  intro m
  induction m with
  | nil=>exact fun z0=>⟨[],rfl,yV⟩
  | cons t m ih =>
    intro hm;refine qG fun ng=>?_;refine(ih fun x hx=>hm x (.tail _ hx)).elim fun z zz=>?_;refine wI (i t (hm t (.head _))) fun k hs hk=>?_;refine ng ?_;exact⟨(t,k)::z,congrArg (t::·) zz.1,zB.mpr ⟨⟨hs,hk,vM.mpr ((sQ st _).mp ⟨l,e,t,hm t (.head _),hs,hk⟩)⟩,zz.2⟩⟩
 exact H l fun z0 h=>h
end
section
variable{w:Bool}{p:Int}{k:Kd}{E:List Ev}{ps:List Int}{s:Fs}{q8:List yD}{n:Nat}{l:List Int}
def sV{ks:List Kd}(h:∀k∈ks,xB k):yY ks.flatten=true:=xW fun p hp=>(List.mem_flatten.mp hp).elim fun k z=>wU.mp (wD (h k z.1).fit) p z.2
def G0(st:yZ ps (n5 q8) n E s)(e:x9 (s.bag w) p=some l)(hw:w=false->x9 (s.bag true) p=none):
  ∃z:List (Int×Kd),z.map (·.1)=l/\(∀q∈z,wO s.q8 q.1 q.2/\xB q.2)/\yF (z.map (·.2)).flatten=yF (uT E p).flatten/\∀x,x∈(z.map (·.2)).flatten↔x∈(uT E p).flatten:=by
 refine(US st e).elim fun z zz=>?_;rw[F0 st e hw];have ke:∀k,k∈z.map (·.2)↔k∈wP E w p:=fun k=>by
  constructor
  ·intro h;obtain⟨q,hq,rfl⟩:=zC.mp h;exact(zz.2 q hq).2.2
  ·intro h;refine qG fun ng=>?_;obtain⟨l',e',t,ht,hs,hk⟩:=(sQ st (w,p,k)).mpr (vM.mp h);refine ng ?_;cases e.symm.trans e';obtain⟨q,hq,rfl⟩:=zC.mp (zz.1▸ht);have y:=zz.2 q hq;exact zC.mpr ⟨q,hq,mA (xX st.inv.base) y.2.1.fit hk.fit y.2.1.can hk.can y.1 hs⟩
 have kk:∀k∈z.map (·.2),xB k:=List.forall_mem_map.mpr fun q hq=>(zz.2 q hq).2.1;have fe:∀x,x∈(z.map (·.2)).flatten↔x∈(wP E w p).flatten:=fun x=>by
  rw[List.mem_flatten,List.mem_flatten];exact⟨fun h=>h.elim fun k y=>⟨k,(ke k).mp y.1,y.2⟩,fun h=>h.elim fun k y=>⟨k,(ke k).mpr y.1,y.2⟩⟩
 exact⟨z,zz.1,fun q hq=>⟨(zz.2 q hq).1,(zz.2 q hq).2.1⟩,fM (sV kk) (sV fun k hk=>kk k ((ke k).mpr hk)) fe,fe⟩
def g5{ks:List Kd}(h:∀k∈ks,xB k)(hn:nl ks.flatten<=54):xB (yF ks.flatten)/\nl (yF ks.flatten)<=54 :=
 ⟨(u8.join (ps:=ks.flatten) fun p hp=>(List.mem_flatten.mp hp).elim fun k z=>(h k z.1).pt p z.2).1,qF (u8.join (ps:=ks.flatten) fun p hp=>(List.mem_flatten.mp hp).elim fun k z=>(h k z.1).pt p z.2).2 hn⟩
end
noncomputable def q5K(ps:List Int)(f:Bool->Int->Option Ob)(r:xF):xF:=UR ps 19::f true 0::f true 1::f true 2::UR ps 23::f false 0::f false 1::f false 2::r
noncomputable def KD(q8:List yD)(ps:List Int)(f:Bool->Int->Option Ob)(r L:xF):St:=tS q8 (q6O (q5K ps f r)) L
def p8(E:List Ev)(dn:List Int):List (Int×V):=(dn.filter (vD E)).map fun p=>(p,.str (q0U E p))
def q5P(C:yA)(ρ:y5)(K:Kf):Kv:=SI (aX C [] ρ) fun vs σ=>sI C (.fn "_law_join") vs (SI (aX C [] ρ) fun vs σ=>sI C (.fn "_law_text") vs (jZ (we C (.loc "due") ρ) fun v=>jZ (we C (.loc "k") ρ) (LY ρ K v)) σ) σ
section
variable{w:Bool}{p:Int}{E:List Ev}{ps dn rs:List Int}{q8:List yD}{f:Bool->Int->Option Ob}{r L:xF}{N:Nat}{ρ:y5}{K:Kf}{tl:List Sx}
def F1(h:PS ps)(hp:p∈ps):(KD q8 ps f r L).at true (bX w+1+p.toNat)=f w p/\(KD q8 ps f r L).set .dead true (bX w+1+p.toNat)=KD q8 ps (kJ f w p .dead) r L:=by
 refine h.all (P:=fun p=>(KD q8 ps f r L).at true (bX w+1+p.toNat)=f w p/\(KD q8 ps f r L).set .dead true (bX w+1+p.toNat)=KD q8 ps (kJ f w p .dead) r L) hp ?_ ?_ ?_ <;> cases w <;> exact⟨rfl,rfl⟩
def AS(hp:p∈ps){K:V->Prop}(k:K (.ref true (bX w+1+p.toNat))):q1P (KD q8 ps f r L) .subd (.ref true (bX w)) (.int p) K:=by
 refine q0P (es:=ps.map fun p=>(p,V.ref true (bX w+1+p.toNat))) (by cases w <;> rfl) ?_;exact sv (lR.trans (by rw[qX.mpr hp]; rfl)) k
def o5(hl:E.length<lim):((wP E w p).map kv).length<=lim:=z9 (qI (qF (qK (qH ..)) KV) hl)
def q67(h:PS ps)(hp:p∈ps)(hf:f w p=some (.list ((wP E w p).map kv))){Q:Kv}(k:Q (.lst ((wP E w p).map kv)) (KD q8 ps (kJ f w p .dead) r L)):q51 Q (.ref true (bX w+1+p.toNat)) (KD q8 ps f r L) :=
 HP ((F1 h hp).1.trans hf) (Eq.mpr (congrArg (Q _) (F1 h hp).2) k)
def VJ{g:Int->V}{l:List Int}(h:p∉l):y8 (l.map fun q=>(q,g q)) p=none:=by
 induction l with
 | nil=>rfl
 | cons x l ih =>
  exact(if_neg (show ¬x=p from fun e=>h (e▸.head _))).trans (ih fun m=>h (.tail _ m))
def KS:p8 E (dn++[p])=p8 E dn++bif vD E p then[(p,.str (q0U E p))]else[]:=by
 unfold p8;rw[List.filter_append,qU,List.filter_cons];cases vD E p <;> rfl
def A2(hN:60<=N)(h:PS ps)(hp:p∈ps)(hE:∀e∈E,xB e.2.2)(hn:eH E<=54)(hf:f w p=some (.list ((wP E w p).map kv)))(pk:uT E p=wP E w p)(hv:vD E p=true)(nd:p∉dn)(dl:dn.length<=3)(r4:ρ "k"=some (.int p)) (r5:ρ "due"=some (.ref false 0))
  {x:String} (rx:ρ x=some (.ref true (bX w))) (k:K .next ρ (KD q8 ps (kJ f w p .dead) r [some (.dI (p8 E (dn++[p])))])) :
  we (y4 D N) (.subf (.loc x) (.loc "k")) ρ (q5P (y4 D N) ρ K) (KD q8 ps f r [some (.dI (p8 E dn))]):=by
 refine lo rx ?_;refine lo r4 ?_;refine AS (w:=w) (q8:=q8) (f:=f) (r:=r) (L:=[some (.dI (p8 E dn))]) hp ?_;refine q67 h hp hf ?_;refine mU (ks:=wP E w p) (qF (by decide) hN) rfl (fun z0 z0 h=>h) (fun k hk=>(pk▸(fX (p:=p) hE):∀k∈wP E w p,xB k) k hk |> fun z=>⟨z.fit,z.dp⟩) (tX (((congrArg List.flatten pk.symm:(wP E w p).flatten=(uT E p).flatten))▸qF bQ hn)) ?_;rw[((congrArg List.flatten pk.symm:(wP E w p).flatten=(uT E p).flatten))];refine NM (qF (by decide) hN) (g5 (fX (p:=p) hE) (qF bQ hn)).1 (g5 (fX (p:=p) hE) (qF bQ hn)).2 ?_;have l0:y8 (p8 E dn) p=none:=VJ fun z=>nd (zO.mp z).1;refine lo r5 ?_;refine lo r4 ?_;refine fd (qI (qF (qK (qH ..)) (qF (List.length_filter_le ..) dl)) (by decide)) ?_;rw[KS,hv]at k;rw[aE l0];exact k
def q3T{a:Bool}(h:(!a)=true):a=false:=by cases a <;> first | rfl | cases h
def q0G{p q:Int}(n:q≠p){x:Ob}{w':Bool}:kJ f w p x w' q=f w' q:=by
 unfold kJ;rw[zV.mpr n,Bool.and_false]; rfl
def q3E(hN:60<=N)(h:PS ps)(hE:∀e∈E,xB e.2.2)(hn:eH E<=54)(hl:E.length<lim)(r1:ρ "pids"=some (.tup (vI ps))) (r2:ρ "found"=some (.ref true 18)) (r3:ρ "low"=some (.ref true 22))
  (k:∀g f,xA (y4 D N) tl (y5.mix (y5.set ρ "due" (.ref false 0)) ["k"] g) K (KD q8 ps f r [some (.dI (p8 E ps))])) :
  xA (y4 D N) ((x4.body.drop 13).take 2++tl) ρ K (jT q8 ps (wP E) r []):=by
 refine lo (x:=ρ "pids") r1 ?_;refine lg ["k"] V.int (fun g:(Bool->Int->Option Ob)×List Int=>KD q8 ps g.1 r [some (.dI (p8 E g.2))]) (fun rs g=>g.2++rs=ps/\∀w,∀q∈rs,g.1 w q=some (.list ((wP E w q).map kv))) (g0:=(JA ps (wP E),[])) rfl (fun g f i=>?_) (fun p rs g f i W kw=>?_)
  ⟨rfl,fun w q hq=>by show(bif ps.contains q then _ else none)=_; rw[qX.mpr hq]; rfl⟩
 ·have e:f.2=ps:=(qS _).symm.trans i.1;exact(e)▸(k g f.1)
 ·obtain⟨f,dn⟩:=f;have ie:dn++p::rs=ps:=i.1;have hp:p∈ps:=ie▸zM _ (.head _);have i2:=fun w=>i.2 w p (.head _);have fin:∀w,vD E p=true->uT E p=wP E w p->W (y5.set (y5.mix (y5.set ρ "due" (.ref false 0)) ["k"] g) "k" (.int p)) (KD q8 ps (kJ f w p .dead) r [some (.dI (p8 E (dn++[p])))]):=fun w hv pk =>
   kw _ (kJ f w p .dead,dn++[p]) (.set .mix rfl) ⟨(qZ dn [p] rs).trans ie,fun w' q hq=>(q0G (((fun q hq e=>(List.nodup_cons.mp (List.nodup_append.mp (ie▸h.nd)).2.1).1 (e▸hq):∀q∈rs,q≠p)) q hq)).trans (i.2 w' q (.tail _ hq))⟩
  have sg:=fun w {K:V->Prop}=>AS (w:=w) (q8:=q8) (f:=f) (r:=r) (L:=[some (.dI (p8 E dn))]) hp (K:=K);have li:=fun w {K:List V->Prop}=>HP (K:=K) ((F1 (q8:=q8) (w:=w) (r:=r) (L:=[some (.dI (p8 E dn))]) h hp).1.trans (i2 w));have em:=fun w=>List.isEmpty_map (f:=kv) (l:=wP E w p);refine lo r2 ?_;refine sg true ?_;refine li true (ft (o5 hl) ?_);refine bc (b:=!((wP E true p).map kv).isEmpty) (fun e=>?_) fun e=>?_
  ·have e':=e;rw[em true]at e;have pk:uT E p=wP E true p:=by unfold uT; rw[q3T e]; rfl
   have hv:vD E p=true:=by unfold vD; rw[e]; rfl
   refine lo r2 ?_;refine sg true ?_;refine li true (ft (o5 hl) ?_);refine bt e' ?_;exact A2 (w:=true) hN h hp hE hn (i2 true) pk hv ((fun z=>(List.nodup_append.mp (ie▸h.nd)).2.2 p z p (.head _) rfl:p∉dn)) ((qF (qF (qJ _ _) (qK (qM.symm.trans (congrArg List.length ie)))) h.len:dn.length<=3)) rfl rfl r2 (fin true hv pk)
  ·have e':=e;rw[em true]at e;refine lo r3 ?_;refine sg false ?_;refine li false (ft (o5 hl) ?_);refine bc (b:=!((wP E false p).map kv).isEmpty) (fun e2=>?_) fun e2=>?_
   ·rw[em false]at e2;have hv:vD E p=true:=by unfold vD; rw[e2,Bool.or_true]
    refine lo r2 ?_;refine sg true ?_;refine li true (ft (o5 hl) ?_);refine bf e' ?_;exact A2 (w:=false) hN h hp hE hn (i2 false) ((by unfold uT; rw[((by rw[<-Bool.not_not (wP E true p).isEmpty,e]; rfl:(wP E true p).isEmpty=true))]; rfl:uT E p=wP E false p)) hv ((fun z=>(List.nodup_append.mp (ie▸h.nd)).2.2 p z p (.head _) rfl:p∉dn)) ((qF (qF (qJ _ _) (qK (qM.symm.trans (congrArg List.length ie)))) h.len:dn.length<=3)) rfl rfl r3 (fin false hv ((by unfold uT; rw[((by rw[<-Bool.not_not (wP E true p).isEmpty,e]; rfl:(wP E true p).isEmpty=true))]; rfl:uT E p=wP E false p)))
   ·rw[em false]at e2;have z:=kw (y5.set (y5.mix (y5.set ρ "due" (.ref false 0)) ["k"] g) "k" (.int p)) (f,dn++[p]) (.set .mix rfl) ⟨(qZ dn [p] rs).trans ie,fun w' q hq=>i.2 w' q (.tail _ hq)⟩;dsimp only at z;rw[((by rw[KS,((by unfold vD; rw[e2,((by rw[<-Bool.not_not (wP E true p).isEmpty,e]; rfl:(wP E true p).isEmpty=true))]; rfl:vD E p=false))]; exact qS _:p8 E (dn++[p])=p8 E dn))]at z;exact z
end
end
section
open PySem
section
variable{w:Bool}{p:Int}{E:List Ev}{ps dn rs ks ms l:List Int}{q8 q9:List yD}{s:Fs}{es:List (Int×V)}{r L:xF}{N n:Nat}{α:Type}{g:Int->α}
def HQ(h:p∉es.map (·.1)):y8 es p=none:=by
 induction es with
 | nil=>rfl
 | cons x l ih =>
  show(if x.1=p then some x.2 else y8 l p)=none;exact(if_neg (show ¬x.1=p from fun e=>h (e▸.head _))).trans (ih fun m=>h (.tail _ m))
def UB(i:IE ps s [] es)(hp:p∈es.map (·.1)):∃w l,y8 es p=some (.ref true (fa w+1+p.toNat))/\x9 (s.bag w) p=some l/\(w=false->x9 (s.bag true) p=none):=by
 have d:=i.done p (i.ks p hp) qW;unfold fT fL at d;rw[(bO (bg:=s.bag true) (a:=9) (p:=p)),(bO (bg:=s.bag false) (a:=13) (p:=p))]at d;cases h1:x9 (s.bag true) p with
 | some l=>rw[h1]at d; exact⟨true,l,d,h1,fun e=>j0 e⟩
 | none =>
  rw[h1]at d;cases h2:x9 (s.bag false) p with
  | some l=>rw[h2]at d; exact⟨false,l,d,h2,fun z0=>rfl⟩
  | none=>rw[h2]at d; exact absurd hp (Y6 d)
def TZ(st:yZ ps (n5 q8) n E s)(i:IE ps s [] es):p∈es.map (·.1)↔p∈ps.filter (vD E):=by
 rw[zO]
 constructor
 ·intro hp;refine qG fun ng=>?_;refine uL (UB i hp) fun w l z0 e z0=>?_;have b:=st.inv.bg w p l e;refine(List.exists_mem_of_ne_nil l b.2.1).elim fun t ht=>?_;refine wI (b.2.2 t ht) fun k hs hk=>?_;refine ng ?_;exact⟨b.1,sX.mpr ⟨w,k,(sQ st _).mp ⟨l,e,t,ht,hs,hk⟩⟩⟩
 ·rintro⟨hp,he⟩
  refine v4 (sX.mp he) fun w k he=>?_;refine wI ((sQ st (w,p,k)).mpr he) fun l e z0=>?_;have d:=i.done p hp qW;unfold fT fL at d;rw[bO,bO]at d;have e:x9 (s.bag w) p=some l:=e;refine Decidable.byContradiction fun z=>?_;rw[HQ z]at d;cases w with
  | true=>rw[e]at d; exact wF d
  | false =>
   rw[e]at d;cases h1:x9 (s.bag true) p <;> rw[h1]at d <;> exact wF d
def H9(h:p∈ms):((ms.map fun q=>(q,g q)).find? fun f=>f.1==p)=some (p,g p):=by
 induction ms with
 | nil=>cases h
 | cons x l ih =>
  rw[List.map_cons,List.find?_cons];cases e:x==p with
  | true=>exact eq_of_beq e▸rfl
  | false=>exact ih ((qV.mp h).resolve_left fun z=>zV.mp e z.symm)
def OI(hk:ks.Nodup)(hm:ms.Nodup)(h:∀p,p∈ks↔p∈ms):(ks.map fun q=>(q,g q)).length=(ms.map fun q=>(q,g q)).length/\∀e∈ks.map fun q=>(q,g q),((ms.map fun q=>(q,g q)).find? fun f=>f.1==e.1)=some e :=
 ⟨by rw[qH,qH]; exact((List.perm_ext_iff_of_nodup hk hm).mpr h).length_eq,fun e he=>(zC.mp he).elim fun q z=>z.2▸H9 ((h q).mp z.1)⟩
def q4P:l.map (fun z0=>V.int 0)=List.replicate (l.map tv).length (V.int 0):=by
 rw[qH];exact List.map_const'
theorem e9:∀n:Nat,PyData.canLayAll0 (bB (List.replicate n (V.int 0)))=true/\PyData.depthAll (bB (List.replicate n (V.int 0)))=0
 | 0=>⟨rfl,rfl⟩
 | n+1=>⟨(e9 n).1,(congrArg (max 0) (e9 n).2 :)⟩
def IF:((xR (.lst (List.replicate n (.int 0)))).canLay0&&((xR (.lst (List.replicate n (.int 0)))).canLay0&&Nat.ble (xR (.lst (List.replicate n (.int 0)))).depth 20))=true :=
 kQ (show PyData.canLayAll0 _=true from(e9 n).1) (kQ (show PyData.canLayAll0 _=true from(e9 n).1) (by
  show Nat.ble (PyData.depthAll (bB (List.replicate n (V.int 0)))+1) 20=true;rw[(e9 n).2]; rfl))
def q2R:(!PyData.eqv (xR (.lst (List.replicate n (.int 0)))) (xR (.lst (List.replicate n (.int 0)))))=false:=congrArg not (SeqAt.eqv_refl (xR (.lst (List.replicate n (.int 0)))) (e9 n).1)
end
end
section
def XF(E:List Ev)(dn:List Int):List (Int×V):=dn.map fun p=>(p,.str (q0U E p))
def FQ(ps:List Int)(E:List Ev)(s:Fs)(es:List (Int×V))(r:xF)(q8:List yD)(L:xF):St:=tS q8 (gX ps s.c s.lv s.lw (fun w=>bif w then es else gW (s.bag false) 13) (fun w p=>V4 (s.bag w) p) s.seen s.holds r) (some (.dI (p8 E ps))::L)
section
variable{w:Bool}{p:Int}{E:List Ev}{ps dn rs ks ms l:List Int}{q8 q9:List yD}{s:Fs}{es:List (Int×V)}{r L:xF}{N n:Nat}{ρ:y5}{K:Kf}
def q3Q{m:Nat}{K:V->Prop}(h:m<=lim)(k:K (.lst (List.replicate m (.int 0)))):ZE .mulL (.lst [.int 0]) (.int m) K:=⟨.int 0,m,rfl,rfl,h,k⟩
def q0C(hN:60<=N)(h:PS ps)(st:yZ ps (n5 q8) n E s)(hE:∀e∈E,xB e.2.2)(hn:eH E<=54)(hp:p∈ps)(lk:y8 es p=some (.ref true (fa w+1+p.toNat)))(hb:x9 (s.bag w) p=some l)(hw:w=false->x9 (s.bag true) p=none)(ll:l.length<=lim)(T:uB 1 q9)(pr:s.q8 <+: q9)(nd:p∉dn)(dl:dn.length<=3)
  (r1:ρ "tab"=some (.ref true 0)) (r2:ρ "finder"=some (.ref true 4)) (r4:ρ "pid"=some (.int p)) (r5:ρ "told"=some (.ref false 1)) (k:∀qB,vQ q9 1 qB->K .next (y5.set ρ "rows" (.ref true (fa w+1+p.toNat))) (FQ ps E s es r qB [some (.dI (XF E (dn++[p])))])) :
  xA (y4 D N) (o8 (x4.body.getD 18 .bad)) ρ K (FQ ps E s es r q9 [some (.dI (XF E dn))]):=by
 have hj:∀q9 L,(FQ ps E s es r q9 L).at true (fa w+1+p.toNat)=some (.list (l.map tv)):=fun q9 L=>(mQ h hp).1.trans (by unfold V4; rw[hb]; rfl);have fl:(l.map tv).length<=lim:=qF (qK (qH ..)) ll;refine(G0 st hb hw).elim fun z zz=>?_;refine lo r2 ?_;refine lo r4 ?_;refine sv lk ?_;refine HP (hj _ _) (ft fl ?_);refine aW tv (fun z0=>V.int 0) (fun x=>⟨hj _ _,x⟩) rfl (fun x hx K' hK=>hK) ?_;refine HP (hj _ _) (ft fl ?_);refine q3Q fl ?_;rw[q4P];refine kt IF ?_;refine bf q2R ?_;refine lo r1 ?_;refine lo r1 ?_;refine HP (hj _ _) (ft fl ?_);refine aW tv V.int (fun x=>⟨hj _ _,x⟩) rfl (fun x hx K' hK=>hK) ?_;rw[(by rw[<-zz.1,qY]; rfl:l.map V.int=z.map fun q=>V.int q.1)];refine QV (l:=z) (qF (by decide) hN) T.nd T.base T.lt rfl (fun z0 z0 k=>k) (fun q hq=>(zz.2.1 q hq).1.mono pr) (fun q hq=>(zz.2.1 q hq).2.fit) (fun q hq=>(zz.2.1 q hq).2.nodup) ?_ fun t qB hs E2=>?_
 ·exact KY (tX (qF (bQ (p:=p)) hn)) fun x hx=>(zz.2.2.2 x).mp hx
 rw[zz.2.2.1]at hs;refine PK (qF (by decide) hN) (T.base.trans E2.pre) (qF E2.len T.len) (g5 (fX (p:=p) hE) (qF bQ hn)).1 (g5 (fX (p:=p) hE) (qF bQ hn)).2 hs ?_;refine lo r5 ?_;refine lo r4 ?_;refine fd (qI (qF (qK (qH ..)) dl) (by decide)) ?_;have l0:y8 (XF E dn) p=none:=VJ nd;rw[aE l0];have k:=k qB E2;unfold XF at k ⊢;rw[qU]at k;exact k
end
section
variable{w:Bool}{p:Int}{E:List Ev}{ps dn rs ks ms l:List Int}{q8 q9:List yD}{s:Fs}{es:List (Int×V)}{r L:xF}{N n:Nat}{ρ:y5}{K:Kf}
def q3F(hN:60<=N)(h:PS ps)(st:yZ ps (n5 q8) n E s)(hE:∀e∈E,xB e.2.2)(hn:eH E<=54)(i:IE ps s [] es)(T:uB 10 s.q8)(sl:s.sz<=lim)(r1:ρ "tab"=some (.ref true 0)) (r2:ρ "finder"=some (.ref true 4)) (r3:ρ "due"=some (.ref false 0)) :
  xA (y4 D N) (x4.body.drop 17) ρ LQ (FQ ps E s es r s.q8 []):=by
 refine lo r2 ?_;have el:=i.len h;have km:∀p,p∈sortI (es.map (·.1))↔p∈es.map (·.1):=fun p=>(xH _).mem_iff;have kn:(sortI (es.map (·.1))).Nodup:=(xH _).nodup_iff.mpr i.nd;have kl:(sortI (es.map (·.1))).length<=3:=by rw[(xH _).length_eq,qH]; exact el
 refine⟨es.map (·.1),rfl,by rw[qH]; exact qI el (by decide),?_⟩;generalize sortI (es.map (·.1))=ks at km kn kl;refine lg ["pid","rows"] V.int (fun g:List yD×List Int=>FQ ps E s es r g.1 [some (.dI (XF E g.2))]) (fun rs g=>g.2++rs=ks/\vQ s.q8 g.2.length g.1) (g0:=(s.q8,[])) rfl (fun f g z=>?_) (fun p rs f g z W kw=>?_) ⟨rfl,T.refl⟩
 ·refine lo r3 ?_;refine⟨ks.map fun q=>(q,q0U E q),(ps.filter (vD E)).map fun q=>(q,q0U E q),true,?_,?_,⟨fun z0=>(OI (g:=q0U E) kn (h.nd.filter (vD E)) fun p=>(km p).trans (TZ st i)),fun z0=>rfl⟩,rfl⟩
  ·rw[qY]; exact(((qS _).symm.trans z.1:g.2=ks))▸rfl
  ·rw[qY]; rfl
 ·refine qG fun ng=>?_;obtain⟨q9,dn⟩:=g;have ie:dn++p::rs=ks:=z.1;have hk:p∈ks:=ie▸zM _ (.head _);refine uL (UB i ((km p).mp hk)) fun w l lk hb hw=>?_;refine ng ?_;refine q0C (s:=s) hN h st hE hn (i.ks p ((km p).mp hk)) lk hb hw (qF (qF (KB hb) QT) sl) (((T.le (a:=dn.length+1) (qF (z7 ((qF (qF (qJ _ _) (qK (qM.symm.trans (congrArg List.length ie)))) kl:dn.length<=3))) (by decide))).ext z.2:uB 1 q9)) z.2.pre ((fun y=>(List.nodup_append.mp (ie▸kn)).2.2 p y p (.head _) rfl:p∉dn)) ((qF (qF (qJ _ _) (qK (qM.symm.trans (congrArg List.length ie)))) kl:dn.length<=3)) r1 r2 rfl rfl fun qB E2=>?_;exact kw _ (qB,dn++[p]) (.set (.set .mix rfl) rfl) ⟨(qZ dn [p] rs).trans ie,(z.2.trans E2).le (qK (qM (bs:=[p])).symm)⟩
end
section
variable{b:List Sx}{C:yA}{ρ:y5}{K:Kf}{σ:St}{q8:List yD}{s:Fs}{ps:List Int}{n:Nat}{E:List Ev}
def TT(n m:Nat)(h:xA C ((b.drop n).take m++b.drop (n+m)) ρ K σ):xA C (b.drop n) ρ K σ:=by
 rw[<-List.drop_drop,List.take_append_drop]at h;exact h
def q74:uB (3+(110+(147+6000000))) FIRST16:=⟨n8,List.prefix_refl _,by decide⟩
def KU(st:yZ ps (n5 q8) n E s)(hn:n<=5000000)(T:uB 6000000 q8):uB 10 s.q8/\s.sz<=lim :=
 ⟨⟨st.inv.nd,st.inv.base,qF (qR (qF ((qF (qF (qF (qJ ..) (qJ ..)) (qJ ..)) (qJ ..):s.q8.length<=s.sz)) ((qF st.sz (qL hn _):s.sz<=q8.length+5000000))) 10) (qF (qK (Nat.add_assoc ..)) (qF (qL (by decide) _) T.len))⟩,qF ((qF st.sz (qL hn _):s.sz<=q8.length+5000000)) (qF (qL (by decide) _) T.len)⟩
def law_all:c4 300:=fun l hl ρ hρ=>by
 rw[<-((qN hρ:y5.set xV "script" (.lst (vI l))=ρ))];have N60:60<=300:=by decide
 refine TT 0 2 (q3B hl fun qC ρ1 nn nl hn=>?_);refine q3C (by decide) hn (q3D (by decide) fun own r1 ho E1=>?_);have T1:=q74.ext E1;refine TT 6 1 (I4 (by decide) nn nl fun ps hps=>?_);refine TT 7 1 (I5 N60 hn nn nl ho (T1.le (by decide)) fun t α r2 i2 ha ga x2=>?_);have T2:=T1.ext x2.ext;refine TT 8 1 (I6 N60 nn nl (T2.le (by decide)) (qF x2.il (by decide)) fun s0 κ r3 i3 hs hk x3=>?_);have T3:=T2.ext x3.ext;have n6:Mine.nl κ<=6:=qF (hk.nl4 (by decide)) (by decide);have hn54:eH (walk ps α κ)<=54:=qF (tK (ps:=ps) 3 α ga.dp ga.fit κ (hk.kok (by decide)) n6).1 (qF (hk.c 3) (qF (SA 3 (by decide)) (by decide)));refine TT 9 1 (I7 N60 (T3.le (by decide)) hs hk ?_);refine TT 10 2 (I8 hps ?_);refine TT 12 1 (I9 N60 hps ga hk ((qI (tK (ps:=ps) 3 α ga.dp ga.fit κ (hk.kok (by decide)) n6).2 (by decide):(walk ps α κ).length<lim)) ?_);refine TT 13 2 (q3E N60 hps (XK (ps:=ps) 3 α ga.dp ga.fit κ (hk.kok (by decide)) n6) hn54 ((qI (tK (ps:=ps) 3 α ga.dp ga.fit κ (hk.kok (by decide)) n6).2 (by decide):(walk ps α κ).length<lim)) rfl rfl rfl fun g f=>?_);refine TT 15 1 (IA N60 rfl rfl ?_);refine TT 16 1 (IB (by decide) hps T3 ga (ha.mono x3.ext.pre) hs hk rfl rfl rfl fun s1 es st ie=>?_);exact q3F N60 hps st (XK (ps:=ps) 3 α ga.dp ga.fit κ (hk.kok (by decide)) n6) hn54 ie (KU st (qF (qF (qP _ 4) (Z9 n6)) (by decide)) T3).1 (KU st (qF (qF (qP _ 4) (Z9 n6)) (by decide)) T3).2 rfl rfl rfl
end
end
end Mine
theorem PySem.Challenge.cw_qd0084_01_holds : PySem.Challenge.rw_qd0084_01.Holds :=
 MineH.h (Mine.law_w Mine.law_all (by decide))
