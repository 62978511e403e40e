import PyProof.Rows.All
import Wide.All
import OpenK.AllK
import Wide.FinOn
import KE.BitLaws
import Lean
import PySem.Challenge.RW_qd0154_01
set_option autoImplicit false
set_option tactic.hygienic false
set_option genSizeOf false
set_option genSizeOfSpec false
set_option genInjectivity false
set_option bootstrap.genMatcherCode false
set_option backward.match.sparseCases false
set_option compiler.extract_closed false
set_option linter.all false
set_option Elab.async false
set_option maxRecDepth 100000
namespace Mine
open PySem PySem.W PyProof.Rows
section
set_option maxRecDepth 1000000
set_option genCtorIdx false in
inductive V where
 | none
 | bool (b:Bool)
 | int (i:Int)
 | str (s:Str)
 | tup (l:List V)
 | lst (l:List V)
 | rk (ks:List Str) (vs:List V)
 | obj (C:Addr) (ks:List Str) (vs:List V)
 | ref (a:Addr)
 | con (v:Value)
 | q8 (a b c:Int)
inductive Bi where
 | len|abs|ord|chr|min|max|sum|isin|rA|m8|jI|bp
 | append|extend|pop|index|reverse|find|isalpha|join|rstrip
noncomputable def Bi.val:Bi->Value
 | .len=> .builtin "len"| .abs=> .builtin "abs"| .ord=> .builtin "ord"| .chr=> .builtin "chr"| .min=> .builtin "min"| .max=> .builtin "max"
 | .sum=> .builtin "sum"| .isin=> .builtin "isinstance"| .rA=> .type "int"| .m8=> .type "str"| .jI=> .type "list"| .bp=> .type "range"
 | .append=> .builtin "list.append"| .extend=> .builtin "list.extend"| .pop=> .builtin "list.pop"| .index=> .builtin "list.index"| .reverse=> .builtin "list.reverse"
 | .find=> .builtin "str.find"| .isalpha=> .builtin "str.isalpha"| .join=> .builtin "str.join"| .rstrip=> .builtin "str.rstrip"
noncomputable def xB:List (Str×V):= [("STAR", .int (-1)),("NO_COUNT", .int (-2)),("FIGURES_numbers", .str "0123456789"),("FIGURES_packtemplate", .str "0123456789"),("SPACES", .str " \t\n\r\x0c\x0b"),
 ("FIXED", .rk ["c","C","s","S","l","L","q","Q","i","I","j","J","n","N","v","V"] [.int 1, .int 1, .int 2, .int 2, .int 4, .int 4, .int 8, .int 8, .int 4, .int 4, .int 8, .int 8, .int 2, .int 4, .int 2, .int 4]),
 ("LETTERS", .str "cCsSlLqQiIjJnNvVwUaAZbBhHuxX@."),("ORDERED", .str "sSlLqQiIjJ"),("BANGED", .str "sSiIlLnNvVxX@."),("MOVERS", .str "xX@."),("BLANKS", .str " \t\n\r\x0c"),("DEEPEST", .int 20),("MOST_FIGURES", .int 9),
 ("BLANK_OCTETS", .lst [.int 0, .int 9, .int 10, .int 11, .int 12, .int 13, .int 32]),("int", .con (.type "int")),("str", .con (.type "str")),("Ref", .con (.ref 157))]
noncomputable def Cx:Bi->Str
 | .len=>"len"| .abs=>"abs"| .ord=>"ord"| .chr=>"chr"| .min=>"min"| .max=>"max"| .sum=>"sum"| .isin=>"isinstance"| .rA=>"int"| .m8=>"str"| .jI=>"list"| .bp=>"range"
 | _=>""
noncomputable abbrev cH:Addr:=21
noncomputable abbrev dH:Addr:=28
noncomputable abbrev c8:Addr:=35
noncomputable abbrev bG:Addr:=42
noncomputable abbrev fx:Addr:=189
noncomputable abbrev dY:Addr:=196
noncomputable abbrev cC:Addr:=273
noncomputable abbrev cE:Addr:=280
noncomputable abbrev dC:Addr:=315
noncomputable abbrev dJ:Addr:=322
noncomputable abbrev eZ:Addr:=329
noncomputable abbrev b8:Addr:=336
noncomputable abbrev cb:Addr:=343
noncomputable abbrev dj:Addr:=400
noncomputable abbrev f9:Addr:=407
noncomputable abbrev cf:Addr:=414
noncomputable abbrev aP:Addr:=428
noncomputable abbrev ae:Addr:=435
noncomputable abbrev aA:Addr:=442
noncomputable abbrev b9:Addr:=456
noncomputable abbrev dE:Addr:=463
noncomputable abbrev dD:Addr:=470
noncomputable abbrev ej:Addr:=477
noncomputable abbrev cp:Addr:=484
noncomputable abbrev eK:Addr:=491
noncomputable abbrev eM:Addr:=498
noncomputable abbrev c5:Addr:=505
noncomputable abbrev df:Addr:=512
noncomputable abbrev aF:Addr:=519
noncomputable abbrev ja:Addr:=533
noncomputable abbrev bR:Addr:=554
noncomputable abbrev bc:Addr:=568
noncomputable abbrev dh:Addr:=575
noncomputable abbrev dI:Addr:=582
noncomputable abbrev di:Addr:=587
noncomputable abbrev bu:Addr:=594
noncomputable abbrev cI:Addr:=601
noncomputable abbrev cJ:Addr:=608
noncomputable abbrev aL:Addr:=615
noncomputable abbrev eX:Addr:=622
noncomputable abbrev dG:Addr:=629
noncomputable abbrev c0:Addr:=636
noncomputable abbrev c6:Addr:=643
noncomputable abbrev eY:Addr:=657
noncomputable abbrev eo:Addr:=664
noncomputable abbrev c7:Addr:=671
noncomputable abbrev cq:Addr:=678
noncomputable abbrev bP:Addr:=685
noncomputable abbrev dg:Addr:=692
noncomputable abbrev dF:Addr:=697
noncomputable abbrev ax:Addr:=712
noncomputable abbrev bC:Addr:=734
noncomputable abbrev bg:Addr:=748
noncomputable abbrev bQ:Addr:=755
noncomputable abbrev cg:Addr:=762
noncomputable abbrev bO:Addr:=769
noncomputable abbrev bf:Addr:=776
noncomputable abbrev dB:Addr:=781
noncomputable abbrev dz:Addr:=788
noncomputable abbrev cA:Addr:=795
noncomputable abbrev cZ:Addr:=802
noncomputable abbrev dA:Addr:=816
noncomputable abbrev cY:Addr:=830
noncomputable abbrev b0:Addr:=837
noncomputable abbrev bE:Addr:=851
noncomputable abbrev bx:Addr:=858
noncomputable abbrev bA:Addr:=863
noncomputable abbrev aC:Addr:=870
noncomputable abbrev dM:Addr:=877
noncomputable abbrev gb:Addr:=884
noncomputable abbrev ai:Addr:=891
noncomputable abbrev dk:Addr:=898
noncomputable abbrev bI:Addr:=905
noncomputable abbrev da:Addr:=910
noncomputable abbrev cj:Addr:=917
noncomputable abbrev dZ:Addr:=924
noncomputable abbrev cL:Addr:=931
noncomputable abbrev ay:Addr:=938
noncomputable abbrev dT:Addr:=943
noncomputable abbrev cK:Addr:=950
noncomputable abbrev dN:Addr:=955
noncomputable abbrev aN:Addr:=960
noncomputable abbrev c9:Addr:=967
noncomputable abbrev aM:Addr:=972
noncomputable abbrev et:Addr:=979
noncomputable abbrev bz:Addr:=986
noncomputable abbrev dm:Addr:=991
noncomputable abbrev mW:Addr:=996
noncomputable abbrev az:Addr:=715
noncomputable abbrev a9:Addr:=557
noncomputable abbrev aa:Addr:=445
noncomputable abbrev aH:Addr:=737
noncomputable def oA:List (Str×Addr):= [(("wrap_number":Str),cH),(("number_head":Str),dH),(("numeric_text":Str),c8),(("number_text":Str),bG),(("to_text":Str),fx),(("to_number":Str),dY),(("row_of_number":Str),cC),(("number_of_row":Str),cE),(("row_of_bits":Str),dC),(("bits_of_row":Str),dJ),(("nibble_of":Str),eZ),(("row_of_nibbles":Str),b8),(("nibbles_of_row":Str),cb),(("fixed_size":Str),dj),(("has_sign":Str),f9),(("is_big_first":Str),cf),(("read_figures":Str),b9),(("read_length":Str),dE),(("read_repeat":Str),dD),(("read_marks":Str),ej),(("in_order":Str),cp),(("read_one":Str),eK),(("pass_by":Str),eM),(("read_counted":Str),c5),(("read_items":Str),df),(("parse_template":Str),aF),(("moved":Str),ja),(("values_left":Str),bc),(("next_value":Str),dh),(("next_number":Str),dI),(("next_codes":Str),di),(("lay_octets":Str),bu),(("lay_noughts":Str),cI),(("go_to_place":Str),cJ),(("count_of_item":Str),aL),(("pack_text":Str),eX),(("pack_digits":Str),dG),(("row_of_value":Str),c0),(("pack_numbers":Str),c6),(("pack_move":Str),eY),(("pack_group":Str),eo),(("pack_counted":Str),c7),(("count_step":Str),cq),(("pack_item":Str),bP),(("pack_items":Str),dg),(("pack_values":Str),dF),(("octets_left":Str),bg),(("note_value":Str),bQ),(("note_step":Str),cg),(("repeat_of":Str),bO),(("take_octets":Str),bf),(("text_of_row":Str),dB),(("unpack_text":Str),dz),(("unpack_digits":Str),cA),(("unpack_fixed":Str),cZ),(("unpack_move":Str),dA),(("unpack_group":Str),cY),(("unpack_counted":Str),b0),(("unpack_item":Str),bE),(("unpack_items":Str),bx),(("unpack_values":Str),bA),(("_law_sizes":Str),aC),(("_law_values":Str),dM),(("_law_pen":Str),gb),(("_law_draw":Str),ai),(("_law_plain":Str),dk),(("_law_ordered":Str),bI),(("_law_item":Str),da),(("_law_text":Str),cj),(("_law_size":Str),dZ),(("_law_is_big":Str),cL),(("_law_times":Str),ay),(("_law_row":Str),dT),(("_law_nibble":Str),cK),(("_law_digits":Str),dN),(("_law_laid_one":Str),aN),(("_law_laid":Str),c9),(("_law_read_one":Str),aM),(("_law_worth":Str),et),(("_law_read":Str),bz),(("_law_heard":Str),dm),(("law":Str),mW),(("Limits":Str),az),(("Packer":Str),a9),(("TemplateReader":Str),aa),(("Unpacker":Str),aH)]
noncomputable def p6:List ((Addr×Str)×Addr):= [((aa,"peek"),ae),((aa,"skip"),aA)]
noncomputable def tA:List Addr:= [cH,dH,c8,bG,fx,dY,cC,cE,dC,dJ,eZ,b8,cb,dj,f9,cf,aP,ae,aA,b9,dE,dD,ej,cp,eK,eM,c5,df,aF,ja,bR,bc,dh,dI,di,bu,cI,cJ,aL,eX,dG,c0,c6,eY,eo,c7,cq,bP,dg,dF,ax,bC,bg,bQ,cg,bO,bf,dB,dz,cA,cZ,dA,cY,b0,bE,bx,bA,aC,dM,gb,ai,dk,bI,da,cj,dZ,cL,ay,dT,cK,dN,aN,c9,aM,et,bz,dm,mW]
noncomputable def fieldsOf:List (Addr×List Str):=
 [(aa,["text","at"]),(a9,["out","values","at","starts","limits","steps","length"]),(aH,["data","at","found","starts","limits","steps"]),(az,["width","depth","steps","text","items"])]
noncomputable def kY:List (Addr×Str):=fieldsOf.flatMap λp=>p.2.map λx=>(p.1,x)
noncomputable def sj:List Str:= ["width","depth","steps","text","items"]
noncomputable def ky:List V:= [.int 64, .int 50, .int 1000000, .int 100000, .int 10000]
noncomputable def uN (C D:Addr):List Value:= [.ref C, .ref D, .type "Exception", .type "BaseException", .type "object"]
noncomputable abbrev pG:List Value:= [.type "Exception", .type "BaseException", .type "object"]
noncomputable abbrev eW:List Str:= ["c","C","s","S","l","L","q","Q","i","I","j","J","n","N","v","V"]
abbrev P0:Program:=PySem.Challenge.pw_qd0154_01
noncomputable def wq (A8:SharedT->Thread->Option (SharedT×Thread))(Bv thr:Thread->Bool)(n:Nat):SharedT->Thread->Option SharedT:=
 Nat.rec (λξ ξ=>none) (λξ ih s t=>match thr t with
  | true=>some s
  | false=>match Bv t with
   | false=>none
   | true=>match A8 s t with
    | some (s',t')=>ih s' t'
    | none=>none) n
theorem tv {tb:String->Option Builtin}{p:Program}{w:World}{n₀:Nat}{ann:Option Value}:∀(n:Nat) (s:SharedT) (t:Thread) (s':SharedT),wq (stepT (denote tb) p w) (stepOk n₀ ann) through n s t=some s'->topRun tb p w n₀ ann n s.abs t=some s'.abs
 | 0,_,_,_,h=>nomatch h
 | n+1,s,t,s',h=>by
  have h:(match through t with
   | true=>some s
   | false=>match stepOk n₀ ann t with
    | false=>none
    | true=>match stepT (denote tb) p w s t with
     | some (s',t')=>wq (stepT (denote tb) p w) (stepOk n₀ ann) through n s' t'
     | none=>none)=some s':=h
  unfold topRun
  cases e1:through t with
  | true=>rw [e1] at h;cases h;rfl
  | false=>
   rw [e1] at h
   cases e2:stepOk n₀ ann t with
   | false=>rw [e2] at h;cases h
   | true=>
    rw [e2] at h
    cases e3:stepT (denote tb) p w s t with
    | none=>rw [e3] at h;cases h
    | some x=>
     rw [e3] at h
     rw [stepT_spec (s':=x.1) (t':=x.2) e3]
     exact tv n x.1 x.2 s' h
noncomputable def Gf:List Obj->Nat->BT->BT
 | [],_,t=>t
 | o::l,n,t=>Gf l (n+1) (t.ins n o)
noncomputable def S0 (P:Params)(os:OsState):SharedT:=⟨Gf (boot_heap P).objs.toList 0 .nil,11,(boot_heap P).life, #[],boot_drawn,boot_toks,os⟩
theorem Cg (P:Params)(os:OsState):(S0 P os).abs=⟨boot_heap P, #[],boot_drawn,boot_toks,os⟩:=by kernel_rfl
noncomputable def A8 (w:World):SharedT->Thread->Option (SharedT×Thread):=PySem.W.Fast.tw10156331382660048174 (PySem.W.Fast.tw11892475500146522536 PySem.W.Fast.tw14364793385576792824) P0 w
noncomputable def Bv:Thread->Bool:=PySem.W.Fast.tw6613529449190102663 11 (some (.ref 6))
theorem A7 (w:World):A8 w=stepT (denote treeTable) P0 w:=by
 unfold A8
 rw [<-PySem.W.Fast.te10156331382660048174, <-PySem.W.Fast.te11892475500146522536, <-PySem.W.Fast.te14364793385576792824]
theorem Bu:Bv=stepOk 11 (some (.ref 6)):=by
 unfold Bv
 rw [<-PySem.W.Fast.te6613529449190102663]
noncomputable def AG:Addr:=233
noncomputable def Gn:List Bi:= [.len, .abs, .ord, .chr, .min, .max, .sum, .isin, .jI, .bp]
noncomputable def G2:List (Str×V):=xB++((Gn.map λb=>(Cx b,V.con b.val))++((oA.map λp=>(p.1,V.con (.ref p.2)))++ [(Str.ofString "Die",V.con (.ref AG))]))
noncomputable def vInt (i:Int):Value->Bool
 | .int j _=>decide (i=j)
 | _=>false
noncomputable def vStr (s:Str):Value->Bool
 | .str t _=>decide (s=t)
 | _=>false
noncomputable def refOf (v:Value):Option Addr:=match v with
 | .ref a=>some a
 | _=>none
noncomputable def nS (o:Obj):Option (List Value):=match o.data with
 | .seq items _=>some items.toList
 | _=>none
noncomputable def xK (o:Obj):Option (List DictEntry):=match o.data with
 | .dict es _=>some es.toList
 | _=>none
noncomputable def bare (o:Obj)(T:String):Bool:=o.cls== .type T&&o.dict.isNone&&o.slots.isEmpty
noncomputable def DC (x:V)(v:Value):Bool:=match x with
 | .int i=>vInt i v
 | _=>false
noncomputable def kS (l:List V)(vs:List Value):Bool:=match l with
 | []=>vs.isEmpty
 | x::r=>match vs with
  | []=>false
  | v::q=>DC x v&&kS r q
noncomputable def n8 (ks:List Str)(es:List DictEntry):Bool:=match ks with
 | []=>es.isEmpty
 | k::r=>match es with
  | []=>false
  | e::q=>vStr k e.key&&n8 r q
noncomputable def wB (K:Frag)(x:V)(v:Value):Bool:=match x with
 | .int i=>vInt i v
 | .str s=>vStr s v
 | .con c=>c==v
 | .lst l=>(refOf v).any λa=>(K.lookup a).any λo=>bare o "list"&&(nS o).any (kS l)
 | .rk ks vs=>(refOf v).any λa=>decide (a=393)&&(K.lookup a).any λo=>bare o "dict"&&(xK o).any λes=>n8 ks es&&kS vs (es.map (·.val))
 | _=>false
noncomputable def oa (K:Frag):Option (List Int):=(K.lookup 393).bind λo=>(xK o).map λes=>es.map (·.hash)
noncomputable def mG (P:Params):List Str->List Int
 | []=> []
 | k::r=>PyData.keyHash P k::mG P r
noncomputable def nc:List (Nat×Nat×Nat):= [(0,3,0),(1,4,0),(2,5,0),(3,6,0),(4,19,0),(5,20,0),(6,28,0),(7,29,0),(8,34,0),(9,35,0),(10,36,0),(11,37,0),(12,38,0),(13,58,0),(14,59,0),(15,60,0),(16,61,1),(17,61,2),(18,61,3),(19,62,0),(20,63,0),(21,64,0),(22,65,0),(23,66,0),(24,67,0),(25,68,0),(26,69,0),(27,70,0),(28,71,0),(29,73,0),(30,76,1),(31,77,0),(32,78,0),(33,79,0),(34,80,0),(35,81,0),(36,82,0),(37,83,0),(38,84,0),(39,85,0),(40,86,0),(41,87,0),(42,88,0),(43,90,0),(44,91,0),(45,92,0),(46,93,0),(47,94,0),(48,95,0),(49,96,0),(51,101,1),(52,102,0),(53,103,0),(54,104,0),(55,105,0),(56,106,0),(57,107,0),(58,108,0),(59,109,0),(60,110,0),(61,112,0),(62,114,0),(63,115,0),(64,117,0),(65,118,0),(66,119,0),(68,122,0),(69,123,0),(70,124,0),(71,125,0),(72,126,0),(73,127,0),(74,128,0),(75,129,0),(76,130,0),(77,131,0),(78,132,0),(79,133,0),(80,134,0),(81,135,0),(82,136,0),(83,137,0),(84,138,0),(85,139,0),(86,140,0),(87,141,0)]
abbrev FD:=Arguments×List Stmt×Scope
noncomputable def Gm:Stmt->Option FD×List Stmt
 | .FunctionDef _ a b _ _ _ sc _ _ _=>(some (a,b,sc),[])
 | .ClassDef _ _ _ b _ _ _ _ _ _ _=>(none,b)
 | _=>(none,[])
noncomputable def xN (s:Option Stmt):Option FD:=s.bind λs=>(Gm s).1
noncomputable def zW (s:Option Stmt):List Stmt:=(s.map λs=>(Gm s).2).getD []
noncomputable def defAt (p:Nat×Nat):Option FD:=match p.2 with
 | 0=>xN P0.main.body[p.1]?
 | j+1=>xN (zW P0.main.body[p.1]?)[j]?
abbrev FV:=Arguments×FuncBody×Scope×(Addr×Addr)×Bool×Value
noncomputable def Av (o:Obj):Option FuncData:=match o.data with
 | .func fd=>some fd
 | _=>none
noncomputable def ui (K:Frag)(a:Addr):Option FV:=(K.lookup a).bind λo=>(Av o).map λfd=>(fd.params,fd.body,fd.scope,(fd.globals,fd.builtins),fd.closure.isEmpty&&codeIn K fd.code fd.qualname,fd.defaults)
noncomputable def qs (K:Frag):List (Nat×Nat×Nat)->List (Option FV)
 | []=> []
 | t::r=>(tA[t.1]?.bind (ui K))::qs K r
noncomputable def tw:List (Nat×Nat×Nat)->List (Option FV)
 | []=> []
 | t::r=>((defAt t.2).map λd=>(d.1, .stmts d.2.1,d.2.2,(mainGlobals,builtinsNs),true, .none))::tw r
noncomputable abbrev rg (d:FD)(dv:Value):FV:=(d.1, .stmts d.2.1,d.2.2,(mainGlobals,builtinsNs),true,dv)
noncomputable def xE:List (Option FV):= [(defAt (22,1)).map λd=>rg d .none,(defAt (23,1)).map λd=>rg d .none,(defAt (121,0)).map λd=>rg d .none,(defAt (98,1)).map λd=>rg d (.ref 705)]
noncomputable def xV (K:Frag):List (Option FV):= [210,230,aC,ax].map (ui K)
noncomputable def gtB:List (Str×V):=G2++ [(Str.ofString "PerlError",V.con (.ref 213)),(Str.ofString "Exception",V.con (.type "Exception"))]
noncomputable def gB (K:Frag)(p:Str×V):Bool:=match nsIn K mainGlobals p.1 with
 | some (some v)=>wB K p.2 v
 | some none=>(match nsIn K builtinsNs p.1 with
  | some (some v)=>wB K p.2 v
  | _=>false)
 | none=>false
noncomputable def El (K:Frag)(C:Addr)(x:Str):Bool:=
 findIn K (.ref C) "__getattribute__"==some (some (.builtin "object.__getattribute__"))&&hasDictIn K C&&findIn K (.ref C) x==some none&&
 findIn K (.ref C) "__setattr__"==some (some (.builtin "object.__setattr__"))&&plainOver K C&&takerIn K C x==some none&&(clsIn K C).any (·.hasDict)
noncomputable def Eb (K:Frag)(C:Addr)(x:Str)(f:Addr):Bool:=
 keepIn K (.ref f)&&findIn K (.ref C) "__getattribute__"==some (some (.builtin "object.__getattribute__"))&&findIn K (.ref C) "__getattr__"==some none&&findIn K (.ref C) x==some (some (.ref f))&&typeIn K (.ref f)==some (.type "function")
noncomputable def Ec (K:Frag)(C f:Addr):Bool:=makesIn K C&&findIn K (.ref C) "__init__"==some (some (.ref f))&&typeIn K (.ref f)==some (.type "function")
noncomputable def DJ (o:Obj):Option ClassData:=match o.data with
 | .cls cd=>some cd
 | _=>none
noncomputable def G' (K:Frag):Bool:=(K.lookup 233).any λo=>o.cls== .type "type"&&decide (o.slots.toList.length=6)&&o.slots.toList[4]?==some (some (.builtin "Exception.__new__"))&&(DJ o).any λcd=>cd.mro==uN 233 213&& !cd.hasDel&&cd.hasDict
noncomputable def G9 (c:CFound):Option Addr:=match c with
 | .val v=>refOf v
 | .get _ _ _ _=>none
noncomputable def zR (K:Frag):Bool:=
 G' K&&keepIn K (.ref 233)&&findIn K (.ref 233) "__setattr__"==some (some (.builtin "object.__setattr__"))&&findIn K (.ref 233) "__init__"==some (some (.ref 230))&&typeIn K (.ref 230)==some (.type "function")&&
 findIn K (.ref 233) "text"==some none&&findIn K (.ref 233) "value"==some none&&specialIn K (.ref 213) "__getattribute__"==some (some (.builtin "type.__getattribute__"))&&readsIn K 213 (.type "type")&&
 ((findCls K (.ref 213) (.type "type") "__init__").any λc=>G9 c==some 210)&&keepIn K (.ref 210)
noncomputable def zo:List (Addr×Addr):= [(aa,aP),(a9,bR),(aH,bC),(az,ax)]
noncomputable def Fx (K:Frag):Bool:=
 gtB.all (gB K)&&(kY.all λp=>El K p.1 p.2)&&(p6.all λp=>Eb K p.1.1 p.1.2 p.2)&&(oA.all λp=>keepIn K (.ref p.2))&&isNotIn K "str" 157&&(zo.all λp=>Ec K p.1 p.2)&&zR K&&
 ((K.lookup 705).any λo=>(nS o).any (kS ky))
noncomputable def EG (l:List (Nat×Nat×Nat)):List Addr:=l.flatMap λt=>match tA[t.1]? with
 | some a=> [a-1,a]
 | none=> []
noncomputable def Cf:List Addr:= [0,2,3,157,156,209,210,212,213,229,230,232,233,393,444,445,556,557,711,712,714,715,705,720,736,737,aC-1,aC]++EG nc
noncomputable def ug (h:Heap):Frag:=Cf.filterMap λa=>(h.get? a).map λo=>(a,o)
noncomputable def qL:Program:=view P0 [141]
noncomputable def yk:List Str:=P0.boundNames.filter λn=>n != ("law":Str)
noncomputable def mods:List Str:=importedModules P0.main.body
noncomputable def Ef (w:World)(s:Shared):Bool:=staticsOk mods (boot_heap w.params) s.heap&&namesBound P0 s.heap&&gensDone s&&laidKept (boot_heap w.params) s.heap
noncomputable def BE (s:Shared):=PySem.W.Fast.tw4187177175401517315 qL yk mods (λξ=>true) true s
noncomputable def wF (b:Bool)(w:World):World:=World.withFollow w "special-get-raises" b
noncomputable def rM (b:Bool)(w:World)(os:OsState):Option SharedT:=wq (A8 (wF b w)) Bv through 20000 (S0 (wF b w).params os) (topStub P0)
abbrev YT:=Bool×List (Option FV)×List (Option FV)×Option (List Int)
noncomputable def yK (K:Frag):YT:=(Fx K,qs K nc,xV K,oa K)
noncomputable def G3 (s:Heap)(a:Addr):Option (Addr×Obj):=(s.get? a).map λo=>(a,o)
noncomputable def qP (s:SharedT):Frag:=Cf.filterMap λa=>match Nat.blt a s.n with
 | true=>(alive ((s.tree.get a).getD default)).map λo=>(a,o)
 | false=>none
noncomputable def Yf (s:Shared):YT:=yK (ug s.heap)
noncomputable def Ya (w:World):YT:=(true,tw nc,xE,some (mG w.params eW))
end
section
set_option maxRecDepth 1000000
set_option backward.match.sparseCases true in
noncomputable def Ea (K:Frag)(ns:Addr)(x:Str):Option (Option Value):=match K.lookup ns with
 | some ⟨_,_, .dict es _,_⟩=>(match es.toList.find? (PySem.W.Fast.tw995047462949696687 ·.key x) with
   | some e=>some (some e.val)
   | none=>if es.toList.any (·.refKey) then none else some none)
 | _=>none
theorem wW (K:Frag)(ns:Addr)(x:Str):Ea K ns x=nsIn K ns x:=by
 unfold Ea;rw [<-PySem.W.Fast.te995047462949696687];rfl
noncomputable def Fy (K:Frag)(p:Str×V):Bool:=match Ea K mainGlobals p.1 with
 | some (some v)=>wB K p.2 v
 | some none=>(match Ea K builtinsNs p.1 with
  | some (some v)=>wB K p.2 v
  | _=>false)
 | none=>false
theorem BS (K:Frag):Fy K=gB K:=by funext p;unfold Fy;rw [wW,wW];rfl
noncomputable def DG (K:Frag):Bool:=
 gtB.all (Fy K)&&(kY.all λp=>El K p.1 p.2)&&(p6.all λp=>Eb K p.1.1 p.1.2 p.2)&&(oA.all λp=>keepIn K (.ref p.2))&&isNotIn K "str" 157&&(zo.all λp=>Ec K p.1 p.2)&&zR K&&
 ((K.lookup 705).any λo=>(nS o).any (kS ky))
noncomputable def CD (K:Frag):YT:=(DG K,qs K nc,xV K,oa K)
theorem AJ (K:Frag):CD K=yK K:=by unfold CD DG;rw [BS];rfl
noncomputable def BX (l:List Str)(k:Str):Bool:= @List.contains Str (@instBEqOfDecidableEq Str PySem.W.Fast.sDec) l k
noncomputable def Ge (h:Heap):Bool:=h.isNs mainGlobals&&(h.nsKeys mainGlobals).all λk=>BX startupNames k||BX P0.boundNames k
noncomputable def xh (w:World)(s:Shared):Bool:=staticsOk mods (boot_heap w.params) s.heap&&Ge s.heap&&gensDone s&&laidKept (boot_heap w.params) s.heap
theorem zx (w:World)(s:Shared):xh w s=Ef w s:=by unfold xh Ge BX;rw [<-PySem.W.Fast.sDec_eq];rfl
theorem Dd:∀(w:World) (os:OsState),(rM false w os).map (λs=>(xh (wF false w) s.abs,BE s.abs))=some (true,openGood qL yk):=by intro w os;kernel_rfl
theorem C2:∀(w:World) (os:OsState),(rM false w os).map (λs=>CD (qP s))=some (Ya (wF false w)):=by intro w os;kernel_rfl
theorem Dc:∀(w:World) (os:OsState),(rM true w os).map (λs=>(xh (wF true w) s.abs,BE s.abs))=some (true,openGood qL yk):=by intro w os;kernel_rfl
theorem C1:∀(w:World) (os:OsState),(rM true w os).map (λs=>CD (qP s))=some (Ya (wF true w)):=by intro w os;kernel_rfl
end
section
set_option maxRecDepth 1000000
theorem zM (s:SharedT):ug s.abs.heap=qP s:=by
 unfold ug qP
 congr 1
 funext a
 show ((absHeap s.tree s.n s.life).get? a).map _=_
 unfold Heap.get?
 rw [absHeap_at]
 cases q:Nat.blt a s.n with
 | true=>
  rw [if_pos (Nat.blt_eq.mp q)]
  generalize (s.tree.get a).getD default=o
  obtain ⟨c,d,dt,sl⟩:=o
  cases dt<;>rfl
 | false=>rw [if_neg λz=>by rw [Nat.blt_eq.mpr z] at q;cases q];rfl
noncomputable abbrev rL:OpenRow:=PySem.Challenge.rw_qd0154_01.row
theorem wj {b:Bool}{w:World}{os:OsState}(e:wF b w=w)(h1:(rM b w os).map (λs=>(xh (wF b w) s.abs,BE s.abs))=some (true,openGood qL yk))(h2:(rM b w os).map (λs=>CD (qP s))=some (Ya (wF b w))):
  ∃s,wq (A8 w) Bv through 20000 (S0 w.params os) (topStub P0)=some s/\Ef w s.abs=true/\BE s.abs=openGood qL yk/\Yf s.abs=Ya w:=by
 unfold rM at h1 h2
 rw [e] at h1 h2
 obtain ⟨s,a,b⟩:=Option.map_eq_some_iff.mp h1
 obtain ⟨s',a',b3⟩:=Option.map_eq_some_iff.mp h2
 obtain rfl:=Option.some.inj (a.symm.trans a')
 obtain ⟨b1,b2⟩:=Prod.mk.inj b
 exact ⟨s,a,(zx w _).symm.trans b1,b2,by unfold Yf;rw [zM, <-AJ];exact b3⟩
theorem y7 (w:World)(os:OsState):∃s,wq (A8 w) Bv through 20000 (S0 w.params os) (topStub P0)=some s/\Ef w s.abs=true/\BE s.abs=openGood qL yk/\Yf s.abs=Ya w:=by
 have e:=World.withFollow_self w "special-get-raises"
 cases hb:w.params.followText "special-get-raises"<;>rw [hb] at e
 ·exact wj e (Dd w os) (C2 w os)
 ·exact wj e (Dc w os) (C1 w os)
theorem BD (s:Shared):BE s=openSeen qL yk (importedModules P0.main.body) (λξ=>true) true s:=by
 unfold BE mods
 rw [<-PySem.W.Fast.te4187177175401517315]
theorem zy:LeftO P0 qL yk (λξ=>true) Yf Ya 20000:=λw=>by
 obtain ⟨⟨h,gs,d,k,os⟩,e,e'⟩:=Option.map_eq_some_iff.mp (boot_open (p:=P0) (N:=20000) (by kernel_rfl) (by decide) (λs=>by kernel_rfl) w)
 obtain ⟨rfl,rfl,rfl,rfl⟩:h=boot_heap w.params/\gs=Array.mk []/\d=boot_drawn/\k=boot_toks:=by simpa using e'
 obtain ⟨s,r,l1,l2,l3⟩:=y7 w os
 rw [A7,Bu] at r
 have r:=tv _ _ _ _ r
 rw [Cg] at r
 have z1:((boot_heap w.params).isNs mainGlobals&&(Array.mk []:Array GenState).size==0)=true:=by kernel_rfl
 have z2:(boot_heap w.params).objs.size=11:=by kernel_rfl
 have z3:(boot_heap w.params).nsMap mainGlobals "__annotations__"=some (.ref 6):=by kernel_rfl
 have t:topFrom treeTable P0 w 20000 ⟨boot_heap w.params,Array.mk [],boot_drawn,boot_toks,os⟩=some s.abs:=by
  unfold topFrom
  dsimp only
  rw [z1,z2,z3,r]
  show (match Ef w s.abs with|true=>_|false=>_)=_
  rw [l1]
 unfold openEnds
 rw [e,Option.bind_some,t,Option.map_some]
 exact congrArg some (Prod.ext ((BD _).symm.trans l2) l3)
set_option maxHeartbeats 8000000 in
theorem xg:looksOpen P0=true:=by
 unfold looksOpen
 repeat' with_reducible apply look_both
 all_goals decide+kernel
set_option maxHeartbeats 8000000 in
theorem zh:rL.partSaid=true:=by
 unfold OpenRow.partSaid
 repeat' with_reducible apply look_both
 ·exact xg
 all_goals decide+kernel
set_option maxHeartbeats 8000000 in
theorem tn:rL.wellSaid=true:=by
 unfold OpenRow.wellSaid
 repeat' with_reducible apply look_both
 ·exact zh
 all_goals decide+kernel
set_option maxHeartbeats 8000000 in
theorem xj:PySem.Challenge.rw_qd0154_01.wellSaid=true:=by
 unfold OpenLaw.wellSaid
 repeat' with_reducible apply look_both
 ·exact tn
 all_goals decide+kernel
theorem zY:P0.bare:=⟨rfl,rfl,rfl,rfl,rfl,by decide+kernel⟩
theorem yD:(chainsOk qL&&opensWell rL.prog&&(frees rL.toRowW&&rL.within.isEmpty))=true:=by decide+kernel
theorem AN:rL.toRowW.promised:=RowW.promised_of_found (by decide+kernel)
noncomputable def dL:DefRec×List (Str×Expr):=(defOf qL rL.name).getD ⟨⟨"",⟨[],[],none,[],[],none,[]⟩,[],⟨.function,[],false,false,[]⟩,⟨0,0,0,0⟩⟩,[]⟩
theorem BW:defOf qL rL.name=some (dL.1,dL.2):=by kernel_rfl
theorem A2:rL.prog.theDef rL.name=some (dL.1.params,dL.1.body,dL.1.scope):=by kernel_rfl
theorem Dv:kwWritten? dL.1.params.kwonlyargs dL.1.params.kw_defaults=some dL.2:=by kernel_rfl
theorem Dk:dL.1.name=Str.ofString "law":=by kernel_rfl
end
section
section
variable {x y p q r s t u v w:Nat}
theorem lA (h:p<=q)(k:x+q<=y+p:=by simp+arith only [Nat.reducePow]):x<=y:=Nat.le_of_add_le_add_right (Nat.le_trans k (Nat.add_le_add_left h y))
theorem lB (h:p<=q)(i:r<=s)(k:x+(q+s)<=y+(p+r):=by simp+arith only [Nat.reducePow]):x<=y:=lA (Nat.add_le_add h i) k
theorem lC (h:p<=q)(i:r<=s)(j:t<=u)(k:x+(q+s+u)<=y+(p+r+t):=by simp+arith only [Nat.reducePow]):x<=y:=lB (Nat.add_le_add h i) j k
theorem lD (h:p<=q)(i:r<=s)(j:t<=u)(l:v<=w)(k:x+(q+s+u+w)<=y+(p+r+t+v):=by simp+arith only [Nat.reducePow]):x<=y:=lC (Nat.add_le_add h i) j l k
theorem lE {p' q':Nat}(h:p<=q)(i:r<=s)(j:t<=u)(l:v<=w)(o:p'<=q')(k:x+(q+s+u+w+q')<=y+(p+r+t+v+p'):=by simp+arith only [Nat.reducePow]):x<=y:=lD (Nat.add_le_add h i) j l o k
theorem qA (h:p=q)(k:x+q=y+p:=by simp+arith only [Nat.reducePow]):x=y:=Nat.add_right_cancel (k.trans (congrArg (y+·) h))
theorem qB (h:p=q)(i:r=s)(k:x+(q+s)=y+(p+r):=by simp+arith only [Nat.reducePow]):x=y:=qA (by rw [h,i]) k
theorem qC (h:p=q)(i:r=s)(j:t=u)(k:x+(q+s+u)=y+(p+r+t):=by simp+arith only [Nat.reducePow]):x=y:=qB (by rw [h,i]) j k
theorem fA (h:p<=q)(k:q+1<=p:=by simp+arith only [Nat.reducePow]):False:=Nat.not_le_of_lt k h
theorem fB (h:p<=q)(i:r<=s)(k:q+s+1<=p+r:=by simp+arith only [Nat.reducePow]):False:=fA (Nat.add_le_add h i) k
theorem fC (h:p<=q)(i:r<=s)(j:t<=u)(k:q+s+u+1<=p+r+t:=by simp+arith only [Nat.reducePow]):False:=fB (Nat.add_le_add h i) j k
theorem eL (h:p=q):p<=q:=Nat.le_of_eq h
theorem eR (h:p=q):q<=p:=Nat.le_of_eq h.symm
theorem sA (p q:Nat):p<=p-q+q:=by omega
theorem sC (h:q<=p):p-q+q<=p:=Nat.le_of_eq (Nat.sub_add_cancel h)
theorem nL (h:¬p<=q):q<p:=Nat.lt_of_not_le h
theorem nT (h:¬p<q):q<=p:=Nat.le_of_not_lt h
theorem mA (h:p<=q)(k:x+q<=y+p:=by simp+arith only [Nat.reducePow,Nat.add_mul,Nat.mul_add,Nat.one_mul]):x<=y:=lA h k
theorem mB (h:p<=q)(i:r<=s)(k:x+(q+s)<=y+(p+r):=by simp+arith only [Nat.reducePow,Nat.add_mul,Nat.mul_add,Nat.one_mul]):x<=y:=lB h i k
theorem mC (h:p<=q)(i:r<=s)(j:t<=u)(k:x+(q+s+u)<=y+(p+r+t):=by simp+arith only [Nat.reducePow,Nat.add_mul,Nat.mul_add,Nat.one_mul]):x<=y:=lC h i j k
theorem mD (h:p<=q)(i:r<=s)(j:t<=u)(l:v<=w)(k:x+(q+s+u+w)<=y+(p+r+t+v):=by simp+arith only [Nat.reducePow,Nat.add_mul,Nat.mul_add,Nat.one_mul]):x<=y:=lD h i j l k
theorem qS (h:p<q-r):p+r<q:=Nat.add_lt_of_lt_sub h
theorem D6 (p:Nat):p<=p/8*8+7:=by omega
theorem D7 (p:Nat):p<=p/2*2+1:=by omega
theorem Bo (h:8*p<=8*q+7):p<=q:=by omega
theorem D5 (h:2*p<=2*q+1):p<=q:=by omega
end
section
variable {x y p q r s t u v w:Int}
theorem iA (h:p<=q)(k:x+q<=y+p:=by simp+arith only [Int.reducePow]):x<=y:=by omega
theorem iB (h:p<=q)(i:r<=s)(k:x+(q+s)<=y+(p+r):=by simp+arith only [Int.reducePow]):x<=y:=iA (Int.add_le_add h i) k
theorem iC (h:p<=q)(i:r<=s)(j:t<=u)(k:x+(q+s+u)<=y+(p+r+t):=by simp+arith only [Int.reducePow]):x<=y:=iB (Int.add_le_add h i) j k
end
universe u
@[elab_as_elim] theorem rW {α:Sort u}{a b:α}{m:α->Prop}(h:a=b)(x:m b):m a:=h▸x
@[elab_as_elim] theorem rV {α:Sort u}{a b:α}{m:α->Prop}(h:b=a)(x:m b):m a:=h▸x
theorem bS {x y m n k:Int}(h:0<=x/\x<=m)(i:0<=y/\y<=n)(j:0<=k):0<=x+y*k/\x+y*k<=m+n*k:=⟨Int.add_nonneg h.1 (Int.mul_nonneg i.1 j),Int.add_le_add h.2 (Int.mul_le_mul_of_nonneg_right i.2 j)⟩
theorem Hk {x:Int}:max 0 x=(x.toNat:Int):=(Int.max_comm 0 x).trans (Int.toNat_eq_max x).symm
theorem Ek (i n:Nat):min (i:Int) n=(min i n:Nat):=by
 rcases Nat.le_total i n with h|h
 ·exact rW (Int.min_eq_left (Int.ofNat_le.mpr h)) (rW (Nat.min_eq_left h) rfl)
 ·exact rW (Int.min_eq_right (Int.ofNat_le.mpr h)) (rW (Nat.min_eq_right h) rfl)
theorem Cw {a b:Nat}:max 0 ((a:Int)-b)=(a-b:Nat):=Hk.trans (congrArg _ (Int.toNat_sub a b))
theorem Hn {v:Int}{n:Nat}:(max 0 (min v n)).toNat<=n:=Int.toNat_le.mpr (Int.max_le.mpr ⟨Int.natCast_nonneg n,Int.min_le_right _ _⟩)
theorem Cu {x:Int}{n:Nat}(h:0<=x)(k:x<n):x.natAbs<n:=Int.ofNat_lt.mp (rW (Int.natAbs_of_nonneg h) k)
set_option tactic.hygienic true in
theorem sS {a b:Int}(ha:0<=a)(hb:0<=b):(if a<b then (b-a+1-1)/1 else (0:Int)).toNat=b.toNat-a.toNat:=by
 obtain ⟨a,rfl⟩:=Int.eq_ofNat_of_zero_le ha
 obtain ⟨b,rfl⟩:=Int.eq_ofNat_of_zero_le hb
 split
 ·exact rW (Int.ediv_one ..) (rW (Int.add_sub_cancel ..) (Int.toNat_sub b a))
 ·rename_i h
  exact (Nat.sub_eq_zero_of_le (Int.ofNat_le.mp (Int.not_lt.mp h))).symm
theorem iL {a:Nat}{m:Int}(n:Nat)(h:a<n)(e:(n:Int)<=m:=by decide):(a:Int)<m:=Int.lt_of_lt_of_le (Int.ofNat_lt.mpr h) e
theorem iE {a:Nat}{m:Int}(n:Nat)(h:a<=n)(e:(n:Int)<=m:=by decide):(a:Int)<=m:=Int.le_trans (Int.ofNat_le.mpr h) e
theorem nP {a:Nat}{m:Int}(e:m<=0:=by decide):m<=(a:Int):=Int.le_trans e (Int.natCast_nonneg a)
theorem Gi {k:Int}(h:0<=k)(i:k<2):k=0\/k=1:=by
 obtain ⟨k,rfl⟩:=Int.eq_ofNat_of_zero_le h
 exact (by decide:∀k:Nat,k<2->(k:Int)=0\/(k:Int)=1) k (Int.ofNat_lt.mp i)
theorem Eh {k:Int}(h:0<=k)(i:k<3):k=0\/k=1\/k=2:=by
 obtain ⟨k,rfl⟩:=Int.eq_ofNat_of_zero_le h
 exact (by decide:∀k:Nat,k<3->(k:Int)=0\/(k:Int)=1\/(k:Int)=2) k (Int.ofNat_lt.mp i)
theorem Eg {k:Int}(h:0<=k)(i:k<4):k=0\/k=1\/k=2\/k=3:=by
 obtain ⟨k,rfl⟩:=Int.eq_ofNat_of_zero_le h
 exact (by decide:∀k:Nat,k<4->(k:Int)=0\/(k:Int)=1\/(k:Int)=2\/(k:Int)=3) k (Int.ofNat_lt.mp i)
theorem GP {k:Int}(h:0<=k)(i:k<5):k=0\/k=1\/k=2\/k=3\/k=4:=by
 obtain ⟨k,rfl⟩:=Int.eq_ofNat_of_zero_le h
 exact (by decide:∀k:Nat,k<5->(k:Int)=0\/(k:Int)=1\/(k:Int)=2\/(k:Int)=3\/(k:Int)=4) k (Int.ofNat_lt.mp i)
theorem GO {k:Int}(h:0<=k)(i:k<7):k=0\/k=1\/k=2\/k=3\/k=4\/k=5\/k=6:=by
 obtain ⟨k,rfl⟩:=Int.eq_ofNat_of_zero_le h
 exact (by decide:∀k:Nat,k<7->(k:Int)=0\/(k:Int)=1\/(k:Int)=2\/(k:Int)=3\/(k:Int)=4\/(k:Int)=5\/(k:Int)=6) k (Int.ofNat_lt.mp i)
theorem GN {k:Int}(h:0<=k)(i:k<8):k=0\/k=1\/k=2\/k=3\/k=4\/k=5\/k=6\/k=7:=by
 obtain ⟨k,rfl⟩:=Int.eq_ofNat_of_zero_le h
 exact (by decide:∀k:Nat,k<8->(k:Int)=0\/(k:Int)=1\/(k:Int)=2\/(k:Int)=3\/(k:Int)=4\/(k:Int)=5\/(k:Int)=6\/(k:Int)=7) k (Int.ofNat_lt.mp i)
theorem F0 {w b:Nat}(h:w=8/\b=2\/w=2/\b=16):0<w/\w<=8:=by rcases h with ⟨rfl, -⟩|⟨rfl, -⟩<;>decide
theorem cP {m w:Nat}(h:0<w):((m:Int)+w)-1=((m+w-1:Nat):Int):=(Int.natCast_sub (Nat.le_trans h (Nat.le_add_left _ _))).symm
theorem He {m w c:Nat}(hw:0<w)(h:m<=w*c):(m+w-1)/w<=c:=Nat.le_of_lt_succ ((Nat.div_lt_iff_lt_mul hw).mpr (Nat.lt_of_lt_of_le (Nat.sub_lt (Nat.lt_of_lt_of_le hw (Nat.le_add_left _ _)) Nat.one_pos) (rW (Nat.succ_mul ..) (rW (Nat.mul_comm ..) (Nat.add_le_add_right h w)))))
theorem cz {a b:Nat}(h:b<=a)(e:a-b=0):(a:Int)-b=0:=rV (Int.natCast_sub h) (congrArg _ e)
theorem zc {a b:Nat}(e:(a:Int)-b=0):a-b=0:=Nat.sub_eq_zero_of_le (Nat.le_of_eq (Int.ofNat_inj.mp (Int.sub_eq_zero.mp e)))
theorem mj {m j L:Nat}(e:m+j=L)(h:j<L):m-1+(j+1)=L/\m-1<m:=by omega
theorem GG {x:Int}:max 0 x=((max x 0).toNat:Int):=(Int.max_comm ..).trans (Int.toNat_of_nonneg (Int.le_max_right _ _)).symm
end
theorem ka {a b c:Nat}(h:a<b)(k:b<=c):a<c:=Nat.lt_of_lt_of_le h (k)
theorem Gs {a b c:Int}(h:a<=b)(k:b<=c):a<=c:=Int.le_trans h (k)
theorem DX {a b c:Nat}(h:a<=b)(k:b<c):a<c:=Nat.lt_of_le_of_lt h (k)
theorem jG {a b c:Nat}(h:a<=b)(k:b<=c):a<=c:=Nat.le_trans h (k)
theorem Gr {a b c m n:Nat}(h:a<=b)(i:m<=n)(k:Nat.ble (b+n) c=true):a+m<=c:=Nat.le_trans (Nat.add_le_add h i) (Nat.le_of_ble_eq_true k)
theorem Cz {a b c:Nat}(k:b+a<=c):a<=c:=Nat.le_trans (Nat.le_add_left _ _) (k)
theorem Em {a b c:Nat}(k:a+b<=c):a<=c:=Nat.le_trans (Nat.le_add_right _ _) (k)
theorem Cc {a b c n:Nat}(h:a<=b)(k:Nat.ble (n+b) c=true):n+a<=c:=Nat.le_trans (Nat.add_le_add_left h _) (Nat.le_of_ble_eq_true k)
theorem vD {a b c m n:Nat}(h:a<=b)(i:m<=n)(k:b+n<=c):a+m<=c:=Nat.le_trans (Nat.add_le_add h i) (k)
theorem ot {a b c n:Nat}(h:a<=b)(k:n+b<=c):n+a<=c:=Nat.le_trans (Nat.add_le_add_left h _) (k)
theorem bt {a b c:Nat}(h:a<=b)(k:Nat.ble (b+1) c=true):a<c:=Nat.lt_of_le_of_lt h (Nat.le_of_ble_eq_true k)
theorem vp {a b c n:Nat}(h:a<=b)(k:b+n<=c):a+n<=c:=Nat.le_trans (Nat.add_le_add_right h _) (k)
theorem j7 {a b c:Nat}(h:a<=b)(k:Nat.ble (b) c=true):a<=c:=Nat.le_trans h (Nat.le_of_ble_eq_true k)
theorem vo {a b c n:Nat}(h:a<=b)(k:Nat.ble (n+b+1) c=true):n+a<c:=Nat.lt_of_le_of_lt (Nat.add_le_add_left h _) (Nat.le_of_ble_eq_true k)
theorem ya {a b c n:Nat}(h:a<=b)(k:Nat.ble (b+n+1) c=true):a+n<c:=Nat.lt_of_le_of_lt (Nat.add_le_add_right h _) (Nat.le_of_ble_eq_true k)
theorem Cd {a b c:Nat}(k:b+a<c):a<c:=Nat.lt_of_le_of_lt (Nat.le_add_left _ _) (k)
theorem sR {a b c:Nat}(k:a+b<c):a<c:=Nat.lt_of_le_of_lt (Nat.le_add_right _ _) (k)
theorem pO {a b c n:Nat}(h:a<=b)(k:n+b<c):n+a<c:=Nat.lt_of_le_of_lt (Nat.add_le_add_left h _) (k)
theorem jF {a b c:Nat}(k:a<=c):a-b<=c:=Nat.le_trans (Nat.sub_le _ _) (k)
theorem fb {a b c:Nat}(h:a<b)(k:Nat.ble (b) c=true):a<c:=Nat.lt_of_lt_of_le h (Nat.le_of_ble_eq_true k)
theorem DW {a b c:Nat}(k:a<c):a-b<c:=Nat.lt_of_le_of_lt (Nat.sub_le _ _) (k)
theorem DV {a b c:Int}(h:a<b)(k:b<=c):a<c:=Int.lt_of_lt_of_le h (k)
theorem DU {a b c:Nat}(k:a<=c):min a b<=c:=Nat.le_trans (Nat.min_le_left _ _) (k)
theorem x9 {a b c:Nat}(k:a<c):a/b<c:=Nat.lt_of_le_of_lt (Nat.div_le_self _ _) (k)
noncomputable def KeysAre:List DictEntry->List Str->Prop
 | [],[]=>True
 | e::es,k::ks=>(∃t,e.key= .str k t)/\KeysAre es ks
 | _,_=>False
noncomputable abbrev eG (items:Array Value)(n:Nat):Obj:={cls:= .type "list",dict:=none,data:= .seq items n,slots:= #[]}
noncomputable abbrev uy (items:Array Value)(n:Nat):Obj:={cls:= .type "tuple",dict:=none,data:= .seq items n,slots:= #[]}
inductive z5 (f:Array Value->Nat->Obj)(Z:Heap)(R:List Value->Prop)(v:Value):Prop
 | mk (a:Addr) (items:Array Value) (n:Nat) (h:v= .ref a) (g:Z.get? a=some (f items n)) (r:R items.toList)
inductive FW (P:Params)(Z:Heap)(ks:List Str)(R:List Value->Prop)(v:Value):Prop
 | mk (a:Addr) (es:List DictEntry) (n:Nat) (h:v= .ref a) (s:(a==sysModules)=false) (g:Z.get? a=some (dictOf es n)) (k:KeysAre es ks) (q:∀e∈es,∃x t,e.key= .str x t/\e.hash=PyData.keyHash P x) (r:R (es.map (·.val)))
inductive FK (Z:Heap)(C:Addr)(ks:List Str)(R:List Value->Prop)(v:Value):Prop
 | mk (a dx:Addr) (o:Obj) (es:List DictEntry) (n:Nat) (h:v= .ref a) (g:Z.get? a=some o) (c:o.cls= .ref C) (d:o.dict=some dx) (p:o.data= .plain) (e:Z.get? dx=some (dictOf es n)) (k:KeysAre es ks) (r:R (es.map (·.val)))
inductive FY (A:Value->Prop)(B:List Value->Prop)(l:List Value):Prop
 | mk (v:Value) (vs:List Value) (h:l=v::vs) (a:A v) (b:B vs)
inductive FL (h:Heap)(a C dx:Addr):Prop
 | mk (o:Obj) (g:h.get? a=some o) (c:o.cls= .ref C) (d:o.dict=some dx) (p:o.data= .plain)
inductive FR (h:Heap)(a:Addr)(ks:List Str)(R:List Value->Prop):Prop
 | mk (es:List DictEntry) (n:Nat) (g:h.get? a=some (dictOf es n)) (k:KeysAre es ks) (r:R (es.map (·.val)))
inductive FT (h:Heap)(a C:Addr)(d:Option Addr):Prop
 | mk (o:Obj) (vs:Array Value) (a0:Value) (g:h.get? a=some o) (c:o.cls= .ref C) (e:o.dict=d) (p:o.data= .fields vs) (q:vs[0]?=some a0) (r:vs[1]?=some .none)
mutual
noncomputable def Rel (P:Params)(Z:Heap):V->Value->Prop
 | .none,v=>v= .none
 | .bool b,v=>v= .bool b
 | .int i,v=>∃t,v= .int i t
 | .str s,v=>∃t,v= .str s t
 | .tup l,v=>z5 uy Z (ar P Z l) v
 | .lst l,v=>z5 eG Z (ar P Z l) v
 | .rk ks vs,v=>FW P Z ks (ar P Z vs) v
 | .obj C ks vs,v=>FK Z C ks (ar P Z vs) v
 | .ref a,v=>v= .ref a
 | .con c,v=>v=c
 | .q8 a b c,v=>∃r t u w,v= .ref r/\Z.get? r=some {cls:= .type "range",dict:=none,data:= .fields #[.int a t, .int b u, .int c w],slots:= #[]}
noncomputable def ar (P:Params)(Z:Heap):List V->List Value->Prop
 | [],l=>l= []
 | x::r,l=>FY (Rel P Z x) (ar P Z r) l
end
mutual
theorem Rel.mono {P:Params}{Z Z':Heap}(k:Z.StaysIn Z'):∀{x:V} {v:Value},Rel P Z x v->Rel P Z' x v
 | .none,_,h=>h
 | .bool _,_,h=>h
 | .int _,_,h=>h
 | .str _,_,h=>h
 | .tup l,v,h=>by
  obtain ⟨a,items,n,e,h1,h2⟩:=h
  exact ⟨a,items,n,e,k _ _ h1,ar.mono k h2⟩
 | .lst l,v,h=>by
  obtain ⟨a,items,n,e,h1,h2⟩:=h
  exact ⟨a,items,n,e,k _ _ h1,ar.mono k h2⟩
 | .rk ks vs,v,h=>by
  obtain ⟨a,es,n,e,h0,h1,h2,h2',h3⟩:=h
  exact ⟨a,es,n,e,h0,k _ _ h1,h2,h2',ar.mono k h3⟩
 | .obj C ks vs,v,h=>by
  obtain ⟨a,dx,o,es,n,e,h0,h1,h2,h3,h4,h5,h6⟩:=h
  exact ⟨a,dx,o,es,n,e,k _ _ h0,h1,h2,h3,k _ _ h4,h5,ar.mono k h6⟩
 | .ref _,_,h=>h
 | .con _,_,h=>h
 | .q8 _ _ _,_,h=>by
  obtain ⟨r,t,u,w,e,h1⟩:=h
  exact ⟨r,t,u,w,e,k _ _ h1⟩
theorem ar.mono {P:Params}{Z Z':Heap}(k:Z.StaysIn Z'):∀{l:List V} {vs:List Value},ar P Z l vs->ar P Z' l vs
 | [],_,h=>h
 | x::r,vs,h=>by
  obtain ⟨v,vs',e,h1,h2⟩:=h
  exact ⟨v,vs',e,Rel.mono k h1,ar.mono k h2⟩
end
theorem ar.length {P:Params}{Z:Heap}:∀{l:List V} {vs:List Value},ar P Z l vs->vs.length=l.length:=by
 intro L_
 induction L_ with
 | nil=>
  intro vs h
  obtain rfl:_= []:=h;rfl
 | cons x r ih=>
  intro vs h
  obtain ⟨v,vs',rfl,_,h2⟩:=h
  simp [ih h2]
theorem ar.get {P:Params}{Z:Heap}:∀{l:List V} {vs:List Value} (_:ar P Z l vs) {i:Nat} {x:V},l[i]?=some x->∃v,vs[i]?=some v/\Rel P Z x v:=by
 intro L_
 induction L_ with
 | nil=>
  intro vs _ i x e
  simp at e
 | cons y r ih=>
  intro vs h i x e
  obtain ⟨v,vs',rfl,h1,h2⟩:=h
  cases i with
  | zero=>simp at e;subst e;exact ⟨v,by simp,h1⟩
  | succ i=>simp at e;simpa using ih h2 e
theorem ar.append {P:Params}{Z:Heap}:∀{l l':List V} {vs vs':List Value},ar P Z l vs->ar P Z l' vs'->ar P Z (l++l') (vs++vs'):=by
 intro L_
 induction L_ with
 | nil=>
  intro l' vs vs' h h'
  obtain rfl:_= []:=h;exact h'
 | cons x r ih=>
  intro l' vs vs' h h'
  obtain ⟨v,ws,rfl,h1,h2⟩:=h
  exact ⟨v,_,rfl,h1,ih h2 h'⟩
theorem ar.one {P:Params}{Z:Heap}{x:V}{v:Value}(h:Rel P Z x v):ar P Z [x] [v]:=by
 exact ⟨v,[],rfl,h,rfl⟩
theorem ar.take {P:Params}{Z:Heap}:∀{l:List V} {vs:List Value} (_:ar P Z l vs) (n:Nat),ar P Z (l.take n) (vs.take n)
 | [],vs,h,n=>by obtain rfl:_= []:=h;cases n<;>rfl
 | x::r,vs,h,0=>rfl
 | x::r,vs,h,n+1=>by
  obtain ⟨v,ws,rfl,h1,h2⟩:=h
  exact ⟨v,_,rfl,h1,ar.take h2 n⟩
theorem ar.drop {P:Params}{Z:Heap}:∀{l:List V} {vs:List Value} (_:ar P Z l vs) (n:Nat),ar P Z (l.drop n) (vs.drop n)
 | [],vs,h,n=>by obtain rfl:_= []:=h;cases n<;>rfl
 | x::r,vs,h,0=>h
 | x::r,vs,h,n+1=>by
  obtain ⟨v,ws,rfl,h1,h2⟩:=h
  simpa using ar.drop h2 n
theorem ar.reverse {P:Params}{Z:Heap}:∀{l:List V} {vs:List Value},ar P Z l vs->ar P Z l.reverse vs.reverse:=by
 intro L_
 induction L_ with
 | nil=>
  intro vs h
  obtain rfl:_= []:=h;rfl
 | cons x r ih=>
  intro vs h
  obtain ⟨v,ws,rfl,h1,h2⟩:=h
  simp only [List.reverse_cons]
  exact (ih h2).append (ar.one h1)
theorem ar.set {P:Params}{Z:Heap}:∀{l:List V} {vs:List Value} (_:ar P Z l vs) (i:Nat) {x:V} {v:Value},Rel P Z x v->ar P Z (l.set i x) (vs.set i v):=by
 intro L_
 induction L_ with
 | nil=>
  intro vs h i x v hx
  obtain rfl:_= []:=h;rfl
 | cons y r ih=>
  intro vs h i x v hx
  obtain ⟨u,ws,rfl,h1,h2⟩:=h
  cases i with
  | zero=>exact ⟨v,ws,rfl,hx,h2⟩
  | succ i=>exact ⟨u,_,rfl,h1,ih h2 i hx⟩
set_option genCtorIdx false in
inductive AO where
 | list (l:List V)
 | inst (C dx:Addr)
 | aZ (ks:List Str) (vs:List V)
 | exc (C:Addr) (d:Option Addr)
noncomputable def AO.ctorIdx (x:AO):Nat:=AO.casesOn x (λξ=>0) (λξ ξ=>1) (λξ ξ=>2) λξ ξ=>3
noncomputable abbrev Hm:=Addr->Option AO
noncomputable def Holds (P:Params)(Z h:Heap)(a:Addr):AO->Prop
 | .list l=>∃items n,h.get? a=some (eG items n)/\ar P Z l items.toList
 | .inst C dx=>FL h a C dx
 | .aZ ks vs=>FR h a ks (ar P Z vs)
 | .exc C d=>FT h a C d
noncomputable def upd (η:Hm)(a:Addr)(x:AO):Hm:=λb=>if b=a then some x else η b
noncomputable def era (η:Hm)(a:Addr):Hm:=λb=>if b=a then none else η b
noncomputable def nul:Hm:=λξ=>none
structure Fm where
 env:Env
 real:Bool
 vars:List (Nat×Str)
 ρ:List (Option V)
 extra:List (Addr×Obj)
noncomputable def mX (P:Params)(Z h:Heap)(env:Env)(m:Str->Option Value)(x:Str)(X:V):Prop:=
 (env.kindOf x=some .local/\∃v,m x=some v/\Rel P Z X v)\/
 ((env.kindOf x=some .cell)/\∃c v,env.cells.lookup x=some c/\h.IsCell c (some v)/\Rel P Z X v)
noncomputable def Fm.core (f:Fm):List Addr:=f.env.locals::(if f.real then f.env.cells.map (·.2) else [])
noncomputable def Fm.own (f:Fm):List Addr:=f.core++f.extra.map (·.1)
theorem mM {fs:List Fm}{a:Addr}(h:a∈fs.flatMap Fm.core):a∈fs.flatMap Fm.own:=by
 obtain ⟨f,hf,ha⟩:=List.mem_flatMap.mp h
 exact List.mem_flatMap.mpr ⟨f,hf,List.mem_append_left _ ha⟩
theorem gu {f:Fm}:f.env.locals∈f.core:=List.mem_cons_self
theorem eF {f:Fm}:f.env.locals∈f.own:=List.mem_append_left _ gu
structure iZ (P:Params)(Z h:Heap)(f:Fm):Prop where
 ns:∃m,h.Ns f.env.locals m/\∀(i:Nat) (x:Str) (X:V),(i,x)∈f.vars->f.ρ[i]?=some (some X)->mX P Z h f.env m x X
 cells:∀p∈f.env.cells,∃v,h.IsCell p.2 v
 kind:f.env.scope.kind= .function
 frame:f.real=true->f.env.frame=some f.env.locals
 inj:∀p∈f.vars,∀q∈f.vars,p.1=q.1 ↔ p.2=q.2
 glob:f.env.globals=mainGlobals
 blt:f.env.builtins=builtinsNs
 ext:∀p∈f.extra,h.get? p.1=some p.2
 Fz:∀x,f.env.kindOf x=some .cell->(f.env.cells.lookup x).isSome=true
noncomputable def pQ:List Fm->Prop
 | []=>True
 | f::r=>(∀p∈f.env.cells,f.real=true\/p.2∈r.flatMap Fm.core)/\pQ r
theorem pQ.core {f:Fm}{r:List Fm}(h:pQ (f::r)):∀p∈f.env.cells,p.2∈(f::r).flatMap Fm.core:=λp hp=>by
 refine rW List.flatMap_cons ?_
 rcases h.1 p hp with z|z
 ·exact List.mem_append_left _ (by unfold Fm.core;refine rW z ?_;exact List.mem_cons_of_mem _ (List.mem_map_of_mem (f:=(·.2)) hp))
 ·exact List.mem_append_right _ z
theorem pQ.mem {fs:List Fm}(h:pQ fs){f:Fm}(hf:f∈fs):∀p∈f.env.cells,p.2∈fs.flatMap Fm.own:=by
 induction fs with
 | nil=>cases hf
 | cons g r ih=>
  intro p hp
  rcases List.mem_cons.mp hf with rfl|hf
  ·exact mM (pQ.core h p hp)
  ·refine rW List.flatMap_cons ?_;exact List.mem_append_right _ (ih h.2 hf p hp)
structure St (P:Params)(Z:Heap)(η:Hm)(fs:List Fm)(h:Heap):Prop where
 z:Z.StaysIn h
 e:∀a x,η a=some x->Z.get? a=none/\Holds P Z h a x
 f:∀f∈fs,iZ P Z h f
 own:∀a∈fs.flatMap Fm.own,Z.get? a=none/\η a=none
 nd:(fs.flatMap Fm.own).Nodup
 cl:pQ fs
noncomputable def restrict (h:Heap)(p:Addr->Prop):Heap:=
 open Classical in ⟨h.objs.mapIdx λi o=>if p i then o else {cls:= .none,data:= .freed},h.life⟩
theorem bq (h:Heap)(p:Addr->Prop)(a:Addr):(restrict h p).get? a=open Classical in if p a then h.get? a else none:=by
 classical
 unfold restrict Heap.get?
 simp only [Array.getElem?_mapIdx]
 by_cases q:p a
 ·simp only [q,if_true]
  cases e:h.objs[a]? with
  | none=>simp
  | some o=>simp
 ·simp only [q,if_false]
  cases e:h.objs[a]? with
  | none=>simp
  | some o=>simp
theorem Holds.there {P:Params}{Z h:Heap}{a:Addr}{x:AO}(H:Holds P Z h a x):∃o,h.get? a=some o:=by
 cases x with
 | list l=>obtain ⟨_,_,ho,_⟩:=H;exact ⟨_,ho⟩
 | inst C dx=>obtain ⟨o,ho,_⟩:=H;exact ⟨o,ho⟩
 | aZ ks vs=>obtain ⟨es,n,ho,_⟩:=H;exact ⟨_,ho⟩
 | exc C d=>obtain ⟨o,_,_,ho,_⟩:=H;exact ⟨o,ho⟩
theorem Holds.move {P:Params}{Z Z' h h':Heap}{a:Addr}{x:AO}(H:Holds P Z h a x)(k:Z.StaysIn Z')(e:∀o,h.get? a=some o->h'.get? a=some o):Holds P Z' h' a x:=by
 cases x with
 | list l=>obtain ⟨items,n,ho,h2⟩:=H;exact ⟨items,n,e _ ho,h2.mono k⟩
 | inst C dx=>obtain ⟨o,ho,r,r2,r3⟩:=H;exact ⟨o,e _ ho,r,r2,r3⟩
 | aZ ks vs=>obtain ⟨es,n,ho,h1,h2⟩:=H;exact ⟨es,n,e _ ho,h1,h2.mono k⟩
 | exc C d=>obtain ⟨o,vs,a0,ho,r,r2,r3,r4,r5⟩:=H;exact ⟨o,vs,a0,e _ ho,r,r2,r3,r4,r5⟩
section
variable {P:Params}{Z:Heap}{η:Hm}{fs:List Fm}{h:Heap}
theorem St.lt (S:St P Z η fs h){a:Addr}{x:AO}(e:η a=some x):a<h.objs.size:=by
 obtain ⟨o,ho⟩:=(S.e a x e).2.there
 exact Heap.lt_size ho
theorem iZ.there {f:Fm}(F:iZ P Z h f){a:Addr}(ha:a∈f.own):∃o,h.get? a=some o:=by
 unfold Fm.own Fm.core at ha
 rcases List.mem_append.mp ha with ha|ha
 ·rcases List.mem_cons.mp ha with rfl|ha
  ·obtain ⟨m,⟨o,es,ep,ho,_⟩,_⟩:=F.ns;exact ⟨o,ho⟩
  ·split at ha
   ·obtain ⟨p,hp,rfl⟩:=List.mem_map.mp ha
    obtain ⟨v,o,ho,_⟩:=F.cells p hp;exact ⟨o,ho⟩
   ·cases ha
 ·obtain ⟨p,hp,rfl⟩:=List.mem_map.mp ha
  exact ⟨_,F.ext p hp⟩
theorem St.there (S:St P Z η fs h){a:Addr}(ha:a∈fs.flatMap Fm.own):∃o,h.get? a=some o:=by
 obtain ⟨f,hf,ha⟩:=List.mem_flatMap.mp ha
 exact (S.f f hf).there ha
theorem St.GH (S:St P Z η fs h){a:Addr}(ha:a∈fs.flatMap Fm.own):a<h.objs.size:=by
 obtain ⟨o,ho⟩:=S.there ha
 exact Heap.lt_size ho
theorem St.lJ (S:St P Z η fs h){a:Addr}(ha:h.objs.size<=a):Z.get? a=none:=by
 cases q:Z.get? a with
 | none=>rfl
 | some o=>exact absurd (Heap.lt_size (S.z _ _ q)) (Nat.not_lt.mpr ha)
theorem St.cV (S:St P Z η fs h){a:Addr}(ha:h.objs.size<=a):η a=none:=by
 cases q:η a with
 | none=>rfl
 | some o=>exact absurd (S.lt q) (Nat.not_lt.mpr ha)
theorem St.gq (S:St P Z η fs h){a:Addr}(ha:h.objs.size<=a):a∉fs.flatMap Fm.own:=λq=>absurd (S.GH q) (Nat.not_lt.mpr ha)
theorem mX.move {Z' h':Heap}{env:Env}{m:Str->Option Value}{x:Str}{X:V}(H:mX P Z h env m x X)(k:Z.StaysIn Z')
  (e:∀c o,(∃y,env.cells.lookup y=some c)->h.get? c=some o->h'.get? c=some o):mX P Z' h' env m x X:=by
 rcases H with ⟨a,v,b,r⟩|⟨a,c,v,b,⟨o,ho,hd⟩,r⟩
 ·exact .inl ⟨a,v,b,r.mono k⟩
 ·exact .inr ⟨a,c,v,b,⟨o,e _ _ ⟨x,b⟩ ho,hd⟩,r.mono k⟩
theorem iZ.move {Z' h':Heap}{f:Fm}(F:iZ P Z h f)(k:Z.StaysIn Z')(e:∀a o,(a=f.env.locals\/a∈f.env.cells.map (·.2)\/a∈f.extra.map (·.1))->h.get? a=some o->h'.get? a=some o):iZ P Z' h' f:=by
 obtain ⟨⟨m,⟨o,es,ep,ho,r⟩,hv⟩,hc,hk,hf,hi,hg,hb,hx,hcel⟩:=F
 refine ⟨⟨m,⟨o,es,ep,e _ _ (.inl rfl) ho,r⟩,λi x X hm hx=>(hv i x X hm hx).move k λc o ⟨y,hy⟩ hc=>e _ _ (.inr (.inl ?_)) hc⟩,λp hp=>?_,hk,hf,hi,hg,hb,λp hp=>e _ _ (.inr (.inr (List.mem_map_of_mem hp))) (hx p hp),hcel⟩
 ·exact List.mem_map.mpr ⟨(y,c),mem_of_lookup hy,rfl⟩
 ·obtain ⟨v,o,ho,hd⟩:=hc p hp
  exact ⟨v,o,e _ _ (.inr (.inl (List.mem_map_of_mem hp))) ho,hd⟩
theorem St.eH (S:St P Z η fs h){f:Fm}(hf:f∈fs){a:Addr}(ha:a=f.env.locals\/a∈f.env.cells.map (·.2)\/a∈f.extra.map (·.1)):a∈fs.flatMap Fm.own:=by
 rcases ha with rfl|ha|ha
 ·exact List.mem_flatMap.mpr ⟨f,hf,eF⟩
 ·obtain ⟨p,hp,rfl⟩:=List.mem_map.mp ha
  exact S.cl.mem hf p hp
 ·exact List.mem_flatMap.mpr ⟨f,hf,List.mem_append_right _ ha⟩
theorem St.keep {h':Heap}(S:St P Z η fs h)(k:h.StaysIn h'):St P Z η fs h':=
 ⟨λb o e=>k _ _ (S.z b o e),λa x e=>⟨(S.e a x e).1,(S.e a x e).2.move (λξ ξ q=>q) λo q=>k _ _ q⟩,
  λf hf=>(S.f f hf).move (λξ ξ q=>q) λa o ξ q=>k _ _ q,S.own,S.nd,S.cl⟩
theorem St.set {h':Heap}{a:Addr}{x x':AO}(S:St P Z η fs h)(e:η a=some x)(k:∀b o,b≠a->h.get? b=some o->h'.get? b=some o)(H:Holds P Z h' a x'):St P Z (upd η a x') fs h':=by
 have ha:=(S.e a x e).1
 have hne:∀b,b∈fs.flatMap Fm.own->b≠a:=λb hb q=>by have:=(S.own b hb).2;rw [q,e] at this;cases this
 refine ⟨λb o q=>k _ _ (λz=>by rw [z,ha] at q;cases q) (S.z b o q),λb y q=>?_,λf hf=>(S.f f hf).move (λξ ξ q=>q) λb o hb q=>k _ _ (hne _ (S.eH hf hb)) q,λb hb=>?_,S.nd,S.cl⟩
 ·unfold upd at q
  by_cases hb:b=a
  ·clear hne k e;subst hb;rw [if_pos rfl] at q;cases q;exact ⟨ha,H⟩
  ·rw [if_neg hb] at q;exact ⟨(S.e b y q).1,(S.e b y q).2.move (λξ ξ z=>z) λo z=>k _ _ hb z⟩
 ·refine ⟨(S.own b hb).1,?_⟩
  unfold upd;refine rW (if_neg (hne b hb)) ?_;exact (S.own b hb).2
theorem St.new {h':Heap}{a:Addr}{x':AO}(S:St P Z η fs h)(k:h.StaysIn h')(fr:h.objs.size<=a)(H:Holds P Z h' a x'):St P Z (upd η a x') fs h':=by
 have S':=S.keep k
 have hf:=S.gq fr
 refine ⟨S'.z,λb y q=>?_,S'.f,λb hb=>⟨(S.own b hb).1,?_⟩,S.nd,S.cl⟩
 ·unfold upd at q
  by_cases hb:b=a
  ·subst hb;rw [if_pos rfl] at q;cases q;exact ⟨S.lJ fr,H⟩
  ·rw [if_neg hb] at q;exact S'.e b y q
 ·unfold upd;rw [if_neg (λq=>hf (by refine rV q ?_;exact hb))];exact (S.own b hb).2
theorem St.drop {η':Hm}(S:St P Z η fs h)(k:∀a x,η' a=some x->η a=some x):St P Z η' fs h:=by
 refine ⟨S.z,λa x e=>S.e a x (k a x e),S.f,λa ha=>⟨(S.own a ha).1,?_⟩,S.nd,S.cl⟩
 cases q:η' a with
 | none=>rfl
 | some x=>have:=(S.own a ha).2;rw [k a x q] at this;cases this
theorem St.adopt {a:Addr}{x:AO}(S:St P Z η fs h)(hz:Z.get? a=none)(hf:a∉fs.flatMap Fm.own)(H:Holds P Z h a x):St P Z (upd η a x) fs h:=by
 refine ⟨S.z,λb y q=>?_,S.f,λb hb=>⟨(S.own b hb).1,?_⟩,S.nd,S.cl⟩
 ·unfold upd at q
  by_cases hb:b=a
  ·subst hb;rw [if_pos rfl] at q;cases q;exact ⟨hz,H⟩
  ·rw [if_neg hb] at q;exact S.e b y q
 ·unfold upd;rw [if_neg (λq=>hf (by refine rV q ?_;exact hb))];exact (S.own b hb).2
theorem St.pB (S:St P Z η fs h)(p:Addr->Prop)(hη:∀a,p a->η a=none)(hf:∀a,p a->a∉fs.flatMap Fm.own):
  ∃Z',Z.StaysIn Z'/\(∀a o,p a->h.get? a=some o->Z'.get? a=some o)/\St P Z' η fs h/\∀a,¬p a->Z.get? a=none->Z'.get? a=none:=by
 classical
 refine ⟨restrict h λa=>(Z.get? a).isSome=true\/p a,?_,?_,?_,?_⟩
 ·intro b o e
  rw [bq,if_pos (.inl (by refine rW e ?_;rfl))]
  exact S.z b o e
 ·intro a o hp e
  refine rW (bq ..) (rW (if_pos (.inr hp)) ?_);exact e
 ·have hZ:Z.StaysIn (restrict h λa=>(Z.get? a).isSome=true\/p a):=λb o e=>by
   rw [bq,if_pos (.inl (by refine rW e ?_;rfl))]
   exact S.z b o e
  refine ⟨λb o e=>?_,λa x e=>⟨?_,(S.e a x e).2.move hZ λo q=>q⟩,λf hf'=>(S.f f hf').move hZ λξ ξ ξ q=>q,λa ha=>⟨?_,(S.own a ha).2⟩,S.nd,S.cl⟩
  ·rw [bq] at e
   split at e
   ·exact e
   ·cases e
  ·rw [bq,if_neg]
   rintro (q|q)
   ·rw [(S.e a x e).1] at q;cases q
   ·rw [hη a q] at e;cases e
  ·rw [bq,if_neg]
   rintro (q|q)
   ·rw [(S.own a ha).1] at q;cases q
   ·exact hf a q ha
 ·intro a hp hz
  rw [bq,if_neg]
  rintro (q|q)
  ·rw [hz] at q;cases q
  ·exact hp q
theorem St.freeze (S:St P Z η fs h)(p:Addr->Prop)(hη:∀a,p a->η a=none)(hf:∀a,p a->a∉fs.flatMap Fm.own):
  ∃Z',Z.StaysIn Z'/\(∀a o,p a->h.get? a=some o->Z'.get? a=some o)/\St P Z' η fs h:=
 let ⟨Z',a,b,c,_⟩:=S.pB p hη hf;⟨Z',a,b,c⟩
theorem St.top {h':Heap}{f f':Fm}(S:St P Z η (f::fs) h)(a:Addr)(ha:a∈f.own)(k:∀b o,b≠a->h.get? b=some o->h'.get? b=some o)
  (F:iZ P Z h' f') (ho:f'.own=f.own) (hreal:f'.real=f.real) (hc:f'.env.cells=f.env.cells):St P Z η (f'::fs) h':=by
 have hm:a∈(f::fs).flatMap Fm.own:=List.mem_flatMap.mpr ⟨f,List.mem_cons_self,ha⟩
 have hown:(f'::fs).flatMap Fm.own=(f::fs).flatMap Fm.own:=by simp only [List.flatMap_cons,ho]
 have hnf:∀b,b∈fs.flatMap Fm.own->b≠a:=λb hb q=>by
  have nd:=S.nd
  rw [List.flatMap_cons,List.nodup_append] at nd
  exact nd.2.2 a ha b hb q.symm
 refine ⟨λb o q=>k _ _ (λz=>by rw [z,(S.own a hm).1] at q;cases q) (S.z b o q),λb x q=>⟨(S.e b x q).1,(S.e b x q).2.move (λξ ξ z=>z) λo z=>k _ _ (λy=>by rw [y,(S.own a hm).2] at q;cases q) z⟩,
  λg hg=>?_,λb hb=>?_,by refine rW hown ?_;exact S.nd,?_⟩
 ·clear hown hc hreal ho;rcases List.mem_cons.mp hg with rfl|hg
  ·exact F
  ·refine (S.f g (List.mem_cons_of_mem _ hg)).move (λξ ξ q=>q) λb o hb q=>k _ _ (hnf b ?_) q
   rcases hb with rfl|hb|hb
   ·exact List.mem_flatMap.mpr ⟨g,hg,eF⟩
   ·obtain ⟨p,hp,rfl⟩:=List.mem_map.mp hb
    exact S.cl.2.mem hg p hp
   ·exact List.mem_flatMap.mpr ⟨g,hg,List.mem_append_right _ hb⟩
 ·rw [hown] at hb;exact S.own b hb
 ·exact ⟨λp hp=>by refine rW hreal ?_;rw [hc] at hp;exact S.cl.1 p hp,S.cl.2⟩
theorem St.EI {f:Fm}(S:St P Z η (f::fs) h):St P Z η fs h:=
 ⟨S.z,S.e,λg hg=>S.f g (List.mem_cons_of_mem _ hg),λa ha=>S.own a (by refine rW List.flatMap_cons ?_;exact List.mem_append_right _ ha),
  by have:=S.nd;rw [List.flatMap_cons,List.nodup_append] at this;exact this.2.1,S.cl.2⟩
theorem St.CE {h':Heap}{f:Fm}{a:Addr}{o:Obj}(S:St P Z η (f::fs) h)(k:h.StaysIn h')(fr:h.objs.size<=a)(ho:h'.get? a=some o):
  St P Z η ({f with extra:=(a,o)::f.extra}::fs) h':=by
 have S':=S.keep k
 have hp:(({f with extra:=(a,o)::f.extra}:Fm)::fs).flatMap Fm.own=f.core++a::(f.extra.map (·.1)++fs.flatMap Fm.own):=by
  simp [List.flatMap_cons,Fm.own,Fm.core]
 have hq:(f::fs).flatMap Fm.own=f.core++(f.extra.map (·.1)++fs.flatMap Fm.own):=by
  simp [List.flatMap_cons,Fm.own]
 refine ⟨S'.z,S'.e,λg hg=>?_,λb hb=>?_,?_,S.cl⟩
 ·rcases List.mem_cons.mp hg with rfl|hg
  ·obtain ⟨u1,u2,u3,u4,u5,u6,u7,u8,u9⟩:=S'.f f List.mem_cons_self
   exact ⟨u1,u2,u3,u4,u5,u6,u7,(λp hp=>by
    rcases List.mem_cons.mp hp with rfl|hp
    ·exact ho
    ·exact u8 p hp),u9⟩
  ·exact S'.f g (List.mem_cons_of_mem _ hg)
 ·rw [hp] at hb
  clear hp ho;rcases List.mem_append.mp hb with hb|hb
  ·exact S.own b (by refine rW hq ?_;exact List.mem_append_left _ hb)
  ·rcases List.mem_cons.mp hb with rfl|hb
   ·exact ⟨S.lJ fr,S.cV fr⟩
   ·exact S.own b (by refine rW hq ?_;exact List.mem_append_right _ hb)
 ·rw [hp,List.nodup_append]
  have nd:=S.nd
  have hf:=S.gq fr
  rw [hq] at nd hf
  rw [List.nodup_append] at nd
  rw [List.mem_append,not_or] at hf
  refine ⟨nd.1,List.nodup_cons.mpr ⟨hf.2,nd.2.1⟩,λb hb c hc=>?_⟩
  clear hp ho fr;rcases List.mem_cons.mp hc with rfl|hc
  ·exact λq=>hf.1 (by refine rV q ?_;exact hb)
  ·exact nd.2.2 b hb c hc
theorem St.AK {h':Heap}{f:Fm}{a:Addr}{o o':Obj}{r:List (Addr×Obj)}(S:St P Z η (f::fs) h)(e:f.extra=(a,o)::r)(k:∀b x,b≠a->h.get? b=some x->h'.get? b=some x)(ho:h'.get? a=some o'):
  St P Z η ({f with extra:=(a,o')::r}::fs) h':=by
 have hown:({f with extra:=(a,o')::r}:Fm).own=f.own:=by simp [Fm.own,Fm.core,e]
 have hf:f.own=f.core++a::r.map (·.1):=by simp [Fm.own,e]
 have hall:(f::fs).flatMap Fm.own=(f.core++a::r.map (·.1))++fs.flatMap Fm.own:=by exact rW List.flatMap_cons (rW hf rfl)
 have nd:=S.nd
 rw [hall,List.nodup_append,List.nodup_append] at nd
 obtain ⟨⟨_,nd2,nd3⟩,_,nd4⟩:=nd
 have hcore:∀b∈f.core,b≠a:=λb hb=>nd3 b hb a List.mem_cons_self
 have hr:∀b∈r.map (·.1),b≠a:=λb hb q=>(List.nodup_cons.mp nd2).1 (by refine rV q ?_;exact hb)
 have hfs:∀b∈fs.flatMap Fm.own,b≠a:=λb hb q=>nd4 a (by simp) b hb q.symm
 have hcell:∀p∈f.env.cells,p.2≠a:=λp hp=>by
  have:=pQ.core S.cl p hp
  rw [List.flatMap_cons] at this
  rcases List.mem_append.mp this with z|z
  ·exact hcore _ z
  ·exact hfs _ (mM z)
 have ha:a∈(f::fs).flatMap Fm.own:=by refine rW hall ?_;simp
 refine ⟨λb x q=>k _ _ (λz=>by rw [z,(S.own a ha).1] at q;cases q) (S.z b x q),λb x q=>⟨(S.e b x q).1,(S.e b x q).2.move (λξ ξ z=>z) λo z=>k _ _ (λy=>by rw [y,(S.own a ha).2] at q;cases q) z⟩,
  λg hg=>?_,λb hb=>S.own b (by rw [List.flatMap_cons,hown, <-List.flatMap_cons] at hb;exact hb),by refine rW List.flatMap_cons (rW hown (rV List.flatMap_cons ?_));exact S.nd,S.cl⟩
 rcases List.mem_cons.mp hg with rfl|hg
 ·obtain ⟨⟨m,⟨od,es,ep,hd,rr⟩,hv⟩,u2,u3,u4,u5,u6,u7,u8,u9⟩:=S.f f List.mem_cons_self
  refine ⟨⟨m,⟨od,es,ep,k _ _ (hcore _ gu) hd,rr⟩,λi x X hm hx=>(hv i x X hm hx).move (λξ ξ q=>q) λc o ⟨y,hy⟩ hc=>k _ _ (hcell (y,c) (mem_of_lookup hy)) hc⟩,
   λp hp=>?_,u3,u4,u5,u6,u7,λp hp=>?_,u9⟩
  ·obtain ⟨v,o,hc,hd⟩:=u2 p hp
   exact ⟨v,o,k _ _ (hcell p hp) hc,hd⟩
  ·rcases List.mem_cons.mp hp with rfl|hp
   ·exact ho
   ·exact k _ _ (hr _ (List.mem_map_of_mem hp)) (u8 p (by refine rW e ?_;exact List.mem_cons_of_mem _ hp))
 ·refine (S.f g (List.mem_cons_of_mem _ hg)).move (λξ ξ q=>q) λb o hb q=>k _ _ (hfs b (S.EI.eH hg hb)) q
theorem St.AL {f:Fm}{a:Addr}{o:Obj}{r:List (Addr×Obj)}(S:St P Z η (f::fs) h)(e:f.extra=(a,o)::r):St P Z η ({f with extra:=r}::fs) h:=by
 have hf:f.own=f.core++a::r.map (·.1):=by simp [Fm.own,e]
 have hf':({f with extra:=r}:Fm).own=f.core++r.map (·.1):=by simp [Fm.own,Fm.core]
 have sub:List.Sublist (({f with extra:=r}:Fm)::fs |>.flatMap Fm.own) ((f::fs).flatMap Fm.own):=by
  refine rW List.flatMap_cons (rW List.flatMap_cons (rW hf (rW hf' ?_)))
  exact List.Sublist.append (List.Sublist.append (List.Sublist.refl _) (List.sublist_cons_self _ _)) (List.Sublist.refl _)
 refine ⟨S.z,S.e,λg hg=>?_,λb hb=>S.own b (sub.subset hb),S.nd.sublist sub,S.cl⟩
 rcases List.mem_cons.mp hg with rfl|hg
 ·obtain ⟨u1,u2,u3,u4,u5,u6,u7,u8,u9⟩:=S.f f List.mem_cons_self
  exact ⟨u1,u2,u3,u4,u5,u6,u7,λp hp=>u8 p (by refine rW e ?_;exact List.mem_cons_of_mem _ hp),u9⟩
 ·exact S.f g (List.mem_cons_of_mem _ hg)
theorem St.pop {f:Fm}(S:St P Z η (f::fs) h):St P Z η fs h:=
 ⟨S.z,S.e,λg hg=>S.f g (List.mem_cons_of_mem _ hg),λa ha=>S.own a (by refine rW List.flatMap_cons ?_;exact List.mem_append_right _ ha),
  by have:=S.nd;rw [List.flatMap_cons,List.nodup_append] at this;exact this.2.1,S.cl.2⟩
theorem St.z9 {f:Fm}{ex:List (Addr×Obj)}(S:St P Z η (f::fs) h)(e:f.extra.Perm ex):St P Z η ({f with extra:=ex}::fs) h:=by
 have pm:(({f with extra:=ex}:Fm)::fs |>.flatMap Fm.own).Perm ((f::fs).flatMap Fm.own):=by
  refine rW List.flatMap_cons (rW List.flatMap_cons ?_)
  exact List.Perm.append_right _ (List.Perm.append_left _ (e.symm.map _))
 refine ⟨S.z,S.e,λg hg=>?_,λb hb=>S.own b (pm.mem_iff.mp hb),pm.nodup_iff.mpr S.nd,S.cl⟩
 rcases List.mem_cons.mp hg with rfl|hg
 ·obtain ⟨u1,u2,u3,u4,u5,u6,u7,u8,u9⟩:=S.f f List.mem_cons_self
  exact ⟨u1,u2,u3,u4,u5,u6,u7,λp hp=>u8 p (e.mem_iff.mpr hp),u9⟩
 ·exact S.f g (List.mem_cons_of_mem _ hg)
theorem St.but {h':Heap}{a:Addr}(S:St P Z η fs h)(hz:Z.get? a=none)(hη:η a=none)(hf:a∉fs.flatMap Fm.own)(k:∀b o,b≠a->h.get? b=some o->h'.get? b=some o):St P Z η fs h':=by
 refine ⟨λb o q=>k b o (λhb=>?_) (S.z b o q),λb x q=>⟨(S.e b x q).1,(S.e b x q).2.move (λξ ξ z=>z) λo z=>k b o (λhb=>?_) z⟩,
  λg hg=>(S.f g hg).move (λξ ξ z=>z) λb o hb z=>k b o (λq=>?_) z,S.own,S.nd,S.cl⟩
 ·rw [hb,hz] at q;cases q
 ·rw [hb,hη] at q;cases q
 ·exact hf (by refine rV q ?_;exact S.eH hg hb)
theorem St.z' {h':Heap}{f:Fm}{a:Addr}{o:Obj}{r:List (Addr×Obj)}(S:St P Z η (f::fs) h)(e:f.extra=(a,o)::r)(k:∀b x,b≠a->h.get? b=some x->h'.get? b=some x):
  St P Z η ({f with extra:=r}::fs) h':=by
 have ha:a∈(f::fs).flatMap Fm.own:=by
  refine rW List.flatMap_cons ?_;unfold Fm.own;refine rW e ?_;simp
 refine (S.AL e).but (S.own a ha).1 (S.own a ha).2 (λq=>?_) k
 have nd:=S.nd
 rw [List.flatMap_cons] at nd q
 unfold Fm.own at nd
 rw [e] at nd
 rw [List.nodup_append,List.nodup_append] at nd
 obtain ⟨⟨_,n2,n3⟩,_,n5⟩:=nd
 rcases List.mem_append.mp q with z|z
 ·unfold Fm.own at z
  rcases List.mem_append.mp z with z|z
  ·exact n3 a z a List.mem_cons_self rfl
  ·exact (List.nodup_cons.mp n2).1 z
 ·exact n5 a (by simp) a z rfl
theorem St.leave {h':Heap}{f:Fm}(S:St P Z η (f::fs) h)(k:∀b o,b∉f.own->h.get? b=some o->h'.get? b=some o):St P Z η fs h':=by
 have hin:∀{b},b∈f.own->b∈(f::fs).flatMap Fm.own:=λhb=>by refine rW List.flatMap_cons ?_;exact List.mem_append_left _ hb
 have S':=S.pop
 have nd:=S.nd
 rw [List.flatMap_cons,List.nodup_append] at nd
 refine ⟨λb o q=>k b o (λhb=>?_) (S.z b o q),λb x q=>⟨(S.e b x q).1,(S.e b x q).2.move (λξ ξ z=>z) λo z=>k b o (λhb=>?_) z⟩,
  λg hg=>(S'.f g hg).move (λξ ξ z=>z) λb o hb z=>k b o (λhf=>?_) z,S'.own,S'.nd,S'.cl⟩
 ·rw [(S.own b (hin hb)).1] at q;cases q
 ·rw [(S.own b (hin hb)).2] at q;cases q
 ·exact nd.2.2 b hf b (S'.eH hg hb) rfl
theorem St.push {h':Heap}{f:Fm}(S:St P Z η fs h)(k:h.StaysIn h')(F:iZ P Z h' f)(fr:∀a∈f.own,h.objs.size<=a)(nd:f.own.Nodup)
  (hc:∀p∈f.env.cells,f.real=true\/p.2∈fs.flatMap Fm.core):St P Z η (f::fs) h':=by
 have S':=S.keep k
 refine ⟨S'.z,S'.e,λg hg=>?_,λa ha=>?_,?_,hc,S.cl⟩
 ·clear hc nd fr;rcases List.mem_cons.mp hg with rfl|hg
  ·exact F
  ·exact S'.f g hg
 ·rw [List.flatMap_cons] at ha
  rcases List.mem_append.mp ha with ha|ha
  ·exact ⟨S.lJ (fr a ha),S.cV (fr a ha)⟩
  ·exact S.own a ha
 ·rw [List.flatMap_cons,List.nodup_append]
  exact ⟨nd,S.nd,λa ha b hb q=>S.gq (fr a ha) (by refine rW q ?_;exact hb)⟩
end
structure Gc where
 prog:Program
 w:World
 K:Frag
 gt:List (Str×V)
 os:OsState
 kF:Addr
 dP:List (Addr×Str)
 Ar:List ((Addr×Str)×Addr)
 fns:List (Str×Addr)
noncomputable def FZ (K:Frag)(C:Addr)(x:Str):Prop:=
 findIn K (.ref C) "__getattribute__"=some (some (.builtin "object.__getattribute__"))/\hasDictIn K C=true/\findIn K (.ref C) x=some none/\
 findIn K (.ref C) "__setattr__"=some (some (.builtin "object.__setattr__"))/\plainOver K C=true/\takerIn K C x=some none/\(clsIn K C).any (·.hasDict)=true
structure Gv (G:Gc):Prop where
 at_:∀C x,(C,x)∈G.dP->FZ G.K C x
 mt:∀C x f,G.Ar.lookup (C,x)=some f->keepIn G.K (.ref f)=true/\findIn G.K (.ref C) "__getattribute__"=some (some (.builtin "object.__getattribute__"))/\findIn G.K (.ref C) "__getattr__"=some none/\findIn G.K (.ref C) x=some (some (.ref f))/\typeIn G.K (.ref f)=some (.type "function")
 fn:∀x a,G.fns.lookup x=some a->G.gt.lookup x=some (.con (.ref a))/\keepIn G.K (.ref a)=true
structure Bs (G:Gc)(Z:Heap):Prop where
 DE:Gv G
 k:G.K.In Z
 lim:Z.NoLimit
 glob:∃mg mb,Z.Ns mainGlobals mg/\Z.Ns builtinsNs mb/\∀x X,G.gt.lookup x=some X->∃v,(mg x=some v\/(mg x=none/\mb x=some v))/\Rel G.w.params Z X v
theorem Bs.mono {G:Gc}{Z Z':Heap}(B:Bs G Z)(k:Z.StaysIn Z'):Bs G Z':=by
 obtain ⟨o,a,b,mg,mb,c,d,e⟩:=B
 exact ⟨o,a.keeps k,b.keeps k,mg,mb,c.keeps k,d.keeps k,λx X h=>let ⟨v,h1,h2⟩:=e x X h;⟨v,h1,h2.mono k⟩⟩
structure Sx (G:Gc)(Z:Heap)(η:Hm)(fs:List Fm)(s:Shared):Prop where
 st:St G.w.params Z η fs s.heap
 bs:Bs G Z
 gens:s.gens= #[]
 os:s.os=G.os
noncomputable def aT (fs:List Fm):List Env:=(fs.filter (·.real)).map (·.env)
structure gA (A:Around)(fs:List Fm)(n:Nat):Prop where
 handled:A.handled=none
 frames:A.frames=some (aT fs)
 guards:A.guards=some []
 depth:A.depth+2*n<=600
 units:A.units+12*n<=5000
noncomputable def D3 (B h:Heap)(L e:Addr)(cls:Value):Prop:=
 (∃oe vs a0,h.get? e=some oe/\oe.cls=cls/\oe.data= .fields vs/\vs[0]?=some a0/\vs[1]?=some .none)\/
 (∃a0,h.TracedAtW B e cls a0 .none)\/(∃a0,h.TracedAtW B e cls a0 (rawInt L))
noncomputable def p4:List Fm->Addr
 | []=>0
 | f::r=>if f.real then f.env.locals else p4 r
section
variable (G:Gc)
noncomputable def mY (fs fs':List Fm):Prop:=fs'=fs\/∃f r ρ',fs=f::r/\fs'={f with ρ:=ρ'}::r
inductive PV (Z:Heap)(fs:List Fm)(Q:V->Hm->Prop)(v:Value)(s:Shared):Prop
 | mk (Z':Heap) (η:Hm) (X:V) (a:Z.StaysIn Z') (b:Sx G Z' η fs s) (c:Rel G.w.params Z' X v) (d:Q X η)
inductive PB (Z:Heap)(fs:List Fm)(Q:Bool->Hm->Prop)(b:Bool)(s:Shared):Prop
 | mk (Z':Heap) (η:Hm) (a:Z.StaysIn Z') (c:Sx G Z' η fs s) (d:Q b η)
inductive PX (Z:Heap)(fs:List Fm)(E:Prop)(e:Value)(s:Shared):Prop
 | mk (hE:E) (Z' B:Heap) (fs':List Fm) (a:Addr) (h1:Z.StaysIn Z') (h2:mY fs fs') (h3:e= .ref a) (h4:Sx G Z' nul fs' s) (h5:Z'.StaysIn B) (h6:∀f∈fs',∀p∈f.extra,B.get? p.1=some p.2) (h7:B.StaysIn s.heap) (h8:B.get? a=none)
  (h9:s.heap.FunFrames B (aT fs)) (h10:D3 B s.heap (p4 fs) a (.ref G.kF))
theorem PX.hE {G:Gc}{Z:Heap}{fs:List Fm}{E:Prop}{e:Value}{s:Shared}:PX G Z fs E e s->E
 | ⟨h,_,_,_,_,_,_,_,_,_,_,_,_,_,_⟩=>h
end
section
variable {G:Gc}{A:Around}{fs:List Fm}{η:Hm}{E:Prop}{Z:Heap}{s:Shared}{Q:V->Hm->Prop}
theorem StaysIn.trans {a b c:Heap}(x:a.StaysIn b)(y:b.StaysIn c):a.StaysIn c:=λp o e=>y p o (x p o e)
theorem StaysIn.refl (a:Heap):a.StaysIn a:=λξ ξ e=>e
theorem PV.weak {Z Z':Heap}(k:Z.StaysIn Z'){v:Value}{s:Shared}(h:PV G Z' fs Q v s):PV G Z fs Q v s:=by
 obtain ⟨Z2,η,X,a,b,c,d⟩:=h
 exact ⟨Z2,η,X,StaysIn.trans k a,b,c,d⟩
theorem PX.weak {Z Z':Heap}(k:Z.StaysIn Z'){v:Value}{s:Shared}(h:PX G Z' fs E v s):PX G Z fs E v s:=by
 obtain ⟨e,Z2,B,fs',a,b,h2,h3,h4,h5,h6,h7,h8,h9,h10⟩:=h
 exact ⟨e,Z2,B,fs',a,StaysIn.trans k b,h2,h3,h4,h5,h6,h7,h8,h9,h10⟩
noncomputable def WV (G:Gc)(A:Around)(fs:List Fm)(t:Sem Value)(η:Hm)(Q:V->Hm->Prop)(E:Prop):Prop:=
 ∀Z s,Sx G Z η fs s->wpAny (model G.prog G.w) A t (PV G Z fs Q) (PX G Z fs E) s
noncomputable def WB (G:Gc)(A:Around)(fs:List Fm)(t:Sem Bool)(η:Hm)(Q:Bool->Hm->Prop)(E:Prop):Prop:=
 ∀Z s,Sx G Z η fs s->wpAny (model G.prog G.w) A t (PB G Z fs Q) (PX G Z fs E) s
theorem WV.run {t:Sem Value}(h:WV G A fs t η Q E)(S:Sx G Z η fs s){R:Value->Shared->Prop}
  (k:∀Z' η' X v s',Z.StaysIn Z'->Sx G Z' η' fs s'->Rel G.w.params Z' X v->Q X η'->R v s'):wpAny (model G.prog G.w) A t R (PX G Z fs E) s:=
 wpAny_mono (h Z s S) (λv s' ⟨Z',η',X,a,b,c,d⟩=>k Z' η' X v s' a b c d) λξ ξ x=>x
theorem WB.run {t:Sem Bool}{Q:Bool->Hm->Prop}(h:WB G A fs t η Q E)(S:Sx G Z η fs s){R:Bool->Shared->Prop}
  (k:∀Z' η' b s',Z.StaysIn Z'->Sx G Z' η' fs s'->Q b η'->R b s'):wpAny (model G.prog G.w) A t R (PX G Z fs E) s:=
 wpAny_mono (h Z s S) (λv s' ⟨Z',η',a,b,c⟩=>k Z' η' v s' a b c) λξ ξ x=>x
theorem weaken {α:Type}{Z Z':Heap}{t:Sem α}{R R':α->Shared->Prop}{s:Shared}(k:Z.StaysIn Z')(h:wpAny (model G.prog G.w) A t R (PX G Z' fs E) s)(q:∀a s,R a s->R' a s):wpAny (model G.prog G.w) A t R' (PX G Z fs E) s:=
 wpAny_mono h q λξ ξ x=>x.weak k
theorem Sx.tok (S:Sx G Z η fs s)(t:Nat):Sx G Z η fs {s with toks:=t}:=⟨S.st,S.bs,S.gens,S.os⟩
theorem Sx.move (S:Sx G Z η fs s){h':Heap}{η':Hm}{fs':List Fm}{t:Nat}(x:St G.w.params Z η' fs' h'):Sx G Z η' fs' {s with heap:=h',toks:=t}:=⟨x,S.bs,S.gens,S.os⟩
theorem Sx.grow {Z':Heap}(S:Sx G Z η fs s)(k:Z.StaysIn Z'){η':Hm}{fs':List Fm}{h':Heap}{t:Nat}(x:St G.w.params Z' η' fs' h'):Sx G Z' η' fs' {s with heap:=h',toks:=t}:=⟨x,S.bs.mono k,S.gens,S.os⟩
theorem pv (S:Sx G Z η fs s){X:V}{v:Value}(r:Rel G.w.params Z X v)(q:Q X η):PV G Z fs Q v s:=⟨Z,η,X,StaysIn.refl Z,S,r,q⟩
theorem bh {P:Params}{Z:Heap}{i:Int}{t:Tok}:Rel P Z (.int i) (.int i t):=by exact ⟨t,rfl⟩
theorem ix {P:Params}{Z:Heap}{i:Str}{t:Tok}:Rel P Z (.str i) (.str i t):=by exact ⟨t,rfl⟩
theorem gF {P:Params}{Z:Heap}:Rel P Z .none .none:=rfl
theorem fQ {P:Params}{Z:Heap}{b:Bool}:Rel P Z (.bool b) (.bool b):=rfl
theorem iR {P:Params}{Z:Heap}{a:Addr}:Rel P Z (.ref a) (.ref a):=rfl
theorem aY {P:Params}{Z:Heap}{i:Int}{v:Value}(h:Rel P Z (.int i) v):∃t,v= .int i t:=h
theorem aX {P:Params}{Z:Heap}{i:Str}{v:Value}(h:Rel P Z (.str i) v):∃t,v= .str i t:=h
theorem of_none {P:Params}{Z:Heap}{v:Value}(h:Rel P Z .none v):v= .none:=h
theorem eT {P:Params}{Z:Heap}{b:Bool}{v:Value}(h:Rel P Z (.bool b) v):v= .bool b:=h
theorem fR {P:Params}{Z:Heap}{a:Addr}{v:Value}(h:Rel P Z (.ref a) v):v= .ref a:=h
theorem o9 {P:Params}{Z:Heap}{c:Value}{v:Value}(h:Rel P Z (.con c) v):v=c:=h
theorem CJ {i:Int}{k pos}{env:Env}(q:Q (.int i) η):WV G A fs (eval (.Constant (.int i) k pos) env) η Q E:=λξ ξ S=>wpAny_Constant_int (pv (S.tok _) bh q)
theorem Aa {x:Str}{k pos}{env:Env}(q:Q (.str x) η):WV G A fs (eval (.Constant (.str x) k pos) env) η Q E:=λξ ξ S=>wpAny_Constant_str (pv (S.tok _) ix q)
theorem AQ {k pos}{env:Env}(q:Q .none η):WV G A fs (eval (.Constant .none k pos) env) η Q E:=λξ ξ S=>wpAny_Constant_none (pv S gF q)
theorem AU {b:Bool}{k pos}{env:Env}(q:Q (.bool b) η):WV G A fs (eval (.Constant (.bool b) k pos) env) η Q E:=λξ ξ S=>wpAny_Constant_bool (pv S fQ q)
theorem pY {f:Fm}{r:List Fm}{i:Nat}{x:Str}{pos:Pos}{X:V}(hm:(i,x)∈f.vars)(hx:f.ρ[i]?=some (some X))(hd:(x==("__debug__":Str))=false)(q:Q X η):
  WV G A (f::r) (eval (.Name x pos) f.env) η Q E:=λZ s S=>by
 have F:=S.st.f f List.mem_cons_self
 obtain ⟨m,hn,hv⟩:=F.ns
 refine wpAny_Name ?_ hd
 rcases hv i x X hm hx with ⟨hk,v,e,rl⟩|⟨hk,c,v,hc,hcell,rl⟩
 ·exact wpAny_loadName_local F.kind hk hn e (pv S rl q)
 ·exact wpAny_loadName_cell F.kind hk hc hcell (pv S rl q)
theorem Ab {f:Fm}{r:List Fm}{x:Str}{pos:Pos}{X:V}(hg:G.gt.lookup x=some X)(hk:f.env.kindOf x=some .globalImplicit)(hd:(x==("__debug__":Str))=false)(q:Q X η):
  WV G A (f::r) (eval (.Name x pos) f.env) η Q E:=λZ s S=>by
 have F:=S.st.f f List.mem_cons_self
 obtain ⟨mg,mb,a,b,c⟩:=S.bs.glob
 obtain ⟨v,e,rl⟩:=c x X hg
 have a':=a.keeps S.st.z
 have b':=b.keeps S.st.z
 refine Calls.Name_function_global F.kind hk ?_ hd
 rcases e with e|⟨e0,e⟩
 ·exact Calls.loadGlobal_global (F.glob▸a') e (pv S rl q)
 ·exact Calls.loadGlobal_builtin (F.glob▸a') e0 (F.blt▸b') e (pv S rl q)
theorem j1 {α:Type}{p:Prop} [Decidable p]{a b:Option α}{x:α}(h:(if p then a else b)=some x):(p/\a=some x)\/b=some x:=by
 by_cases z:p
 ·rw [if_pos z] at h;exact .inl ⟨z,h⟩
 ·rw [if_neg z] at h;exact .inr h
noncomputable def xd (o:AO):Option (List V):=match o with
 | .list l=>some l
 | _=>none
noncomputable def qY (η:Hm):V->Option (List V)
 | .lst l=>some l
 | .ref a=>(η a).bind xd
 | _=>none
theorem xc {o:AO}{l:List V}(e:xd o=some l):o= .list l:=by
 cases o with
 | list l=>cases e;rfl
 | _=>cases e
theorem e9 {η:Hm}{X:V}{v:Value}{l:List V}(S:Sx G Z η fs s)(r:Rel G.w.params Z X v)(e:qY η X=some l):
  z5 eG s.heap (ar G.w.params Z l) v:=by
 cases X with
 | lst l'=>
  cases e
  obtain ⟨a,items,n,rfl,h1,h2⟩:=r
  exact ⟨a,items,n,rfl,S.st.z _ _ h1,h2⟩
 | ref a=>
  obtain ⟨o,q,e⟩:=Option.bind_eq_some_iff.mp e
  obtain rfl:=xc e
  obtain ⟨items,n,h1,h2⟩:=(S.st.e _ _ q).2
  exact ⟨a,items,n,fR r,h1,h2⟩
 | _=>cases e
noncomputable def eA (m:Bool)(l:List V)(η:Hm)(Q:V->Hm->Prop):Prop:=
 if m then ∀a,η a=none->Q (.ref a) (upd η a (.list l)) else Q (.lst l) η
theorem aW (h:Heap)(o:Obj):h.StaysIn (h.push o):=λξ ξ e=>Heap.get?_push_of_some _ e
theorem o7 {m:Bool}{l:List V}{items:Array Value}{n t:Nat}(S:Sx G Z η fs s)(r:ar G.w.params Z l items.toList)(q:eA m l η Q):
  PV G Z fs Q (.ref s.heap.objs.size) {s with heap:=s.heap.push (eG items n),toks:=t}:=by
 have k:=aW s.heap (eG items n)
 have g:(s.heap.push (eG items n)).get? s.heap.objs.size=some (eG items n):=Heap.get?_push_size _ rfl
 cases m with
 | true=>
  refine ⟨Z,_, .ref s.heap.objs.size,StaysIn.refl Z,S.move (S.st.new k (Nat.le_refl _) (x':= .list l) ⟨items,n,g,r⟩),iR,?_⟩
  exact (show ∀a,η a=none->Q (.ref a) (upd η a (.list l)) from by simpa [eA] using q) _ (S.st.cV (Nat.le_refl _))
 | false=>
  obtain ⟨Z',hz,hp,S'⟩:=(S.st.keep k).freeze (λa=>a=s.heap.objs.size) (λa e=>S.st.cV (Nat.le_of_eq e.symm)) λa e=>S.st.gq (Nat.le_of_eq e.symm)
  refine ⟨Z',η, .lst l,hz,S.grow hz S',?_,by simpa [eA] using q⟩
  exact ⟨_,items,n,rfl,hp _ _ rfl g,r.mono hz⟩
theorem o6 {l:List V}{items:Array Value}{n t:Nat}(S:Sx G Z η fs s)(r:ar G.w.params Z l items.toList)(q:Q (.tup l) η):
  PV G Z fs Q (.ref s.heap.objs.size) {s with heap:=s.heap.push (uy items n),toks:=t}:=by
 have k:=aW s.heap (uy items n)
 have g:(s.heap.push (uy items n)).get? s.heap.objs.size=some (uy items n):=Heap.get?_push_size _ rfl
 obtain ⟨Z',hz,hp,S'⟩:=(S.st.keep k).freeze (λa=>a=s.heap.objs.size) (λa e=>S.st.cV (Nat.le_of_eq e.symm)) λa e=>S.st.gq (Nat.le_of_eq e.symm)
 refine ⟨Z',η, .tup l,hz,S.grow hz S',?_,q⟩
 exact ⟨_,items,n,rfl,hp _ _ rfl g,r.mono hz⟩
inductive vE {α:Type}(o:Option α)(P:α->Prop):Prop
 | mk (a:α) (h:o=some a) (q:P a)
inductive Es {α β:Type}(y:β)(f:α->β)(P:α->Prop):Prop
 | mk (b:α) (e:y=f b) (q:P b)
inductive Gw {α:Type}(y:Value)(f:α->Tok->Value)(P:α->Prop):Prop
 | mk (b:α) (t:Tok) (e:y=f b t) (q:P b)
inductive Ht (o:Option AO)(P:List V->Prop):Prop
 | mk (l:List V) (h:o=some (.list l)) (q:P l)
noncomputable def xX {α:Type}(o:Option α)(P:α->Prop):Prop:=match o with
 | some a=>P a
 | none=>False
theorem iX {α:Type}{o:Option α}{P:α->Prop}(h:xX o P):vE o P:=by
 cases o with
 | none=>exact h.elim
 | some a=>exact ⟨a,rfl,h⟩
theorem jE {α:Type}{o:Option α}{a:α}{P:α->Prop}(e:o=some a)(h:P a):xX o P:=by subst e;exact h
noncomputable def eh (y:V)(P:Int->Prop):Prop:=match y with
 | .int b=>P b
 | _=>False
noncomputable def q9 (y:V)(P:Str->Prop):Prop:=match y with
 | .str b=>P b
 | _=>False
noncomputable def Ga (y:V)(P:List V->Prop):Prop:=match y with
 | .tup b=>P b
 | _=>False
noncomputable def jV (η:Hm)(y:V)(P:List V->Prop):Prop:=match y with
 | .lst l=>P l
 | .ref a=>Ht (η a) P
 | _=>False
theorem Bt {y:V}{P:Int->Prop}(h:eh y P):Es y V.int P:=by
 cases y<;>first|exact ⟨_,rfl,h⟩|exact h.elim
theorem Br {y:V}{P:Str->Prop}(h:q9 y P):Es y V.str P:=by
 cases y<;>first|exact ⟨_,rfl,h⟩|exact h.elim
theorem Bq {y:V}{P:List V->Prop}(h:Ga y P):Es y V.tup P:=by
 cases y<;>first|exact ⟨_,rfl,h⟩|exact h.elim
set_option tactic.hygienic true in
theorem cR {y:V}{P:List V->Prop}(h:jV η y P):vE (qY η y) P:=by
 cases y
 case lst l=>exact ⟨l,rfl,h⟩
 case ref a=>obtain ⟨l,e,q⟩:=h;exact ⟨l,by refine (?_:(η a).bind xd=_);refine rW e ?_;rfl,q⟩
 all_goals exact h.elim
theorem aE {P:Params}{Z:Heap}{y:V}{v:Value}{F:Int->Prop}(h:eh y F)(r:Rel P Z y v):Gw v Value.int F:=by
 obtain ⟨b,rfl,q⟩:=Bt h;obtain ⟨t,rfl⟩:=aY r;exact ⟨b,t,rfl,q⟩
theorem gU {P:Params}{Z:Heap}{y:V}{v:Value}{F:Str->Prop}(h:q9 y F)(r:Rel P Z y v):Gw v Value.str F:=by
 obtain ⟨b,rfl,q⟩:=Br h;obtain ⟨t,rfl⟩:=aX r;exact ⟨b,t,rfl,q⟩
noncomputable def CN (m:Bool)(x y:V)(η:Hm)(Q:V->Hm->Prop):Prop:=match x with
 | .int a=>(match y with
  | .int b=>Q (.int (a+b)) η
  | .bool b=>Q (.int (a+if b=true then (1:Int) else 0)) η
  | _=>False)
 | .str a=>q9 y λb=>a.length+b.length<=sizeLine/\Q (.str (a++b)) η
 | .tup a=>Ga y λb=>a.length+b.length<=sizeLine/\Q (.tup (a++b)) η
 | x=>jV η x λa=>jV η y λb=>a.length+b.length<=sizeLine/\eA m (a++b) η Q
noncomputable def AX (m:Bool)(o:Operator)(x y:V)(η:Hm)(Q:V->Hm->Prop):Prop:=
 match o with
 | .Add=>CN m x y η Q
 | .Sub=>eh x λa=>eh y λb=>Q (.int (a-b)) η
 | .Mult=>(match x with
  | .int a=>eh y λb=>IntMulOk a b/\Q (.int (a*b)) η
  | x=>jV η x λa=>eh y λn=>(-(2^63:Int)<=n/\n<2^63/\a.length*n.toNat<=2^24)/\eA m (List.replicate n.toNat a).flatten η Q)
 | .FloorDiv=>eh x λa=>eh y λb=>(b≠0/\Builtin.divisionGoesByPylong a b=false)/\Q (.int (a.fdiv b)) η
 | .Mod=>eh x λa=>eh y λb=>b≠0/\Q (.int (a.fmod b)) η
 | .Pow=>eh x λa=>eh y λb=>(0<=b/\(Builtin.Int.intBits a:Int)*b<=2^27)/\Q (.int (a^b.toNat)) η
 | .LShift=>eh x λa=>eh y λb=>(0<=b/\b<=1000000/\a.natAbs<2^64)/\Q (.int (a*2^b.toNat)) η
 | .RShift=>eh x λa=>eh y λb=>0<=b/\Q (.int (a.fdiv (2^b.toNat))) η
 | .BitAnd=>eh x λa=>eh y λb=>Q (.int (Builtin.bitAnd a b)) η
 | .BitOr=>eh x λa=>eh y λb=>Q (.int (Builtin.bitOr a b)) η
 | _=>False
theorem qQ {P:Params}{Z:Heap}{l:List V}{vs:List Value}(r:ar P Z l vs):∀n:Nat,ar P Z (List.replicate n l).flatten (List.replicate n vs).flatten
 | 0=>rfl
 | n+1=>by simp only [List.replicate_succ,List.flatten_cons];exact r.append (qQ r n)
theorem og (items:Array Value):∀(n:Nat) (acc:Array Value),(List.foldl (λx1 x2=>x1++x2) acc (List.replicate n items)).toList=acc.toList++(List.replicate n items.toList).flatten
 | 0,acc=>by simp
 | n+1,acc=>by refine rW List.replicate_succ (rW List.foldl_cons (rW (og items n ..) ?_));simp [List.replicate_succ,Array.toList_append]
theorem uE (items:Array Value)(n:Nat):(List.foldl (λx1 x2=>x1++x2) #[] (List.replicate (if items.isEmpty=true then 0 else n) items)).toList=(List.replicate n items.toList).flatten:=by
 refine rW (og ..) ?_
 by_cases h:items.isEmpty=true
 ·have:items.toList= []:=by simpa using h
  simp [h,this]
 ·simp [h]
theorem sN {x y:V}{a b:List V}{va vb:Value}{m:Bool}(S:Sx G Z η fs s)(ra:Rel G.w.params Z x va)(rb:Rel G.w.params Z y vb)(ea:qY η x=some a)(eb:qY η y=some b)(hs:a.length+b.length<=sizeLine)
  (q:eA m (a++b) η Q):wpAny (model G.prog G.w) A (binaryOp .Add va vb) (PV G Z fs Q) (PX G Z fs E) s:=by
 obtain ⟨l,i1,n1,rfl,h1,r1⟩:=e9 S ra ea
 obtain ⟨l2,i2,n2,rfl,h2,r2⟩:=e9 S rb eb
 have e1:=r1.length
 have e2:=r2.length
 refine concat_meets ⟨_,h1,rfl⟩ ⟨_,h2,rfl⟩ noFill_list_add seq_list_add PySem.F.slot_list_add PySem.F.entry_list_add (PySem.F.args_list_add_2 _ _)
  (AutoSeq1.list___add___list_list_0 l i1 n1 l2 i2 n2 (by simp only [Array.length_toList] at e1 e2;(simp only [*]))) ⟨h1,h2,?_⟩
 exact o7 (n:=0) S (by refine rW Array.toList_append ?_;exact r1.append r2) q
theorem sM {x:V}{a:List V}{va:Value}{n:Int}{u:Tok}{m:Bool}(S:Sx G Z η fs s)(ra:Rel G.w.params Z x va)(ea:qY η x=some a)(hn: -(2^63:Int)<=n/\n<2^63/\a.length*n.toNat<=2^24)
  (q:eA m (List.replicate n.toNat a).flatten η Q):wpAny (model G.prog G.w) A (binaryOp .Mult va (.int n u)) (PV G Z fs Q) (PX G Z fs E) s:=by
 obtain ⟨l,items,k,rfl,hl,r1⟩:=e9 S ra ea
 have e1:=r1.length
 simp only [Array.length_toList] at e1
 obtain ⟨hlo,hhi,hsz⟩:=hn
 rw [<-e1] at hsz
 exact wpAny_binaryOp_repeat_ref (T:="list") (U:="int") (by decide) ⟨_,hl,rfl⟩ (λs'=>typeIs_int s' n u) noFill_list_mul PySem.F.fills_int_mul PySem.F.slot_int_rmul repeat_list PySem.F.slot_int_index.lookup
  (call_meets PySem.F.slot_int_rmul (typeIs_int s n u) PySem.F.entry_int_rmul (PySem.F.args_int_rmul_2 _ _) (int___rmul___int_list n u l items k)
   ⟨hl,rfl,⟨_,hl,rfl⟩,call_meets PySem.F.slot_list_mul ⟨_,hl,rfl⟩ PySem.F.entry_list_mul (PySem.F.args_list_mul_2 _ _)
    (AutoListH.list___mul___list_int_3 l items k n u (by simp [Builtin.List.listFitsIndex];(refine ⟨?_,?_⟩<;>assumption)) (by lia) (by simp [Builtin.List.listTooLong,sizeLine];assumption))
    ⟨hl,o7 (n:=0) S (by refine rW (uE ..) ?_;exact qQ r1 _) q⟩⟩)
theorem lR {l:List V}{v:Value}(S:Sx G Z η fs s)(r:Rel G.w.params Z (.tup l) v):z5 uy s.heap (ar G.w.params Z l) v:=by
 obtain ⟨a,items,n,rfl,h1,h2⟩:=r
 exact ⟨a,items,n,rfl,S.st.z _ _ h1,h2⟩
theorem vk {a b:List V}{va vb:Value}(S:Sx G Z η fs s)(ra:Rel G.w.params Z (.tup a) va)(rb:Rel G.w.params Z (.tup b) vb)(hs:a.length+b.length<=sizeLine)
  (q:Q (.tup (a++b)) η):wpAny (model G.prog G.w) A (binaryOp .Add va vb) (PV G Z fs Q) (PX G Z fs E) s:=by
 obtain ⟨l,i1,n1,rfl,h1,r1⟩:=lR S ra
 obtain ⟨l2,i2,n2,rfl,h2,r2⟩:=lR S rb
 have e1:=r1.length
 have e2:=r2.length
 simp only [Array.length_toList] at e1 e2
 by_cases z1:i1.isEmpty=true
 ·have:a= []:=by rw [Array.isEmpty_iff_size_eq_zero] at z1;rw [z1] at e1;exact List.length_eq_zero_iff.mp e1.symm
  clear e1 r1 ra hs;subst this
  exact concat_meets ⟨_,h1,rfl⟩ ⟨_,h2,rfl⟩ noFill_tuple_add seq_tuple_add PySem.F.slot_tuple_add PySem.F.entry_tuple_add (PySem.F.args_tuple_add_2 _ _) (AutoSeq1.tuple___add___tuple_tuple_0 l i1 n1 l2 i2 n2 z1) ⟨h1,h2,pv (S.tok _) rb (by simpa using q)⟩
 ·by_cases z2:i2.isEmpty=true
  ·have:b= []:=by rw [Array.isEmpty_iff_size_eq_zero] at z2;rw [z2] at e2;exact List.length_eq_zero_iff.mp e2.symm
   clear e2 r2 rb hs;subst this
   exact concat_meets ⟨_,h1,rfl⟩ ⟨_,h2,rfl⟩ noFill_tuple_add seq_tuple_add PySem.F.slot_tuple_add PySem.F.entry_tuple_add (PySem.F.args_tuple_add_2 _ _) (AutoSeq1.tuple___add___tuple_tuple_1 l i1 n1 l2 i2 n2 z1 z2) ⟨h1,h2,pv (S.tok _) ra (by simpa using q)⟩
  ·exact concat_meets ⟨_,h1,rfl⟩ ⟨_,h2,rfl⟩ noFill_tuple_add seq_tuple_add PySem.F.slot_tuple_add PySem.F.entry_tuple_add (PySem.F.args_tuple_add_2 _ _) (AutoSeq1.tuple___add___tuple_tuple_2 l i1 n1 l2 i2 n2 z1 z2 (by exact lC hs (eL e1) (eL e2)))
    ⟨h1,h2,o6 (n:=0) S (by refine rW Array.toList_append ?_;exact r1.append r2) q⟩
set_option tactic.hygienic true in
theorem C9 {m:Bool}{x y:V}{va vb:Value}(S:Sx G Z η fs s)(ra:Rel G.w.params Z x va)(rb:Rel G.w.params Z y vb)(q:CN m x y η Q):
  wpAny (model G.prog G.w) A (binaryOp .Add va vb) (PV G Z fs Q) (PX G Z fs E) s:=by
 have hl:∀{x:V},Rel G.w.params Z x va->(jV η x λa=>jV η y λb=>a.length+b.length<=sizeLine/\eA m (a++b) η Q)->wpAny (model G.prog G.w) A (binaryOp .Add va vb) (PV G Z fs Q) (PX G Z fs E) s:=λra q=>by
  obtain ⟨a,ea,q⟩:=cR q
  obtain ⟨b,eb,q⟩:=cR q
  exact sN S ra rb ea eb q.1 q.2
 cases x
 case int a=>
  clear hl;obtain ⟨t,rfl⟩:=aY ra
  cases y
  case int b=>obtain ⟨u,rfl⟩:=aY rb;exact PyProof.Rows.add_int (pv (S.tok _) bh q)
  case bool b=>obtain rfl:=eT rb;exact PySem.add_int_bool (pv (S.tok _) bh q)
  all_goals exact q.elim
 case str a=>
  clear hl;obtain ⟨t,rfl⟩:=aX ra
  obtain ⟨b,u,rfl,q⟩:=gU q rb
  exact PyProof.Rows.add_str (λξ ξ=>pv (S.tok _) ix q.2) q.1
 case tup a=>clear hl;obtain ⟨b,rfl,q⟩:=Bq q;exact vk S ra rb q.1 q.2
 all_goals exact hl ra q
set_option tactic.hygienic true in
theorem C7 {m:Bool}{o:Operator}{x y:V}{va vb:Value}(S:Sx G Z η fs s)(ra:Rel G.w.params Z x va)(rb:Rel G.w.params Z y vb)(q:AX m o x y η Q):
  wpAny (model G.prog G.w) A (binaryOp o va vb) (PV G Z fs Q) (PX G Z fs E) s:=by
 cases o
 case Add=>exact C9 S ra rb q
 case Mult=>
  have hl:∀{x:V},Rel G.w.params Z x va->(jV η x λa=>eh y λn=>(-(2^63:Int)<=n/\n<2^63/\a.length*n.toNat<=2^24)/\eA m (List.replicate n.toNat a).flatten η Q)->wpAny (model G.prog G.w) A (binaryOp .Mult va vb) (PV G Z fs Q) (PX G Z fs E) s:=λra q=>by
   obtain ⟨a,ea,q⟩:=cR q
   obtain ⟨n,u,rfl,q⟩:=aE q rb
   exact sM S ra ea q.1 q.2
  cases x
  case int a=>obtain ⟨t,rfl⟩:=aY ra;obtain ⟨b,u,rfl,q⟩:=aE q rb;exact PyProof.Rows.mul_int (pv (S.tok _) bh q.2) q.1
  all_goals exact hl ra q
 case Sub=>obtain ⟨a,t,rfl,q⟩:=aE q ra;obtain ⟨b,u,rfl,q⟩:=aE q rb;exact PyProof.Rows.sub_int (pv (S.tok _) bh q)
 case FloorDiv=>obtain ⟨a,t,rfl,q⟩:=aE q ra;obtain ⟨b,u,rfl,q⟩:=aE q rb;exact floordiv_int q.1.1 (pv (S.tok _) bh q.2) (.inl q.1.2)
 case Mod=>obtain ⟨a,t,rfl,q⟩:=aE q ra;obtain ⟨b,u,rfl,q⟩:=aE q rb;exact mod_int' q.1 (pv (S.tok _) bh q.2)
 case Pow=>obtain ⟨a,t,rfl,q⟩:=aE q ra;obtain ⟨b,u,rfl,q⟩:=aE q rb;exact pow_int q.1.1 q.1.2 (pv (S.tok _) bh q.2)
 case LShift=>obtain ⟨a,t,rfl,q⟩:=aE q ra;obtain ⟨b,u,rfl,q⟩:=aE q rb;exact lshift_int_small q.1.1 q.1.2.1 q.1.2.2 (pv (S.tok _) bh q.2)
 case RShift=>obtain ⟨a,t,rfl,q⟩:=aE q ra;obtain ⟨b,u,rfl,q⟩:=aE q rb;exact rshift_int q.1 (pv (S.tok _) bh q.2)
 case BitAnd=>obtain ⟨a,t,rfl,q⟩:=aE q ra;obtain ⟨b,u,rfl,q⟩:=aE q rb;exact and_int (pv (S.tok _) bh q)
 case BitOr=>obtain ⟨a,t,rfl,q⟩:=aE q ra;obtain ⟨b,u,rfl,q⟩:=aE q rb;exact or_int (pv (S.tok _) bh q)
 all_goals exact q.elim
end
section
open PySem.SeqAt PySem.EqNone PySem.EqMixed
theorem lN {α:Type} [BEq α] [LawfulBEq α] [DecidableEq α](a b:α):(a==b)=decide (a=b):=by
 by_cases h:a=b
 ·subst h;simp
 ·rw [decide_eq_false h,beq_eq_false_iff_ne];exact h
noncomputable def il (x y:V):Option Bool:=match x with
 | .none=>(match y with
  | .none=>some true
  | .int _=>some false
  | .str _=>some false
  | _=>none)
 | .int a=>(match y with
  | .int b=>some (a==b)
  | .none=>some false
  | .str _=>some false
  | _=>none)
 | .str a=>(match y with
  | .str b=>some (a==b)
  | .none=>some false
  | .int _=>some false
  | _=>none)
 | .bool a=>(match y with
  | .bool b=>some (a==b)
  | _=>none)
 | _=>none
inductive AE:V->V->Bool->Prop
 | nn:AE .none .none true
 | ni (a):AE .none (.int a) false
 | ns (a):AE .none (.str a) false
 | ii (a b):AE (.int a) (.int b) (a==b)
 | IN (a):AE (.int a) .none false
 | is (a b):AE (.int a) (.str b) false
 | ss (a b):AE (.str a) (.str b) (a==b)
 | sn (a):AE (.str a) .none false
 | si (a b):AE (.str a) (.int b) false
 | bb (a b):AE (.bool a) (.bool b) (a==b)
theorem pN {x y:V}{b:Bool}(e:il x y=some b):AE x y b:=by
 cases x
 case none=>cases y<;>first|(cases e;constructor)|cases e
 case int=>cases y<;>first|(cases e;constructor)|cases e
 case str=>cases y<;>first|(cases e;constructor)|cases e
 case bool=>cases y<;>first|(cases e;constructor)|cases e
 all_goals cases e
noncomputable def yc:List V->List V->Option Bool
 | [],l=>(match l with
  | []=>some true
  | _::_=>none)
 | x::r,l=>(match l with
  | []=>none
  | y::q=>(il x y).bind λa=>(yc r q).map (a&&·))
theorem yb {x y:V}{r q:List V}:yc (x::r) (y::q)=(il x y).bind λa=>(yc r q).map (a&&·):=rfl
noncomputable def jA (a b:List V):Option Bool:=if a.length=b.length then yc a b else some false
section
variable {G:Gc}{A:Around}{fs:List Fm}{η:Hm}{E:Prop}{Z:Heap}{s:Shared}{Q:V->Hm->Prop}
noncomputable def vEq:Value->Value->Bool
 | .none, .none=>true
 | .int a _, .int b _=>a==b
 | .str a _, .str b _=>a==b
 | .bool a, .bool b=>a==b
 | _,_=>false
theorem kE {P:Params}{B:Around}{x y:V}{va vb:Value}{b:Bool}(ra:Rel P Z x va)(rb:Rel P Z y vb)(e:il x y=some b):EqAt B s va vb (vEq va vb)/\vEq va vb=b:=by
 cases pN e
 ·obtain rfl:=of_none ra;obtain rfl:=of_none rb;exact ⟨EqAt.same _,rfl⟩
 ·obtain rfl:=of_none ra;obtain ⟨t,rfl⟩:=aY rb;exact ⟨EqAt.none_int _ _,rfl⟩
 ·obtain rfl:=of_none ra;obtain ⟨t,rfl⟩:=aX rb;exact ⟨EqAt.none_str _ _,rfl⟩
 ·obtain ⟨t,rfl⟩:=aY ra;obtain ⟨u,rfl⟩:=aY rb;exact ⟨EqAt.int_int _ _ _ _,rfl⟩
 ·obtain ⟨t,rfl⟩:=aY ra;obtain rfl:=of_none rb;exact ⟨EqAt.int_none _ _,rfl⟩
 ·obtain ⟨t,rfl⟩:=aY ra;obtain ⟨u,rfl⟩:=aX rb;exact ⟨EqAt.int_str _ _ _ _,rfl⟩
 ·obtain ⟨t,rfl⟩:=aX ra;obtain ⟨u,rfl⟩:=aX rb;exact ⟨EqAt.str_str _ _ _ _,rfl⟩
 ·obtain ⟨t,rfl⟩:=aX ra;obtain rfl:=of_none rb;exact ⟨EqAt.str_none _ _,rfl⟩
 ·obtain ⟨t,rfl⟩:=aX ra;obtain ⟨u,rfl⟩:=aY rb;exact ⟨EqAt.str_int _ _ _ _,rfl⟩
 ·obtain rfl:=eT ra;obtain rfl:=eT rb;exact ⟨EqAt.bool_bool _ _,rfl⟩
theorem mV {P:Params}{B:Around}:∀{a b:List V} {us vs:List Value} {r:Bool},ar P Z a us->ar P Z b vs->yc a b=some r->
  us.length=vs.length/\(∀j (h1:j<us.length) (h2:j<vs.length),EqAt B s us[j] vs[j] (vEq us[j] vs[j]))/\((us.zip vs).all λp=>vEq p.1 p.2)=r
 | [],[],us,vs,r,ra,rb,h=>by
  obtain rfl:_= []:=ra;obtain rfl:_= []:=rb
  cases h
  exact ⟨rfl,λj h1=>absurd h1 (Nat.not_lt_zero _),rfl⟩
 | x::a,y::b,us,vs,r,ra,rb,h=>by
  obtain ⟨u,us',rfl,hu,ra⟩:=ra
  obtain ⟨v,vs',rfl,hv,rb⟩:=rb
  obtain ⟨p,e1,h⟩:=Option.bind_eq_some_iff.mp h
  obtain ⟨q,e2,rfl⟩:=Option.map_eq_some_iff.mp h
  obtain ⟨hl,he,hr⟩:=mV (B:=B) ra rb e2
  obtain ⟨h1,h2⟩:=kE (s:=s) (B:=B) hu hv e1
  refine ⟨congrArg (· +1) hl,λj h1' h2'=>?_,?_⟩
  ·cases j with
   | zero=>exact h1
   | succ j=>exact he j (Nat.lt_of_succ_lt_succ h1') (Nat.lt_of_succ_lt_succ h2')
  ·exact rW List.zip_cons_cons (rW List.all_cons (rW hr (rW h2 rfl)))
 | [],_::_,_,_,_,_,_,h=>nomatch h
 | _::_,[],_,_,_,_,_,h=>nomatch h
theorem all_range {us vs:List Value}(hl:us.length=vs.length):(List.range us.length).all (λj=>vEq (us.getD j .none) (vs.getD j .none))=(us.zip vs).all λp=>vEq p.1 p.2:=by
 induction us generalizing vs with
 | nil=>rfl
 | cons u us ih=>
  cases vs with
  | nil=>cases hl
  | cons v vs=>
   refine rW List.length_cons (rW List.range_succ_eq_map (rW List.all_cons (rW List.all_map (rW List.zip_cons_cons (rW List.all_cons (rV (ih (by simpa using hl)) ?_))))))
   rfl
theorem i9 {P:Params}{B:Around}{x:V}{vx:Value}(rx:Rel P Z x vx):∀{l:List V} {vs:List Value} {r:List Bool},ar P Z l vs->(l.mapM λy=>il y x)=some r->
  (∀y∈vs,EqAt B s y vx (vEq y vx))/\vs.any (λy=>vEq y vx)=r.any id
 | [],vs,r,rl,h=>by
  obtain rfl:_= []:=rl
  simp at h;subst h
  exact ⟨λy hy=>(nomatch hy),rfl⟩
 | y::l,vs,r,rl,h=>by
  obtain ⟨v,vs',rfl,hv,rl⟩:=rl
  rw [List.mapM_cons] at h
  obtain ⟨b,hb,h⟩:=Option.bind_eq_some_iff.mp h
  obtain ⟨bs,hbs,h⟩:=Option.bind_eq_some_iff.mp h
  simp at h;subst h
  obtain ⟨h1,h2⟩:=i9 (B:=B) rx rl hbs
  obtain ⟨h3,h4⟩:=kE (s:=s) (B:=B) hv rx hb
  refine ⟨λz hz=>?_,?_⟩
  ·rcases List.mem_cons.mp hz with rfl|hz
   ·exact h3
   ·exact h1 z hz
  ·refine rW List.any_cons (rW List.any_cons (rW h2 (rW h4 ?_)));rfl
noncomputable def xu:V->Option Bool
 | .none=>some true
 | .int _| .str _| .bool _| .lst _| .ref _| .tup _=>some false
 | _=>none
noncomputable def vO (fk:Bool)(p:Prop) [Decidable p](P:Bool->Prop):Prop:=match fk with
 | true=>(p->P true)/\(¬p->P false)
 | false=>P (decide p)
noncomputable def vA (fk c:Bool)(P:Bool->Prop):Prop:=match fk with
 | true=>(c=true->P true)/\(c=false->P false)
 | false=>P c
theorem iJ {fk:Bool}{p:Prop} [Decidable p]{P:Bool->Prop}(h:vO fk p P):P (decide p):=by
 cases fk with
 | false=>exact h
 | true=>
  by_cases q:p
  ·refine rW (decide_eq_true q) ?_;exact h.1 q
  ·refine rW (decide_eq_false q) ?_;exact h.2 q
theorem iK {fk c:Bool}{P:Bool->Prop}(h:vA fk c P):P c:=by
 cases fk with
 | false=>exact h
 | true=>
  cases c with
  | true=>exact h.1 rfl
  | false=>exact h.2 rfl
noncomputable def CM (fk:Bool)(x y:V)(η:Hm)(P:Bool->Prop):Prop:=match x with
 | .none=>(match y with
  | .none=>P true
  | .int _=>P false
  | .str _=>P false
  | _=>False)
 | .int a=>(match y with
  | .int b=>vO fk (a=b) P
  | .none=>P false
  | .str _=>P false
  | _=>False)
 | .str a=>(match y with
  | .str b=>vO fk (a=b) P
  | .none=>P false
  | .int _=>P false
  | _=>False)
 | .bool a=>(match y with
  | .bool b=>vA fk (a==b) P
  | _=>False)
 | x=>jV η x λa=>jV η y λb=>∃c,jA a b=some c/\vA fk c P
set_option tactic.hygienic true in
theorem AW {fk:Bool}{x y:V}{P:Bool->Prop}(h:CM fk x y η P):∃c,(il x y=some c\/∃a b,qY η x=some a/\qY η y=some b/\jA a b=some c)/\P c:=by
 have hl:(jV η x λa=>jV η y λb=>∃c,jA a b=some c/\vA fk c P)->∃c,(il x y=some c\/∃a b,qY η x=some a/\qY η y=some b/\jA a b=some c)/\P c:=λh=>by
  obtain ⟨a,ea,h⟩:=cR h
  obtain ⟨b,eb,c,ec,h⟩:=cR h
  exact ⟨c, .inr ⟨a,b,ea,eb,ec⟩,iK h⟩
 cases x
 case none=>clear hl;cases y<;>first|exact ⟨_, .inl rfl,h⟩|exact h.elim
 case int a=>
  clear hl;cases y
  case int b=>exact ⟨_, .inl rfl,by refine rW (lN ..) ?_;exact iJ h⟩
  all_goals first|exact ⟨_, .inl rfl,h⟩|exact h.elim
 case str a=>
  clear hl;cases y
  case str b=>exact ⟨_, .inl rfl,by refine rW (lN ..) ?_;exact iJ h⟩
  all_goals first|exact ⟨_, .inl rfl,h⟩|exact h.elim
 case bool a=>clear hl;cases y<;>first|exact ⟨_, .inl rfl,iK h⟩|exact h.elim
 all_goals exact hl h
noncomputable def CL (fk neg:Bool)(x y:V)(η:Hm)(P:Bool->Prop):Prop:=match neg with
 | true=>False
 | false=>jV η y λl=>∃r,(l.mapM λy=>il y x)=some r/\vA fk (r.any id) P
noncomputable def Ex (fk neg:Bool)(x y:V)(η:Hm)(P:Bool->Prop):Prop:=match y with
 | .str b=>q9 x λa=>vA fk (Txt.contains b a) λc=>P (if neg then !c else c)
 | .tup l=>∃r,(l.mapM λy=>il y x)=some r/\vA fk (r.any id) λc=>P (if neg then !c else c)
 | y=>CL fk neg x y η P
noncomputable def ow (fk:Bool)(o:CmpOp)(x y:V)(η:Hm)(P:Bool->Prop):Prop:=
 match o with
 | .Lt=>eh x λa=>eh y λb=>vO fk (a<b) P
 | .LtE=>eh x λa=>eh y λb=>vO fk (a<=b) P
 | .Gt=>eh x λa=>eh y λb=>vO fk (b<a) P
 | .GtE=>eh x λa=>eh y λb=>vO fk (b<=a) P
 | .Is=>(match y with
  | .none=>xX (xu x) P
  | _=>False)
 | .IsNot=>(match y with
  | .none=>xX (xu x) λb=>P (!b)
  | _=>False)
 | .In=>Ex fk false x y η P
 | .NotIn=>Ex fk true x y η P
 | .Eq=>CM fk x y η P
 | .NotEq=>CM fk x y η λb=>P (!b)
theorem tup_is {l:List V}{v:Value}(S:Sx G Z η fs s)(r:Rel G.w.params Z (.tup l) v):∃a items,v= .ref a/\s.heap.IsTuple a items/\ar G.w.params Z l items.toList:=by
 obtain ⟨a,items,n,e,h1,h2⟩:=lR S r
 exact ⟨a,items,e,⟨_,h1,rfl,n,rfl⟩,h2⟩
theorem lst_is {X:V}{v:Value}{l:List V}(S:Sx G Z η fs s)(r:Rel G.w.params Z X v)(e:qY η X=some l):
  ∃a items,v= .ref a/\s.heap.IsList a items/\ar G.w.params Z l items.toList:=by
 obtain ⟨a,items,n,e,h1,h2⟩:=e9 S r e
 exact ⟨a,items,e,⟨_,h1,rfl,n,rfl⟩,h2⟩
theorem xT {x:V}{l:List V}{vx vl:Value}{r:List Bool}{R:Value->Shared->Prop}{neg:Bool}(S:Sx G Z η fs s)(rx:Rel G.w.params Z x vx)(rl:Rel G.w.params Z (.tup l) vl)(e:(l.mapM λy=>il y x)=some r)
  (q:R (.bool (if neg then !r.any id else r.any id)) s):wpAny (model G.prog G.w) A (compareOp (if neg then .NotIn else .In) vx vl) R (PX G Z fs E) s:=by
 obtain ⟨a,items,rfl,h,rl⟩:=tup_is S rl
 obtain ⟨h1,h2⟩:=i9 (s:=s) (B:=A.in1) rx rl e
 have h3:(items.any λy=>vEq y vx)=r.any id:=by exact rV h2 (rW Array.any_toList rfl)
 cases neg with
 | false=>exact in_tupleAt (λy=>vEq y vx) h (λy hy=>h1 y (Array.mem_toList_iff.mpr hy)) (by refine rW h3 ?_;exact q)
 | true=>exact notIn_tupleAt (λy=>vEq y vx) h (λy hy=>h1 y (Array.mem_toList_iff.mpr hy)) (by refine rW h3 ?_;exact q)
theorem xU {x y:V}{l:List V}{vx vl:Value}{r:List Bool}{R:Value->Shared->Prop}(S:Sx G Z η fs s)(rx:Rel G.w.params Z x vx)(rl:Rel G.w.params Z y vl)(el:qY η y=some l)(e:(l.mapM λy=>il y x)=some r)
  (q:R (.bool (r.any id)) s):wpAny (model G.prog G.w) A (compareOp .In vx vl) R (PX G Z fs E) s:=by
 obtain ⟨a,items,rfl,h,rl⟩:=lst_is S rl el
 obtain ⟨h1,h2⟩:=i9 (s:=s) (B:=A.in1) rx rl e
 have h3:(items.any λy=>vEq y vx)=r.any id:=by exact rV h2 (rW Array.any_toList rfl)
 exact in_listAt (λy=>vEq y vx) h (λy hy=>h1 y (Array.mem_toList_iff.mpr hy)) (by refine rW h3 ?_;exact q)
set_option tactic.hygienic true in
theorem qU {x y:V}{a b:List V}{vx vy:Value}{r:Bool}{R:Value->Shared->Prop}{neg:Bool}(hu:A.units<cLine)(S:Sx G Z η fs s)(rx:Rel G.w.params Z x vx)(ry:Rel G.w.params Z y vy)(ex:qY η x=some a)(ey:qY η y=some b)(e:jA a b=some r)
  (q:R (.bool (if neg then !r else r)) s):wpAny (model G.prog G.w) A (compareOp (if neg then .NotEq else .Eq) vx vy) R (PX G Z fs E) s:=by
 obtain ⟨p1,i1,rfl,h1,r1⟩:=lst_is S rx ex
 obtain ⟨p2,i2,rfl,h2,r2⟩:=lst_is S ry ey
 have l1:=r1.length
 have l2:=r2.length
 simp only [Array.length_toList] at l1 l2
 unfold jA at e
 split at e
 ·rename_i hl
  obtain ⟨e1,e2,e3⟩:=mV (s:=s) (B:=A.in1) r1 r2 e
  have hs:i1.size=i2.size:=by assumption
  have e4:=all_range e1
  rw [e3] at e4
  have he:∀j (h1:j<i1.size) (h2:j<i2.size),EqAt A.in1 s i1[j] i2[j] (vEq (i1.toList.getD j .none) (i2.toList.getD j .none)):=λj g1 g2=>by
   have:=e2 j (by simpa using g1) (by simpa using g2)
   simp only [Array.getElem_toList] at this
   refine rW List.getD_eq_getElem?_getD (rW List.getD_eq_getElem?_getD (rW Array.getElem?_toList (rW Array.getElem?_toList (rW (Array.getElem?_eq_getElem g1) (rW (Array.getElem?_eq_getElem g2) ?_)))))
   exact this
  have e5:(List.range i1.size).all (λj=>vEq (i1.toList.getD j .none) (i2.toList.getD j .none))=r:=by exact rV Array.length_toList (rW e4 rfl)
  cases neg with
  | false=>exact RcAt.lists h1 h2 hs hu he _ _ _ _ (by refine rW e5 ?_;exact q)
  | true=>exact RcNeAt.lists h1 h2 hs hu he _ _ _ _ (by refine rW e5 ?_;exact q)
 ·rename_i hl
  simp only [Option.some.injEq] at e;subst e
  have hs:(i1.size != i2.size)=true:=by rw [bne_iff_ne];lia
  cases neg with
  | false=>exact RcAt.lists_lengths h1 h2 hs hu _ _ _ _ q
  | true=>exact RcNeAt.lists_lengths h1 h2 hs hu _ _ _ _ q
theorem vc {P:Params}{x y:V}{va vb:Value}{b:Bool}{R:Value->Shared->Prop}{E':Value->Shared->Prop}(ra:Rel P Z x va)(rb:Rel P Z y vb)(e:il x y=some b)(q:R (.bool b) s):
  wpAny (model G.prog G.w) A (compareOp .Eq va vb) R E' s:=by
 cases pN e
 ·obtain rfl:=of_none ra;obtain rfl:=of_none rb;exact eq_none_none q
 ·obtain rfl:=of_none ra;obtain ⟨t,rfl⟩:=aY rb;exact eq_none_int q
 ·obtain rfl:=of_none ra;obtain ⟨t,rfl⟩:=aX rb;exact eq_none_str q
 ·obtain ⟨t,rfl⟩:=aY ra;obtain ⟨u,rfl⟩:=aY rb;exact PyProof.Rows.eq_int q
 ·obtain ⟨t,rfl⟩:=aY ra;obtain rfl:=of_none rb;exact eq_int_none q
 ·obtain ⟨t,rfl⟩:=aY ra;obtain ⟨u,rfl⟩:=aX rb;exact eq_int_str q
 ·obtain ⟨t,rfl⟩:=aX ra;obtain ⟨u,rfl⟩:=aX rb;exact PyProof.Rows.eq_str q
 ·obtain ⟨t,rfl⟩:=aX ra;obtain rfl:=of_none rb;exact eq_str_none q
 ·obtain ⟨t,rfl⟩:=aX ra;obtain ⟨u,rfl⟩:=aY rb;exact eq_str_int q
 ·obtain rfl:=eT ra;obtain rfl:=eT rb;exact eq_bool q
theorem u0 {P:Params}{x y:V}{va vb:Value}{b:Bool}{R:Value->Shared->Prop}{E':Value->Shared->Prop}(ra:Rel P Z x va)(rb:Rel P Z y vb)(e:il x y=some b)(q:R (.bool (!b)) s):
  wpAny (model G.prog G.w) A (compareOp .NotEq va vb) R E' s:=by
 cases pN e
 ·obtain rfl:=of_none ra;obtain rfl:=of_none rb;exact ne_none_none q
 ·obtain rfl:=of_none ra;obtain ⟨t,rfl⟩:=aY rb;exact ne_none_int q
 ·obtain rfl:=of_none ra;obtain ⟨t,rfl⟩:=aX rb;exact ne_none_str q
 ·obtain ⟨t,rfl⟩:=aY ra;obtain ⟨u,rfl⟩:=aY rb;exact PyProof.Rows.ne_int q
 ·obtain ⟨t,rfl⟩:=aY ra;obtain rfl:=of_none rb;exact ne_int_none q
 ·obtain ⟨t,rfl⟩:=aY ra;obtain ⟨u,rfl⟩:=aX rb;exact ne_int_str q
 ·obtain ⟨t,rfl⟩:=aX ra;obtain ⟨u,rfl⟩:=aX rb;exact PyProof.Rows.ne_str q
 ·obtain ⟨t,rfl⟩:=aX ra;obtain rfl:=of_none rb;exact ne_str_none q
 ·obtain ⟨t,rfl⟩:=aX ra;obtain ⟨u,rfl⟩:=aY rb;exact ne_str_int q
 ·obtain rfl:=eT ra;obtain rfl:=eT rb;exact ne_bool q
theorem t9 {x:V}{vx:Value}{P:Params}{b:Bool}(rx:Rel P Z x vx)(e:xu x=some b):(vx==Value.none)=b:=by
 cases x
 case none=>cases e;obtain rfl:=of_none rx;decide
 case bool=>cases e;obtain rfl:=eT rx;rfl
 case int=>cases e;obtain ⟨_,rfl⟩:=aY rx;rfl
 case str=>cases e;obtain ⟨_,rfl⟩:=aX rx;rfl
 case tup=>cases e;obtain ⟨a,_,_,rfl,_⟩:=rx;rfl
 case lst=>cases e;obtain ⟨a,_,_,rfl,_⟩:=rx;rfl
 case ref=>cases e;obtain rfl:=fR rx;rfl
 all_goals cases e
theorem FA {x:V}{vx:Value}{R:Value->Shared->Prop}{E':Value->Shared->Prop}{P:Params}{b:Bool}(rx:Rel P Z x vx)(e:xu x=some b)
  (q:R (.bool b) s):wpAny (model G.prog G.w) A (compareOp .Is vx .none) R E' s:=is_none (by refine rW (t9 rx e) ?_;exact q)
theorem zU {x:V}{vx:Value}{R:Value->Shared->Prop}{E':Value->Shared->Prop}{P:Params}{b:Bool}(rx:Rel P Z x vx)(e:xu x=some b)
  (q:R (.bool (!b)) s):wpAny (model G.prog G.w) A (compareOp .IsNot vx .none) R E' s:=isNot_none (by refine rW (t9 rx e) ?_;exact q)
set_option tactic.hygienic true in
theorem tu {fk:Bool}{o:CmpOp}{x y:V}{vx vy:Value}{P:Bool->Prop}{R:Value->Shared->Prop}(hu:A.units<cLine)(S:Sx G Z η fs s)(rx:Rel G.w.params Z x vx)(ry:Rel G.w.params Z y vy)(e:ow fk o x y η P)(q:∀b,P b->R (.bool b) s):
  wpAny (model G.prog G.w) A (compareOp o vx vy) R (PX G Z fs E) s:=by
 have hin:∀neg,Ex fk neg x y η P->wpAny (model G.prog G.w) A (compareOp (if neg then .NotIn else .In) vx vy) R (PX G Z fs E) s:=λneg e=>by
  have hl:CL fk neg x y η P->wpAny (model G.prog G.w) A (compareOp (if neg then .NotIn else .In) vx vy) R (PX G Z fs E) s:=λe=>by
   cases neg with
   | true=>exact e.elim
   | false=>obtain ⟨l,hl,r,hr,e⟩:=cR e;exact xU S rx ry hl hr (q _ (iK e))
  cases y
  case str b=>
   clear hl;obtain ⟨a,t,rfl,e⟩:=gU e rx
   obtain ⟨u,rfl⟩:=aX ry
   cases neg with
   | false=>exact SB.contains (q _ (iK (P:=λc=>P (if false then !c else c)) e))
   | true=>exact SB.notContains (q _ (iK (P:=λc=>P (if true then !c else c)) e))
  case tup l=>obtain ⟨r,hr,e⟩:=e;exact xT (neg:=neg) S rx ry hr (q _ (iK (P:=λc=>P (if neg then !c else c)) e))
  all_goals exact hl e
 have heq:∀{P:Bool->Prop} {o:CmpOp} {g:Bool->Bool},(∀{b},il x y=some b->R (.bool (g b)) s->wpAny (model G.prog G.w) A (compareOp o vx vy) R (PX G Z fs E) s)->
   (∀{a b c},qY η x=some a->qY η y=some b->jA a b=some c->R (.bool (g c)) s->wpAny (model G.prog G.w) A (compareOp o vx vy) R (PX G Z fs E) s)->CM fk x y η P->(∀b,P b->R (.bool (g b)) s)->wpAny (model G.prog G.w) A (compareOp o vx vy) R (PX G Z fs E) s:=λh1 h2 e q=>by
  obtain ⟨c,h|⟨a,b,ea,eb,ec⟩,p⟩:=AW e
  ·exact h1 h (q _ p)
  ·exact h2 ea eb ec (q _ p)
 cases o
 case Lt=>obtain ⟨a,t,rfl,e⟩:=aE e rx;obtain ⟨b,u,rfl,e⟩:=aE e ry;exact PyProof.Rows.lt_int (q _ (iJ e))
 case LtE=>obtain ⟨a,t,rfl,e⟩:=aE e rx;obtain ⟨b,u,rfl,e⟩:=aE e ry;exact PyProof.Rows.le_int (q _ (iJ e))
 case Gt=>obtain ⟨a,t,rfl,e⟩:=aE e rx;obtain ⟨b,u,rfl,e⟩:=aE e ry;exact PyProof.Rows.gt_int (q _ (iJ e))
 case GtE=>obtain ⟨a,t,rfl,e⟩:=aE e rx;obtain ⟨b,u,rfl,e⟩:=aE e ry;exact PyProof.Rows.ge_int (q _ (iJ e))
 case Is=>
  clear heq hin;cases y
  case none=>obtain rfl:=of_none ry;obtain ⟨b,hb,e⟩:=iX e;exact FA rx hb (q _ e)
  all_goals exact e.elim
 case IsNot=>
  clear heq hin;cases y
  case none=>obtain rfl:=of_none ry;obtain ⟨b,hb,e⟩:=iX e;exact zU rx hb (q _ e)
  all_goals exact e.elim
 case In=>exact hin false e
 case NotIn=>exact hin true e
 case Eq=>exact heq (g:=id) (λh=>vc rx ry h) (λea eb ec=>qU (neg:=false) hu S rx ry ea eb ec) e q
 case NotEq=>exact heq (g:=not) (λh=>u0 rx ry h) (λea eb ec=>qU (neg:=true) hu S rx ry ea eb ec) (show CM fk x y η λb=>P (!b) from e) λb=>q _
noncomputable def Cm (fk:Bool)(x:V)(η:Hm)(P:Bool->Prop):Prop:=
 match x with
 | .bool b=>vA fk b P
 | .int i=>vO fk (i≠0) P
 | .none=>P false
 | .str x=>x.length<2^63/\vO fk (x.length≠0) P
 | x=>jV η x λl=>l.length<2^63/\vA fk (!l.isEmpty) P
set_option tactic.hygienic true in
theorem tq {fk:Bool}{x:V}{vx:Value}{P:Bool->Prop}{R:Bool->Shared->Prop}(S:Sx G Z η fs s)(rx:Rel G.w.params Z x vx)(e:Cm fk x η P)(q:∀b t,P b->R b {s with toks:=t}):
  wpAny (model G.prog G.w) A (truthy vx) R (PX G Z fs E) s:=by
 have hl:(jV η x λl=>l.length<2^63/\vA fk (!l.isEmpty) P)->wpAny (model G.prog G.w) A (truthy vx) R (PX G Z fs E) s:=λe=>by
  obtain ⟨l,hl,hlt,e⟩:=cR e
  obtain ⟨a,items,rfl,h,rl⟩:=lst_is S rx hl
  have l1:=rl.length
  simp only [Array.length_toList] at l1
  have:l.isEmpty=items.isEmpty:=by
   rw [Bool.eq_iff_iff,List.isEmpty_iff_length_eq_zero,Array.isEmpty_iff_size_eq_zero];(simp only [*])
  refine wpAny_truthy_list h (by lia) ?_
  refine rV this ?_;exact q _ _ (iK e)
 cases x
 case bool b=>clear hl;obtain rfl:=eT rx;exact wpAny_truthy_bool (q _ s.toks (iK e))
 case int i=>
  clear hl;obtain ⟨_,rfl⟩:=aY rx
  refine PyProof.Rows.truthy_int ?_
  refine rW (show (i != 0)=decide (i≠0) by rw [bne,lN,decide_not]) ?_
  exact q _ s.toks (iJ e)
 case none=>clear hl;obtain rfl:=of_none rx;exact PyProof.Rows.truthy_none (q _ s.toks e)
 case str x=>
  clear hl;obtain ⟨_,rfl⟩:=aX rx
  refine PySem.P.truthy_str (by have:=e.1;lia) ?_
  have h:=iJ e.2
  rw [show decide (x.length≠0)=((x.length:Int) != 0) by rw [bne,lN, <-decide_not];exact decide_eq_decide.mpr (by simp+arith)] at h
  exact q _ _ h
 all_goals exact hl e
end
end
section
open PySem.SeqAt
section
variable {G:Gc}{A:Around}{fs:List Fm}{η:Hm}{E:Prop}{Z:Heap}{s:Shared}{Q:V->Hm->Prop}
noncomputable def Cb {α:Type}(l:List α)(k:Int):Option α:=(seqIndex? k l.length).bind (l[·]?)
noncomputable def sx (k:Int):Bool:=decide (-(2^63)<=k)&&decide (k<2^63)
noncomputable def BC:List Str->List V->Str->Option V
 | k::ks,v::vs,x=>if x=k then some v else BC ks vs x
 | _,_,_=>none
noncomputable def jo {α:Type}(l:List α)(k:Int):Option α:=if sx k then Cb l k else none
noncomputable def rq (x i:V)(η:Hm)(P:V->Prop):Prop:=
 match x with
 | .tup l=>eh i λk=>xX (jo l k) P
 | .str x=>eh i λk=>vE (jo x.cps.toList k) λc=>P (.str ⟨#[c]⟩)
 | .rk ks vs=>q9 i λk=>vE (BC ks vs k) P
 | x=>jV η x λl=>eh i λk=>vE (jo l k) P
theorem kZ {slice:PySem.Expr}{o i:Value}:∃ops,subscripted slice false o i=operate ops (getItem o i):=by
 cases slice with
 | Slice a b c p=>cases c<;>exact ⟨_,rfl⟩
 | _=>exact ⟨_,rfl⟩
theorem iP {value slice:PySem.Expr}{o i:Value}{T id:String}{R:Value->Shared->Prop}{E':Value->Shared->Prop}(hT:s.TypeIs o T)(hl:typeLookup (.type T) "__getitem__"=pure (some (.builtin id)))
  (hg:wpAny (model G.prog G.w) A (getItem o i) R E' s):wpAny (model G.prog G.w) A (subscriptTail value slice o i) R E' s:=by
 obtain ⟨ops,h⟩:=kZ (slice:=slice) (o:=o) (i:=i)
 exact tail_any hT hl hg h
theorem pF {k:Int}(h:sx k=true): -(2^63)<=k/\k<2^63:=by simpa [sx] using h
set_option tactic.hygienic true in
theorem kU {l:Addr}{items:Array Value}{k:Int}{t:Tok}{x:Value}{R:Value->Shared->Prop}{E':Value->Shared->Prop}(hl:s.heap.IsList l items)(hf:sx k=true)(hx:(seqIndex? k items.size).bind (items[·]?)=some x)(q:R x s):
  wpAny (model G.prog G.w) A (getItem (.ref l) (.int k t)) R E' s:=by
 obtain ⟨h1,h2⟩:=pF hf
 obtain ⟨j,hj,hx⟩:=Option.bind_eq_some_iff.mp hx
 unfold seqIndex? at hj
 by_cases hk:k<0
 ·simp only [hk,if_true] at hj
  split at hj
  ·rename_i hb
   simp only [Option.some.injEq] at hj
   simp only [Bool.and_eq_true,decide_eq_true_eq] at hb
   exact wpAny_getItem_list_neg hl hk (by exact iA hb.1) h1 (by refine rW hj ?_;exact hx) q
  ·cases hj
 ·simp only [hk,if_false] at hj
  split at hj
  ·rename_i hb
   simp only [Option.some.injEq] at hj
   exact wpAny_getItem_list hl (by exact iA (Int.not_lt.mp hk)) h2 (by refine rW hj ?_;exact hx) q
  ·cases hj
theorem pL {P:Params}{l:List V}{vs:List Value}{k:Int}{x:V}(r:ar P Z l vs)(e:Cb l k=some x):∃v,(seqIndex? k vs.length).bind (vs[·]?)=some v/\Rel P Z x v:=by
 unfold Cb at e
 obtain ⟨j,hj,hx⟩:=Option.bind_eq_some_iff.mp e
 obtain ⟨v,hv,hr⟩:=r.get hx
 exact ⟨v,by refine rW r.length (rW hj ?_);exact hv,hr⟩
theorem oh:∀{es:List DictEntry} {ks:List Str} {vs:List V} {P:Params} {x:Str} {X:V},KeysAre es ks->ar P Z vs (es.map (·.val))->BC ks vs x=some X->
  ∃e∈es,es.find? (λe=>e.key.isStr x)=some e/\Rel P Z X e.val:=by
 intro es
 induction es with
 | nil=>
  intro ks vs P x X h1 h2 h3
  cases ks with
  | nil=>cases h3
  | cons=>cases h1
 | cons e es ih=>
  intro ks vs P x X h1 h2 h3
  cases ks with
  | nil=>cases h1
  | cons k ks=>
   obtain ⟨⟨t,hk⟩,h1⟩:=h1
   cases vs with
   | nil=>cases h3
   | cons v vs=>
    obtain ⟨w,ws,e1,h2,h4⟩:=h2
    obtain ⟨rfl,rfl⟩:=List.cons.inj e1
    have h3:(if x=k then some v else BC ks vs x)=some X:=h3
    by_cases hx:x=k
    ·rw [if_pos hx] at h3
     obtain rfl:=Option.some.inj h3;subst hx
     exact ⟨e,List.mem_cons_self,by refine rW List.find?_cons (rW hk ?_);simp [Value.isStr],h2⟩
    ·rw [if_neg hx] at h3
     obtain ⟨e',m',f',r'⟩:=ih h1 h4 h3
     refine ⟨e',List.mem_cons_of_mem _ m',?_,r'⟩
     refine rW List.find?_cons (rW hk ?_)
     have:(Value.str k t).isStr x=false:=by
      refine (?_:(k==x)=false)
      rw [beq_eq_false_iff_ne];exact λq=>hx q.symm
     refine rW this ?_;exact f'
theorem pM {α:Type}{l:List α}{k:Int}{x:α}(h:jo l k=some x):sx k=true/\Cb l k=some x:=by
 unfold jo at h
 by_cases q:sx k=true
 ·rw [if_pos q] at h;exact ⟨q,h⟩
 ·rw [if_neg q] at h;cases h
set_option tactic.hygienic true in
theorem C3 {x i:V}{P:V->Prop}{vx vi:Value}{value slice:PySem.Expr}(S:Sx G Z η fs s)(rx:Rel G.w.params Z x vx)(ri:Rel G.w.params Z i vi)(e:rq x i η P)(q:∀X,P X->Q X η):
  wpAny (model G.prog G.w) A (subscriptTail value slice vx vi) (PV G Z fs Q) (PX G Z fs E) s:=by
 have hl:(jV η x λl=>eh i λk=>vE (jo l k) P)->wpAny (model G.prog G.w) A (subscriptTail value slice vx vi) (PV G Z fs Q) (PX G Z fs E) s:=λe=>by
  obtain ⟨l,hl,e⟩:=cR e
  obtain ⟨k,u,rfl,X,e,p⟩:=aE e ri
  obtain ⟨hf,e⟩:=pM e
  obtain ⟨a,items,rfl,h,r⟩:=lst_is S rx hl
  obtain ⟨v,hv,hr⟩:=pL r e
  refine iP h.typeIs slot_list_getitem.lookup (kU h hf (x:=v) ?_ (pv S hr (q _ p)))
  obtain ⟨j,hj,hx⟩:=Option.bind_eq_some_iff.mp hv
  rw [Array.length_toList] at hj
  rw [Array.getElem?_toList] at hx
  exact Option.bind_eq_some_iff.mpr ⟨j,hj,hx⟩
 cases x
 case tup l=>
  clear hl;obtain ⟨k,u,rfl,e⟩:=aE e ri
  obtain ⟨X,e,p⟩:=iX e
  obtain ⟨hf,e⟩:=pM e
  obtain ⟨a,items,n,rfl,h,r⟩:=lR S rx
  obtain ⟨v,hv,hr⟩:=pL r e
  obtain ⟨j,hj,hx⟩:=Option.bind_eq_some_iff.mp hv
  rw [Array.length_toList] at hj
  rw [Array.getElem?_toList] at hx
  have ht:IsTup s.heap a items:=⟨_,h,rfl,n,rfl⟩
  exact iP ht.typeIs slot_tuple_getitem.lookup (PyProof.Rows.getItem_tuple ht (pF hf).1 (pF hf).2 hj hx (pv S hr (q _ p)))
 case str y=>
  clear hl;obtain ⟨k,u,rfl,c,hc,p⟩:=aE e ri
  obtain ⟨hf,hc⟩:=pM hc
  obtain ⟨t,rfl⟩:=aX rx
  obtain ⟨h1,h2⟩:=pF hf
  refine iP (typeIs_str s y t) PySem.F.slot_str_getitem.lookup (PySem.P.getItem_str (by refine rW (decide_eq_false (by exact Int.not_lt.mpr (by assumption))) (rW (decide_eq_false (by exact Int.not_le.mpr (by assumption))) ?_);rfl) ?_ (pv (S.tok _) ix (q _ p)))
  unfold Cb at hc
  rw [Array.length_toList] at hc
  obtain ⟨j,hj,hx⟩:=Option.bind_eq_some_iff.mp hc
  rw [Array.getElem?_toList] at hx
  exact Option.bind_eq_some_iff.mpr ⟨j,hj,hx⟩
 case rk ks vs=>
  clear hl;obtain ⟨k,t,rfl,X,e,p⟩:=gU e ri
  obtain ⟨a,es,n,rfl,ha,hz,hk,hh,hr⟩:=rx
  obtain ⟨en,hm,hf,hv⟩:=oh hk hr e
  have hD:s.heap.MapOf (strKind G.prog G.w) a (λk=>findBy Value.isStrOf es.toArray k):=
   ⟨_,_,_,S.st.z _ _ hz,⟨rfl,rfl,rfl⟩,rfl,λe he=>by
    obtain ⟨x,t,e1,e2⟩:=hh e (by simpa using he)
    exact ⟨x,by refine rW e1 ?_;exact strKind_is G.prog G.w x t,e2⟩,λξ=>rfl⟩
  have hfind:findBy Value.isStrOf es.toArray k=some en.val:=by
   have q:(λd:DictEntry=>Value.isStrOf k d.key)=λd=>d.key.isStr k:=funext λd=>(isStr_of k d.key).symm
   unfold findBy
   refine rW (List.find?_toArray ..) (rW q (rW hf ?_));rfl
  exact iP hD.typeIs slot_dict_getitem.lookup (wpAny_getItem_of (strKind_is G.prog G.w k t) hD hfind (pv (S.tok _) hv (q _ p)))
 all_goals exact hl e
noncomputable def nR {α:Type}(lo hi st:Option Int)(l:List α):List α:=(Builtin.Str.strSliceIndices lo hi (st.getD 1) l.length).filterMap (l[·]?)
noncomputable def q7 (lo hi st:Option Int)(x:Str):Str:=⟨(nR lo hi st x.cps.toList).toArray⟩
noncomputable def Dg (x:V)(P:Option Int->Prop):Prop:=match x with
 | .none=>P none
 | .int i=>P (some i)
 | _=>False
theorem Ap {P:Params}{x:V}{v:Value}{F:Option Int->Prop}(h:Dg x F)(r:Rel P Z x v):∃o,IsPart v o/\F o:=by
 cases x
 case none=>obtain rfl:=of_none r;exact ⟨_, .none,h⟩
 case int=>obtain ⟨t,rfl⟩:=aY r;exact ⟨_, .int _ t,h⟩
 all_goals exact h.elim
noncomputable def Ew (l:List V)(lo hi:Option Int)(η:Hm)(Q:V->Hm->Prop):Prop:=match lo with
 | none=>(match hi with
  | none=>False
  | some b=>0<=b/\b<l.length/\l.length<=sizeLine/\Q (.tup (l.take b.toNat)) η)
 | some a=>(match hi with
  | none=>1<=a/\a<=l.length/\l.length<=sizeLine/\Q (.tup (l.drop a.toNat)) η
  | some _=>False)
noncomputable def yA (m:Bool)(x:V)(lo hi st:Option Int)(η:Hm)(Q:V->Hm->Prop):Prop:=match x with
 | .str x=>x.length<=sizeLine/\Q (.str (q7 lo hi st x)) η
 | .tup l=>st=none/\Ew l lo hi η Q
 | x=>jV η x λl=>l.length<=sizeLine/\eA m (nR lo hi st l) η Q
noncomputable def AV (m:Bool)(x lo hi st:V)(η:Hm)(Q:V->Hm->Prop):Prop:=match st with
 | .none=>Dg lo λlo=>Dg hi λhi=>yA m x lo hi none η Q
 | .int i=>i= -1/\(match lo with
  | .none=>(match hi with
   | .none=>yA m x none none (some (-1)) η Q
   | _=>False)
  | _=>False)
 | _=>False
theorem ar.pick {P:Params}{l:List V}{vs:List Value}(r:ar P Z l vs):∀ks:List Nat,ar P Z (ks.filterMap (l[·]?)) (ks.filterMap (vs[·]?))
 | []=>rfl
 | k::ks=>by
  simp only [List.filterMap_cons]
  cases e:l[k]? with
  | none=>
   have:vs[k]?=none:=by
    rw [List.getElem?_eq_none_iff] at e ⊢
    refine rW r.length ?_;exact e
   refine rW this ?_;exact ar.pick r ks
  | some x=>
   obtain ⟨v,hv,hr⟩:=r.get e
   refine rW hv ?_
   exact ⟨v,_,rfl,hr,ar.pick r ks⟩
theorem oN (items:Array Value)(lo hi st:Option Int):slicePick items lo hi st=(nR lo hi st items.toList).toArray:=by
 unfold slicePick nR
 simp only [Array.getElem?_toList,Array.length_toList]
 rfl
theorem vq (b n:Nat)(hb:b<=n):Builtin.Slice.sliceAdjust none (some (b:Int)) 1 (n:Int)=(0,(b:Int)):=by
 unfold Builtin.Slice.sliceAdjust
 have h1:¬((1:Int)<0):=by decide
 have h2:¬((b:Int)<0):=by simp
 simp only [h1,h2,if_false]
 congr 1
 grind
theorem uI (b:Nat):Builtin.Slice.slicePlaces 0 (b:Int) 1=b:=by
 unfold Builtin.Slice.slicePlaces
 have h1:(1:Int)>0:=by exact Int.natCast_nonneg _
 simp only [h1,if_true,Int.ediv_one]
 split<;>lia
theorem lj {sl:Addr}{b n:Nat}{u:Tok}{R:Int×Int×Nat->Shared->Prop}{E':Value->Shared->Prop}(hs:s.heap.IsSliceOf sl .none (.int b u) .none)(hb:b<=n)(h:R (0,1,b) s):
  wpAny (model G.prog G.w) A (Builtin.Slice.sliceApplied (.ref sl) (pure (n:Int))) R E' s:=by
 obtain ⟨os,hos,hcs,hds⟩:=id hs
 unfold Builtin.Slice.sliceApplied Builtin.Slice.sliceFields
 refine wpAny_bind (wpAny_bind (wpAny_field hos hds (x:= .none) rfl (wpAny_bind (wpAny_field hos hds (x:= .int b u) rfl (wpAny_bind (wpAny_field hos hds (x:= .none) rfl (wpAny_pure ?_)))))))
 refine wpAny_bind (slicePart_none ?_)
 refine (?_:wpAny _ _ (if ((1:Int)==0)=true then _ else _) _ _ s)
 refine rW (if_neg (by decide)) ?_
 refine wpAny_bind (slicePart_none (wpAny_bind (slicePart_int (wpAny_bind (wpAny_pure ?_)))))
 refine (?_:wpAny _ _ (match Builtin.Slice.sliceAdjust none (some (b:Int)) 1 (n:Int) with|(lo,hi)=>pure (lo,(1:Int),Builtin.Slice.slicePlaces lo hi 1)) _ _ s)
 refine rW (vq b n hb) ?_
 refine (?_:wpAny _ _ (pure ((0:Int),(1:Int),Builtin.Slice.slicePlaces 0 (b:Int) 1)) _ _ s)
 refine rW (uI b) ?_
 exact wpAny_pure h
theorem zd (xs:Array Value)(b:Nat)(hb:b<=xs.size):((List.range b).filterMap λ(k:Nat)=>xs[((0:Int)+(k:Int)*1).toNat]?).toArray=(xs.toList.take b).toArray:=by
 congr 1
 have e:(λ(k:Nat)=>xs[((0:Int)+(k:Int)*1).toNat]?)=λk=>xs.toList[k]?:=by
  funext k
  refine rW Array.getElem?_toList ?_
  have:((0:Int)+(k:Int)*1).toNat=k:=by simp+arith
  exact rW this rfl
 refine rW e ?_
 have hb':b<=xs.toList.length:=by simpa using hb
 clear e hb
 generalize xs.toList=l at hb'
 induction b generalizing l with
 | zero=>simp
 | succ b ih=>
  cases l with
  | nil=>simp at hb'
  | cons x l=>
   refine rW List.range_succ_eq_map (rW List.filterMap_cons (rW List.filterMap_map ?_))
   simp only [List.getElem?_cons_zero,List.take_succ_cons]
   congr 1
   have:=ih l (by simpa using hb')
   refine rV this ?_
   congr 1
theorem kz {t sl:Addr}{items:Array Value}{b:Nat}{u:Tok}{R:Value->Shared->Prop}{E':Value->Shared->Prop}(ht:IsTup s.heap t items)(hs:s.heap.IsSliceOf sl .none (.int b u) .none)(hb:b<items.size)
  (h:R (.ref s.heap.objs.size) {s with heap:=s.heap.push {cls:= .type "tuple",data:= .seq (items.toList.take b).toArray}})
  (hsz:items.size<=sizeLine):wpAny (model G.prog G.w) A (getItem (.ref t) (.ref sl)) R E' s:=by
 have hdrop:sizeOk (.seq (items.toList.take b).toArray):=by
  refine (?_:(items.toList.take b).toArray.size<=sizeLine)
  refine rW List.size_toArray (rW List.length_take (rW Array.length_toList ?_))
  exact Nat.le_trans (Nat.min_le_right _ _) (by assumption)
 obtain ⟨os,hos,hcs,hds⟩:=id hs
 have hTs:s.TypeIs (.ref sl) "slice":=⟨os,hos,hcs⟩
 unfold getItem
 try with_reducible refine wpAny_holding ?_
 first|refine wpAny_bind (wpAny_pure ?_)|skip
 refine wpAny_bind (wpAny_sequenceKey ht.typeIs (by decide) ?_)
 refine wpAny_bind (wpAny_callSpecial?_slot (name:=Str.ofString "__getitem__") ht.typeIs slot_tuple_getitem
  (wpAny_call_entry slot_tuple_getitem ht.typeIs entry_tuple_getitem ?_ (args_tuple_getitem _ _)))
 refine (?_:wpAny _ _ (Builtin.Tuple.tupleItemsOf (.ref t)>>=_) _ _ s)
 refine wpAny_bind (tupleItemsOf_ ht ?_)
 refine wpAny_bind (wpAny_typeOf hTs ?_)
 refine rW (if_pos (by decide)) ?_
 refine wpAny_bind (lj hs (Nat.le_of_lt hb) ?_)
 have hno:¬(((0:Int)==0&&(1:Int)==1&&b==items.size)=true):=by
  have:(b==items.size)=false:=by rw [beq_eq_false_iff_ne];exact Nat.ne_of_lt (by assumption)
  refine rW this ?_;simp
 refine (?_:wpAny _ _ (if ((0:Int)==0&&(1:Int)==1&&b==items.size)=true then _ else _) _ _ s)
 refine rW (if_neg hno) (rW (zd items b (Nat.le_of_lt hb)) ?_)
 first
  | exact wpAny_bind (m:=Builtin.Tuple.tupleExact _) (wpAny_newObj_type (wpAny_pure ⟨_,rfl,wpAny_pure h⟩) hdrop)
  | exact wpAny_bind (m:=Builtin.Tuple.tupleExact _) (wpAny_newObj_type (wpAny_bind (wpAny_pure (wpAny_pure ⟨_,rfl,wpAny_pure h⟩))) hdrop)
  | exact wpAny_bind (wpAny_bind (m:=Builtin.Tuple.tupleExact _) (wpAny_newObj_type (wpAny_pure (wpAny_pure ⟨_,rfl,wpAny_pure h⟩)) hdrop))
  | exact wpAny_bind (wpAny_bind (m:=Builtin.Tuple.tupleExact _) (wpAny_newObj_type (wpAny_pure ⟨_,rfl,wpAny_pure h⟩) hdrop))
noncomputable def gw (v:Option Int)(d n:Nat):Nat:=match v with
 | none=>d
 | some i=>(max 0 (min (if i<0 then i+n else i) n)).toNat
theorem jn {α:Type}(l:List α)(a:Nat):∀k,((List.range k).map (a+·)).filterMap (l[·]?)=(l.drop a).take k:=by
 intro k
 induction k generalizing a with
 | zero=>simp
 | succ k ih=>
  refine rW List.range_succ_eq_map (rW List.map_cons (rW List.map_map (rW List.filterMap_cons ?_)))
  have e:((λx=>a+x)∘Nat.succ)=λx=>(a+1)+x:=by funext x;simp;simp+arith
  refine rW e (rW (ih (a+1)) ?_)
  refine (?_:(match l[a]? with|none=>_|some b=>b::_)=_)
  cases q:l[a]? with
  | none=>
   rw [List.getElem?_eq_none_iff] at q
   refine rW (List.drop_eq_nil_of_le q) (rW (List.drop_eq_nil_of_le (by exact jG ‹_› (by simp+arith only))) ?_);simp
  | some x=>
   obtain ⟨h,rfl⟩:=List.getElem?_eq_some_iff.mp q
   exact rW (List.drop_eq_getElem_cons h) (rW List.take_succ_cons rfl)
theorem uc (lo hi:Option Int)(n:Nat):Builtin.Str.strSliceIndices lo hi 1 n=(List.range (gw hi n n-gw lo 0 n)).map (gw lo 0 n+·):=by
 unfold Builtin.Str.strSliceIndices sliceRange
 have h1:(1:Int)>0:=by simp+arith only
 simp only [h1,if_true]
 have key:∀a b:Int,0<=a->0<=b->∀a' b':Nat,a'=a.toNat->b'=b.toNat->
   (List.range (if a<b then (b-a+1-1)/1 else (0:Int)).toNat).map (λ(k:Nat)=>(a+1*(k:Int)).toNat)=(List.range (b'-a')).map (a'+·):=by
  intro a b ha hb a' b' e1 e2
  subst e1 e2
  refine rW (sS ha hb) ?_
  refine List.map_congr_left λk ξ=>?_
  exact rW (Int.one_mul _) (Int.toNat_add ha (Int.natCast_nonneg k))
 cases lo<;>cases hi<;>simp only [gw]<;>exact key _ _ (by first|exact Int.le_max_left _ _|exact Int.natCast_nonneg _|lia) (by first|exact Int.le_max_left _ _|exact Int.natCast_nonneg _|lia) _ _ (by first|rfl|lia) (by first|rfl|lia)
theorem jR {α:Type}(lo hi:Option Int)(l:List α):nR lo hi none l=(l.drop (gw lo 0 l.length)).take (gw hi l.length l.length-gw lo 0 l.length):=by
 unfold nR
 refine (?_:(Builtin.Str.strSliceIndices lo hi 1 l.length).filterMap _=_)
 exact rW (uc ..) (rW (jn ..) rfl)
theorem uu (v:Option Int)(d n:Nat)(h:d<=n):gw v d n<=n:=by
 unfold gw;split
 ·exact h
 ·exact Hn
theorem zH (n:Nat):Builtin.Str.strSliceIndices none none (-1) n=(List.range n).map (n-1-·):=by
 unfold Builtin.Str.strSliceIndices sliceRange
 have h1:¬((-1:Int)>0):=by decide
 simp only [h1,if_false]
 have:(if ((n:Int)-1)> -1 then ((n:Int)-1- -1- -1-1)/(- -1) else (0:Int)).toNat=n:=by
  split<;>(try simp only [Int.neg_neg,Int.ediv_one])<;>lia
 refine rW this ?_
 refine List.map_congr_left λk hk=>?_
 have h:=List.mem_range.mp hk
 refine (congrArg Int.toNat ?_).trans (Int.toNat_natCast (n-1-k))
 exact rW (Int.natCast_sub (Nat.le_sub_one_of_lt h)) (rW (Int.natCast_sub (lA h)) (by simp+arith only;rfl))
theorem hJ {α:Type}(l:List α):nR none none (some (-1)) l=l.reverse:=by
 unfold nR
 refine (?_:(Builtin.Str.strSliceIndices none none (-1) l.length).filterMap _=_)
 have e:(List.range l.length).map (l.length-1-·)=(List.range l.length).reverse:=by
  refine List.ext_getElem (by simp) λi h1 h2=>?_
  simp only [List.getElem_map,List.getElem_range,List.getElem_reverse,List.length_range]
 refine rW (zH ..) (rW e (rW List.filterMap_reverse ?_))
 congr 1
 have:=jn l 0 l.length
 simp only [Nat.zero_add,List.map_id',List.drop_zero,List.take_length] at this
 exact this
set_option tactic.hygienic true in
theorem wb {x:Str}{t:Tok}{l u st:Option (Int×Tok)}{R:Value->Shared->Prop}(hst:st.map (·.1)=none\/(l.map (·.1)=none/\u.map (·.1)=none/\st.map (·.1)=some (-1)))(hsz:x.length<=sizeLine)
  (q:∀t k,R (.str (q7 (l.map (·.1)) (u.map (·.1)) (st.map (·.1)) x) t) {s with toks:=k}):(sliceMade x t l u st).post R s:=by
 unfold sliceMade
 have e:(slicePicked x l u st).filterMap (x.cps[·]?)=nR (l.map (·.1)) (u.map (·.1)) (st.map (·.1)) x.cps.toList:=by
  unfold slicePicked nR
  simp only [Array.getElem?_toList,Array.length_toList]
  rfl
 have hx:x.cps.toList.length=x.length:=by refine rW Array.length_toList ?_;rfl
 split
 ·rename_i h
  simp only [Bool.and_eq_true,beq_iff_eq] at h
  obtain ⟨h1,h2⟩:=h
  have full:q7 (l.map (·.1)) (u.map (·.1)) (st.map (·.1)) x=x:=by
   rcases hst with hst|hst
   ·refine rW hst ?_
    unfold q7
    refine rW (jR ..) ?_
    unfold slicePicked at h2
    rw [h1,uc,List.length_map,List.length_range] at h2
    refine rW hx ?_
    have a1:=uu (l.map (·.1)) 0 x.length (by exact Nat.zero_le _)
    have a2:=uu (u.map (·.1)) x.length x.length (by exact Nat.le_refl _)
    have:gw (l.map (·.1)) 0 x.length=0:=by
     rcases Nat.eq_zero_or_pos (gw (l.map (·.1)) 0 x.length) with e|e
     ·exact e
     ·exact absurd h2 (Nat.ne_of_lt (Nat.lt_of_lt_of_le (Nat.sub_lt (Nat.lt_of_lt_of_le e a1 |>λq=>Nat.pos_of_ne_zero λz=>by rw [z] at h2;exact absurd h2.symm (Nat.ne_of_gt (rW (Nat.zero_sub _) q))) e) a2))
    exact rW this (rW List.drop_zero (rW (List.take_of_length_le (Nat.le_trans (eL hx) (Nat.le_trans (eR h2) (Nat.sub_le _ _)))) rfl))
   ·rw [hst.2.2] at h1;simp at h1
  have:=q t s.toks
  rw [full] at this
  exact this
 ·refine ⟨?_,?_⟩
  ·refine rW e ?_
   refine (?_:(nR _ _ _ _).toArray.size<=_)
   refine rW List.size_toArray ?_
   rcases hst with hst|hst
   ·refine rW hst (rW (jR ..) (rW List.length_take (rW List.length_drop ?_)));exact Nat.le_trans (Nat.min_le_right _ _) (by exact lC hsz (eL hx) (Nat.sub_le x.cps.toList.length (gw (Option.map (λx=>x.fst) l) 0 x.cps.toList.length)))
   ·refine rW hst.1 (rW hst.2.1 (rW hst.2.2 (rW (hJ ..) (rW List.length_reverse ?_))));assumption
  ·refine rW e ?_;exact q _ _
theorem jB {v:Value}{r:Option Int}(h:IsPart v r):∃l:Option (Int×Tok),l.map (·.1)=r/\partValue l=v:=by
 cases h with
 | none=>exact ⟨none,rfl,rfl⟩
 | int i t=>exact ⟨some (i,t),rfl,rfl⟩
set_option tactic.hygienic true in
theorem Ag {m:Bool}{x:V}{lo hi st:Option Int}{vx vl vu vs:Value}{value slice:PySem.Expr}(h2:st=none\/(lo=none/\hi=none/\st=some (-1)))(S:Sx G Z η fs s)(rx:Rel G.w.params Z x vx)(pl:IsPart vl lo)(pu:IsPart vu hi)(ps:IsPart vs st)(q:yA m x lo hi st η Q):
  wpAny (model G.prog G.w) A (subscriptTail value slice vx (.ref s.heap.objs.size)) (PV G Z fs Q) (PX G Z fs E) {s with heap:=s.heap.push {cls:= .type "slice",data:= .fields #[vl,vu,vs]}}:=by
 have S':Sx G Z η fs {s with heap:=s.heap.push {cls:= .type "slice",data:= .fields #[vl,vu,vs]}}:=S.move (S.st.keep (aW _ _))
 have hs:({s with heap:=s.heap.push {cls:= .type "slice",data:= .fields #[vl,vu,vs]}}:Shared).heap.IsSliceOf s.heap.objs.size vl vu vs:=Heap.IsSliceOf.new ..
 generalize s.heap.objs.size=sl at hs
 generalize ({s with heap:=s.heap.push {cls:= .type "slice",data:= .fields #[vl,vu,vs]}}:Shared)=s' at S' hs
 clear S
 have hl:(jV η x λl=>l.length<=sizeLine/\eA m (nR lo hi st l) η Q)->wpAny (model G.prog G.w) A (subscriptTail value slice vx (.ref sl)) (PV G Z fs Q) (PX G Z fs E) s':=λq=>by
  obtain ⟨l,hl,h1,q⟩:=cR q
  obtain ⟨a,items,rfl,h,r⟩:=lst_is S' rx hl
  have e1:=r.length
  simp only [Array.length_toList] at e1
  refine iP h.typeIs slot_list_getitem.lookup (wpAny_getItem_list_slice h hs pl pu ps (by rcases h2 with h2|h2<;>simp [h2]) ?_ (by (simp only [*])))
  refine rW (oN ..) ?_
  refine o7 (n:=0) S' ?_ q
  refine (?_:ar _ _ (nR lo hi st l) (nR lo hi st items.toList))
  unfold nR
  refine rW r.length ?_
  exact r.pick _
 cases x
 case str y=>
  clear hl;obtain ⟨h1,q⟩:=q
  obtain ⟨t,rfl⟩:=aX rx
  obtain ⟨l',hl1,hl2⟩:=jB pl
  obtain ⟨u',hu1,hu2⟩:=jB pu
  obtain ⟨s'',hs1,hs2⟩:=jB ps
  subst hl1 hl2 hu1 hu2 hs1 hs2
  refine iP (typeIs_str s' y t) PySem.F.slot_str_getitem.lookup (wpAny_getItem_str_slice (l:=l') (u:=u') (st:=s'') hs ?_ (wb h2 h1 λt k=>pv (S'.tok _) ix q))
  rcases h2 with h2|h2
  ·refine rW h2 ?_;rfl
  ·refine rW h2.2.2 ?_;rfl
 case tup l=>
  clear hl h2;obtain ⟨rfl,q⟩:=q
  obtain ⟨a,items,n,rfl,h,r⟩:=lR S' rx
  have ht:IsTup s'.heap a items:=⟨_,h,rfl,n,rfl⟩
  have e1:=r.length
  simp only [Array.length_toList] at e1
  cases ps
  cases pl with
  | none=>
   cases pu with
   | none=>exact q.elim
   | int b u=>
    obtain ⟨h1,h2,h3,q⟩:=q
    obtain ⟨b',rfl⟩:=Int.eq_ofNat_of_zero_le h1
    refine iP ht.typeIs slot_tuple_getitem.lookup (kz ht hs (by exact lB (eR e1) (Int.ofNat_lt.mp h2)) ?_ (by (simp only [*])))
    exact o6 (n:=0) S' (r.take _) q
  | int a u=>
   cases pu with
   | int=>exact q.elim
   | none=>
    obtain ⟨h1,h2,h3,q⟩:=q
    obtain ⟨a',rfl⟩:=Int.eq_ofNat_of_zero_le (show 0<=a by exact Int.le_of_lt (by assumption))
    refine iP ht.typeIs slot_tuple_getitem.lookup (getItem_tuple_from ht hs (by exact Int.ofNat_lt.mp (by assumption)) (by exact lB (eR e1) (Int.ofNat_le.mp h2)) ?_ (by exact lB (eL e1) h3))
    exact o6 (n:=0) S' (r.drop _) q
 all_goals exact hl q
set_option tactic.hygienic true in
theorem C4 {m:Bool}{x lo hi st:V}{vx vl vu vs:Value}{value slice:PySem.Expr}(S:Sx G Z η fs s)(rx:Rel G.w.params Z x vx)(pl:Rel G.w.params Z lo vl)(pu:Rel G.w.params Z hi vu)(ps:Rel G.w.params Z st vs)(q:AV m x lo hi st η Q):
  wpAny (model G.prog G.w) A (subscriptTail value slice vx (.ref s.heap.objs.size)) (PV G Z fs Q) (PX G Z fs E) {s with heap:=s.heap.push {cls:= .type "slice",data:= .fields #[vl,vu,vs]}}:=by
 cases st
 case none=>
  have q:Dg lo λlo=>Dg hi λhi=>yA m x lo hi none η Q:=q
  obtain ⟨lo,pl,q⟩:=Ap q pl
  obtain ⟨hi,pu,q⟩:=Ap q pu
  obtain rfl:=of_none ps
  exact Ag (.inl rfl) S rx pl pu .none q
 case int i=>
  obtain ⟨rfl,q⟩:=q
  obtain ⟨t,rfl⟩:=aY ps
  cases lo
  case none=>
   cases hi
   case none=>
    obtain rfl:=of_none pl
    obtain rfl:=of_none pu
    exact Ag (.inr ⟨rfl,rfl,rfl⟩) S rx .none .none (.int _ t) q
   all_goals exact q.elim
  all_goals exact q.elim
 all_goals exact q.elim
end
end
section
variable {G:Gc}{A:Around}{fs:List Fm}{η:Hm}{E:Prop}{Z:Heap}{s:Shared}{Q:V->Hm->Prop}
noncomputable def hand:V->Bool
 | .con c=>handedIn c
 | _=>true
theorem zJ {P:Params}{Z:Heap}{X:V}{v:Value}(r:Rel P Z X v)(h:hand X=true):handedIn v=true:=by
 cases X
 case con=>obtain rfl:v=_:=r;exact h
 case none=>obtain rfl:v=_:=r;rfl
 case bool=>obtain rfl:v=_:=r;rfl
 case int=>obtain ⟨t,rfl⟩:=r;rfl
 case str=>obtain ⟨t,rfl⟩:=r;rfl
 case tup=>obtain ⟨a,items,n,rfl,_⟩:=r;rfl
 case lst=>obtain ⟨a,items,n,rfl,_⟩:=r;rfl
 case rk=>obtain ⟨a,items,n,rfl,_⟩:=r;rfl
 case obj=>obtain ⟨a,dx,o,es,n,rfl,_⟩:=r;rfl
 case ref=>obtain rfl:v=_:=r;rfl
 case q8=>obtain ⟨_,_,_,_,rfl,_⟩:=r;rfl
noncomputable def xx (o:AO):Option (Addr×Addr):=match o with
 | .inst C dx=>some (C,dx)
 | _=>none
noncomputable def DH (o:AO):Option (List Str×List V):=match o with
 | .aZ ks vs=>some (ks,vs)
 | _=>none
noncomputable def eI (η:Hm):V->Option (Addr×List Str×List V)
 | .obj C ks vs=>some (C,ks,vs)
 | .ref a=>(η a).bind λo=>(xx o).bind λp=>(η p.2).bind λo=>(DH o).map λq=>(p.1,q.1,q.2)
 | _=>none
theorem uU {o:AO}{p:Addr×Addr}(e:xx o=some p):o= .inst p.1 p.2:=by
 cases o with
 | inst C dx=>cases e;rfl
 | _=>cases e
theorem zN {o:AO}{p:List Str×List V}(e:DH o=some p):o= .aZ p.1 p.2:=by
 cases o with
 | aZ C dx=>cases e;rfl
 | _=>cases e
theorem pD {η:Hm}{a C dx:Addr}{ks:List Str}{vs:List V}(h1:η a=some (.inst C dx))(h2:η dx=some (.aZ ks vs)):eI η (.ref a)=some (C,ks,vs):=by
 refine (?_:(η a).bind _=_)
 refine rW h1 ?_
 refine (?_:(η dx).bind _=_)
 refine rW h2 ?_;rfl
inductive FQ (h:Heap)(C:Addr)(ks:List Str)(R:List Value->Prop)(v:Value):Prop
 | mk (a:Addr) (ox:Obj) (dx:Addr) (es:List DictEntry) (n:Nat) (e:v= .ref a) (i:InstAt h a ox C (some (dictOf es n))) (d:ox.dict=some dx) (k:KeysAre es ks) (r:R (es.map (·.val)))
theorem ua {X:V}{v:Value}{C:Addr}{ks:List Str}{vs:List V}(S:Sx G Z η fs s)(r:Rel G.w.params Z X v)(e:eI η X=some (C,ks,vs)):
  FQ s.heap C ks (ar G.w.params Z vs) v:=by
 cases X with
 | obj C' ks' vs'=>
  cases e
  obtain ⟨a,dx,o,es,n,rfl,h0,h1,h2,h3,h4,h5,h6⟩:=r
  exact ⟨a,o,dx,es,n,rfl,⟨S.st.z _ _ h0,h1,by simp [notCls,h3],by refine rW h2 ?_;exact S.st.z _ _ h4⟩,h2,h5,h6⟩
 | ref a=>
  obtain ⟨o,q,f⟩:=Option.bind_eq_some_iff.mp e
  clear e;obtain ⟨p,e1,g⟩:=Option.bind_eq_some_iff.mp f
  obtain rfl:=uU e1
  obtain ⟨o',q',h⟩:=Option.bind_eq_some_iff.mp g
  obtain ⟨p',e2,k⟩:=Option.map_eq_some_iff.mp h
  obtain rfl:=zN e2
  cases k
  obtain ⟨o,ho,h1,h2,h3⟩:=(S.st.e _ _ q).2
  obtain ⟨es,n,h4,h5,h6⟩:=(S.st.e _ _ q').2
  exact ⟨a,o,_,es,n,fR r,⟨ho,h1,by simp [notCls,h3],by refine rW h2 ?_;exact h4⟩,h2,h5,h6⟩
 | _=>cases e
noncomputable def eu (dP:List (Addr×Str))(X:V)(x:Str)(η:Hm):Option V:=
 (eI η X).bind λp=>if (p.1,x)∈dP then (BC p.2.1 p.2.2 x).bind λY=>if hand Y then some Y else none else none
theorem Ak {X Y:V}{x:Str}{v:Value}{e:Bool}(S:Sx G Z η fs s)(r:Rel G.w.params Z X v)(h:eu G.dP X x η=some Y)(q:Q Y η):
  wpAny (model G.prog G.w) A (getAttr v x e) (PV G Z fs Q) (PX G Z fs E) s:=by
 unfold eu at h
 obtain ⟨⟨C,ks,vs⟩,q',h⟩:=Option.bind_eq_some_iff.mp h
 rcases j1 h with ⟨hm,h⟩|h
 ·obtain ⟨Y',hl,hy⟩:=Option.bind_eq_some_iff.mp h
  rcases j1 hy with ⟨hh,hy⟩|hy
  ·cases hy
   obtain ⟨a,ox,dx,es,n,rfl,I,hd,hk,hr⟩:=ua S r q'
   obtain ⟨en,me,fe,re⟩:=oh hk hr hl
   have ao:=S.bs.DE.at_ C x hm
   refine get_value (S.bs.k.keeps S.st.z) I ao.1 (findObj_own ao.2.1 ao.2.2.1 (by rfl) (v:=en.val) ?_) (zJ re hh) (pv (S.tok _) re q)
   unfold lookIn
   simp only [dictOf,fe]
  ·cases hy
 ·cases h
noncomputable def gQ:List Str->List V->Str->V->List Str×List V
 | k::ks,v::vs,x,Y=>if x=k then (k::ks,Y::vs) else let r:=gQ ks vs x Y;(k::r.1,v::r.2)
 | _,_,x,Y=>([x],[Y])
theorem no_ref:∀{es:List DictEntry} {ks:List Str},KeysAre es ks->es.any (·.refKey)=false
 | [],_,_=>rfl
 | e::es,[],h=>nomatch h
 | e::es,k::ks,h=>by
  obtain ⟨⟨t,hk⟩,h⟩:=h
  refine rW List.any_cons (rW (no_ref h) (rW (Bool.or_false ..) ?_))
  unfold DictEntry.refKey
  exact rW hk rfl
noncomputable def lq (x:Str)(h:Int)(k v:Value):List DictEntry->List DictEntry
 | []=> [⟨h,k,v⟩]
 | e::es=>if e.key.isStr x then {e with val:=v}::es else e::lq x h k v es
theorem rU {x:Str}{h:Int}{k v:Value}{e:DictEntry}{es:List DictEntry}:lq x h k v (e::es)=if e.key.isStr x then {e with val:=v}::es else e::lq x h k v es:=rfl
theorem Bf {k x:Str}{ks:List Str}{v Y:V}{vs:List V}:gQ (k::ks) (v::vs) x Y=if x=k then (k::ks,Y::vs) else (k::(gQ ks vs x Y).1,v::(gQ ks vs x Y).2):=rfl
theorem nX {P:Params}{Z:Heap}{x:Str}{h:Int}{t:Tok}{Y:V}{v:Value}(ry:Rel P Z Y v):∀{es:List DictEntry} {ks:List Str} {vs:List V},KeysAre es ks->ar P Z vs (es.map (·.val))->
  KeysAre (lq x h (.str x t) v es) (gQ ks vs x Y).1/\ar P Z (gQ ks vs x Y).2 ((lq x h (.str x t) v es).map (·.val)):=by
 intro es
 induction es with
 | nil=>
  intro ks vs h1 h2
  cases ks with
  | nil=>
   cases vs with
   | nil=>exact ⟨⟨⟨t,rfl⟩,trivial⟩,v,[],rfl,ry,rfl⟩
   | cons=>obtain ⟨_,_,z,_⟩:=h2;cases z
  | cons=>cases h1
 | cons e es ih=>
  intro ks vs h1 h2
  cases ks with
  | nil=>cases h1
  | cons k ks=>
   obtain ⟨⟨u,hk⟩,h1⟩:=h1
   cases vs with
   | nil=>cases h2
   | cons y vs=>
    obtain ⟨w,ws,e1,h2,h4⟩:=h2
    obtain ⟨rfl,rfl⟩:=List.cons.inj e1
    refine rW Bf (rW rU ?_)
    by_cases hx:x=k
    ·subst hx
     rw [if_pos rfl,if_pos (by refine rW hk ?_;simp [Value.isStr])]
     exact ⟨⟨⟨u,hk⟩,h1⟩,_,_,rfl,ry,h4⟩
    ·have hf:e.key.isStr x=false:=by
      refine rW hk ?_;refine (?_:(k==x)=false)
      rw [beq_eq_false_iff_ne];exact λq=>hx q.symm
     refine rW (if_neg hx) (rW hf (rW (if_neg (by simp)) ?_))
     obtain ⟨i1,i2⟩:=ih h1 h4
     exact ⟨⟨⟨u,hk⟩,i1⟩,_,_,rfl,h2,i2⟩
theorem mr (x:Str)(h:Int)(k v:Value):∀es:List DictEntry,(lq x h k v es).length<=es.length+1
 | []=>Nat.le_refl 1
 | e::es=>by
  refine rW rU ?_
  by_cases z:e.key.isStr x=true
  ·refine rW (if_pos z) ?_;exact Nat.le_succ _
  ·refine rW (if_neg z) ?_;exact Nat.succ_le_succ (mr x h k v es)
theorem my:∀{es:List DictEntry} {ks:List Str},KeysAre es ks->es.length=ks.length
 | [],[],_=>rfl
 | [],_::_,h=>nomatch h
 | e::es,[],h=>nomatch h
 | e::es,k::ks,h=>congrArg (· +1) (my h.2)
theorem nW (x:Str)(h:Int)(k v:Value)(es:List DictEntry)(n:Nat):∃n',Obj.putName x h k v (dictOf es n)=dictOf (lq x h k v es) n':=by
 have aux:∀(es:List DictEntry),(match es.findIdx? (λe=>e.key.isStr x) with
   | some i=>es.modify i (λe=>{e with val:=v})
   | none=>es++ [⟨h,k,v⟩])=lq x h k v es:=by
  intro es
  induction es with
  | nil=>rfl
  | cons e es ih=>
   refine rW rU (rW List.findIdx?_cons ?_)
   cases q:e.key.isStr x with
   | true=>simp
   | false=>
    refine rV ih ?_
    cases q2:es.findIdx? (λe=>e.key.isStr x) with
    | none=>simp
    | some i=>simp
 refine rW Obj.putName_eq ?_
 unfold Obj.putNameByArray
 simp only [dictOf,List.findIdx?_toArray]
 refine rV (aux es) ?_
 cases q:es.findIdx? (λe=>e.key.isStr x) with
 | none=>exact ⟨n+1,by simp⟩
 | some i=>exact ⟨n,by simp⟩
@[irreducible] noncomputable def jq (dP:List (Addr×Str))(X:V)(x:Str)(Y:V)(η:Hm)(Q:Hm->Prop):Prop:=
 ∃a C dx ks vs,X= .ref a/\η a=some (.inst C dx)/\η dx=some (.aZ ks vs)/\(C,x)∈dP/\ks.length<=100/\Q (upd η dx (.aZ (gQ ks vs x Y).1 (gQ ks vs x Y).2))
theorem Ah {X Y:V}{x:Str}{v y:Value}{Q:Hm->Prop}{R:Unit->Shared->Prop}{E':Value->Shared->Prop}(S:Sx G Z η fs s)(r:Rel G.w.params Z X v)(ry:Rel G.w.params Z Y y)(h:jq G.dP X x Y η Q)
  (k:∀η' s',Sx G Z η' fs s'->Q η'->R () s'):wpAny (model G.prog G.w) A (setAttr v x y) R E' s:=by
 unfold jq at h
 obtain ⟨a,C,dx,ks,vs,rfl,e1,e2,hm,hk,q⟩:=h
 obtain rfl:=fR r
 have ao:=S.bs.DE.at_ C x hm
 have I0:∃ox od,InstAt s.heap a ox C od:=by
  obtain ⟨ox,ho,h1,h2,h3⟩:=(S.st.e _ _ e1).2
  obtain ⟨es,n,h4,h5,h6⟩:=(S.st.e _ _ e2).2
  exact ⟨ox,some (dictOf es n),ho,h1,by simp [notCls,h3],by refine rW h2 ?_;exact h4⟩
 obtain ⟨_,_,I0⟩:=I0
 refine set_plain (S.bs.k.keeps S.st.z) I0 ao.2.2.2.1 ?_
 have S1:=S.tok (s.toks+1)
 generalize s.toks=tk0 at S1 ⊢
 generalize ({s with toks:=tk0+1}:Shared)=s1 at S1 ⊢
 clear S I0 r
 obtain ⟨ox,ho,h1,h2,h3⟩:=(S1.st.e _ _ e1).2
 obtain ⟨es,n,h4,h5,h6⟩:=(S1.st.e _ _ e2).2
 have X:=S1.bs.k.keeps S1.st.z
 have I:InstAt s1.heap a ox C (some (dictOf es n)):=⟨ho,h1,by simp [notCls,h3],by refine rW h2 ?_;exact h4⟩
 refine osa_open X I ao.2.2.2.2.1 ao.2.2.2.2.2.1 λb=>?_
 clear I h3;obtain ⟨cd,hc,hd'⟩:=any_some ao.2.2.2.2.2.2
 obtain ⟨n',hp⟩:=nW x (PyData.keyHash G.w.params x) (.str x (s1.toks)) y es n
 obtain ⟨p1,p2⟩:=nX (P:=G.w.params) (x:=x) (h:=PyData.keyHash G.w.params x) (t:=s1.toks) ry h5 h6
 have hl:(lq x (PyData.keyHash G.w.params x) (.str x (s1.toks)) y es).length<=101:=by
  have:=mr x (PyData.keyHash G.w.params x) (.str x (s1.toks)) y es
  have:=my h5
  exact jG ‹_› (by exact lB hk (eL this))
 obtain ⟨oc,odi,oda,osl⟩:=ox
 dsimp only at h1 h2
 subst h1 h2
 refine wpAny_bind (wpAny_pure (wpAny_bind (wpAny_bind (wpAny_loadPart ho (wpAny_bind ((looks_clsIn X hc).here ?_))))))
 refine rW hd' ?_
 refine wpAny_pure (a:=some dx) (wpAny_bind (wpAny_pure (wpAny_bind ?_)))
 unfold nsSet
 refine wpAny_bind (wpAny_bind (wpAny_askSetting (wpAny_pure (wpAny_bind (wpAny_mkText (wpAny_bind (wpAny_loadPart h4 ?_)))))))
 have c:aRefKeyMayBeTheName x es.toArray=false:=by
  rw [aRefKeyMayBeTheName_at,show es.toArray.any (·.refKey)=false by refine rW List.any_toArray ?_;exact no_ref h5,Bool.and_false]
 dsimp only [dictOf]
 refine rW c ?_
 have hu:s1.heap.StaysIn s1.heap:=λξ ξ e=>e
 have g':(s1.heap.update dx (Obj.putName x (PyData.keyHash G.w.params x) (.str x (s1.toks)) y)).get? dx=some (dictOf (lq x (PyData.keyHash G.w.params x) (.str x (s1.toks)) y es) n'):=by
  refine rV hp ?_;exact Heap.get?_update_self _ h4 (by refine rW hp ?_;rfl)
 refine wpAny_updatePart h4 ?_
 refine wpAny_bind (wpAny_lookBehind g' (pastItsLine_dict (by refine rW List.size_toArray (rW sizeLine_eq ?_);exact j7 ‹_› (by rfl))) ?_)
 have SS:=S1.st.set (x':= .aZ (gQ ks vs x Y).1 (gQ ks vs x Y).2) e2 (λb o hb e=>(Heap.get?_update_other _ _ (Ne.symm hb)).trans e) ⟨_,_,g',p1,p2⟩
 exact wpAny_pure (k _ _ (S1.move SS) q)
end
section
variable {G:Gc}{A:Around}{fs:List Fm}{η:Hm}{E:Prop}{Z:Heap}{s:Shared}{Q:V->Hm->Prop}
theorem Sx.keep {h':Heap}{t:Nat}(S:Sx G Z η fs s)(k:s.heap.StaysIn h'):Sx G Z η fs {s with heap:=h',toks:=t}:=S.move (S.st.keep k)
theorem hM {a:Addr}{l:List V}(S:Sx G Z η fs s)(e:η a=some (.list l)):∃items n,s.heap.get? a=some (eG items n)/\ar G.w.params Z l items.toList/\items.size=l.length/\
  ∀(f:Array Value->Array Value) (l':List V) (t:Nat),ar G.w.params Z l' (f items).toList->Sx G Z (upd η a (.list l')) fs {s with heap:=s.heap.update a (Obj.mapSeq f),toks:=t}:=by
 obtain ⟨items,n,h1,h2⟩:=(S.st.e _ _ e).2
 refine ⟨items,n,h1,h2,by have:=h2.length;simpa using this,λf l' t r=>?_⟩
 have g:=Heap.get?_update_self (Obj.mapSeq f) h1 rfl
 have SS:=S.st.set (h':=s.heap.update a (Obj.mapSeq f)) (x':= .list l') e (λb o hb e=>(Heap.get?_update_other _ _ (Ne.symm hb)).trans e) ⟨f items,_,g.trans (congrArg some rfl),r⟩
 exact S.move SS
theorem x7 {a:Addr}{l:List V}{Y:V}{y:Value}(S:Sx G Z η fs s)(e:η a=some (.list l))(ry:Rel G.w.params Z Y y)(hl:l.length<=sizeLine)(q:Q .none (upd η a (.list (l++ [Y])))):
  wpAny (model G.prog G.w) A (call (.builtin "list.append") [.ref a,y]) (PV G Z fs Q) (PX G Z fs E) s:=by
 obtain ⟨items,n,h1,h2,h3,k⟩:=hM S e
 refine call_meets PySem.F.slot_list_append ⟨_,h1,rfl⟩ PySem.F.entry_list_append (PySem.F.args_list_append_2 _ _) (AutoListH.list_append_list_val_0 a items n y (by (simp only [*]))) ⟨h1,?_⟩
 exact pv (k _ (l++ [Y]) s.toks (by refine rW Array.toList_push ?_;exact h2.append (ar.one ry))) gF q
theorem x6 {a:Addr}{l l2:List V}{Y:V}{y:Value}(S:Sx G Z η fs s)(e:η a=some (.list l))(ry:Rel G.w.params Z Y y)(ey:qY η Y=some l2)(hl:l.length+l2.length<=sizeLine)(q:Q .none (upd η a (.list (l++l2)))):
  wpAny (model G.prog G.w) A (call (.builtin "list.extend") [.ref a,y]) (PV G Z fs Q) (PX G Z fs E) s:=by
 obtain ⟨items,n,h1,h2,h3,k⟩:=hM S e
 obtain ⟨b,i2,n2,rfl,h4,r2⟩:=e9 S ry ey
 have e2:=r2.length
 simp only [Array.length_toList] at e2
 refine call_meets PySem.F.slot_list_extend ⟨_,h1,rfl⟩ PySem.F.entry_list_extend (PySem.F.args_list_extend_2 _ _) (AutoSeq1.list_extend_list_list_0 a items n b i2 n2 (by simp [Builtin.List.listTooLong,sizeLine] at*;lia) (by exact lB hl (eL h3)) (by lia)) ⟨h1,h4,?_⟩
 exact pv (k _ (l++l2) s.toks (by refine rW Array.toList_append ?_;exact h2.append r2)) gF q
theorem pz:seqSlot? (.type "list") (dunderI "add")=pure (some (.builtin "list.__iadd__")):=by
 unfold seqSlot?
 refine rW PySem.F.slot_list_iadd.lookup ?_
 rfl
theorem lx:fillsInplaceSlot (.type "list") "add" (Operator.Add== .Add)=pure false:=by
 unfold fillsInplaceSlot
 refine (?_:(typeLookup (.type "list") (dunderI "add")>>=λfi=>pure (fi.isSome&& !isSeqSlot fi))=_)
 refine rW PySem.F.slot_list_iadd.lookup ?_
 rfl
theorem qX {a:Addr}{l l2:List V}{Y:V}{y:Value}(S:Sx G Z η fs s)(e:η a=some (.list l))(ry:Rel G.w.params Z Y y)(ey:qY η Y=some l2)(hl:l.length+l2.length<=sizeLine)(q:Q (.ref a) (upd η a (.list (l++l2)))):
  wpAny (model G.prog G.w) A (inplaceOp .Add (.ref a) y) (PV G Z fs Q) (PX G Z fs E) s:=by
 obtain ⟨items,n,h1,h2,h3,k⟩:=hM S e
 obtain ⟨b,i2,n2,rfl,h4,r2⟩:=e9 S ry ey
 have e2:=r2.length
 simp only [Array.length_toList] at e2
 have T1:s.TypeIs (.ref a) "list":=⟨_,h1,rfl⟩
 have T2:s.TypeIs (.ref b) "list":=⟨_,h4,rfl⟩
 unfold inplaceOp
 refine wpAny_holding (wpAny_bind (wpAny_typeOf T1 (wpAny_bind (wpAny_of_eq lx ?_))))
 refine (?_:wpAny _ _ (if false=true then _ else _) _ _ _)
 refine rW (if_neg Bool.false_ne_true) ?_
 refine wpAny_bind (wpAny_binaryOp1_none (nm:="add") T1 T2 noFill_list_add ?_)
 refine wpAny_bind (wpAny_of_eq pz ?_)
 refine wpAny_bind (wpAny_rule ?_)
 refine call_meets PySem.F.slot_list_iadd T1 PySem.F.entry_list_iadd (PySem.F.args_list_iadd_2 _ _) (AutoSeq1.list___iadd___list_list_0 a items n b i2 n2 (by simp [Builtin.List.listTooLong,sizeLine] at*;lia) (by exact lB hl (eL h3)) (by lia)) ⟨h1,h4,?_⟩
 exact pv (k _ (l++l2) s.toks (by refine rW Array.toList_append ?_;exact h2.append r2)) iR q
theorem vm {a:Addr}{l:List V}(S:Sx G Z η fs s)(e:η a=some (.list l))(hl:l.length<=sizeLine)(q:Q .none (upd η a (.list l.reverse))):
  wpAny (model G.prog G.w) A (call (.builtin "list.reverse") [.ref a]) (PV G Z fs Q) (PX G Z fs E) s:=by
 obtain ⟨items,n,h1,h2,h3,k⟩:=hM S e
 refine call_meets PySem.F.slot_list_reverse ⟨_,h1,rfl⟩ PySem.F.entry_list_reverse (PySem.F.args_list_reverse_1 _) (AutoSeq1.list_reverse_list_0 a items n (by exact lB hl (eL h3))) ⟨h1,?_⟩
 exact pv (k _ l.reverse s.toks (by refine rW Array.toList_reverse ?_;exact h2.reverse)) gF q
theorem ar.erase {P:Params}{Z:Heap}{l:List V}{vs:List Value}(r:ar P Z l vs)(i:Nat):ar P Z (l.eraseIdx i) (vs.eraseIdx i):=by
 refine rW (List.eraseIdx_eq_take_drop_succ ..) (rW (List.eraseIdx_eq_take_drop_succ ..) ?_)
 exact (r.take i).append (r.drop (i+1))
theorem oi (items:Array Value)(i:Nat):(items.eraseIdxIfInBounds i).toList=items.toList.eraseIdx i:=by
 simp [Array.eraseIdxIfInBounds]
 split
 ·simp
 ·rw [List.eraseIdx_of_length_le];simpa using by exact Nat.le_of_not_lt (by assumption)
theorem DT {a:Addr}{l:List V}{Y:V}(S:Sx G Z η fs s)(e:η a=some (.list (l++ [Y])))(hl:l.length<sizeLine)(q:Q Y (upd η a (.list l))):
  wpAny (model G.prog G.w) A (call (.builtin "list.pop") [.ref a]) (PV G Z fs Q) (PX G Z fs E) s:=by
 obtain ⟨items,n,h1,h2,h3,k⟩:=hM S e
 rw [List.length_append,List.length_singleton] at h3
 obtain ⟨y,hy,ry⟩:=h2.get (i:=l.length) (x:=Y) (by simp)
 refine call_meets PySem.F.slot_list_pop ⟨_,h1,rfl⟩ PySem.F.entry_list_pop (PySem.F.args_list_pop_1 _) (MeetsSeq.list_pop_last a items n y (by refine rW h3 (rV Array.getElem?_toList ?_);exact hy) (by exact lB hl (eL h3))) ⟨h1,?_⟩
 refine pv (k _ l s.toks ?_) ry q
 refine rW (oi ..) (rW h3 ?_)
 have:=h2.erase l.length
 rwa [List.eraseIdx_append_of_length_le (Nat.le_refl _),Nat.sub_self,List.eraseIdx_zero,List.tail_cons,List.append_nil] at this
theorem Ca {a:Addr}{l:List V}{Y:V}{u:Tok}(S:Sx G Z η fs s)(e:η a=some (.list (Y::l)))(hl:l.length<sizeLine)(q:Q Y (upd η a (.list l))):
  wpAny (model G.prog G.w) A (call (.builtin "list.pop") [.ref a, .int 0 u]) (PV G Z fs Q) (PX G Z fs E) s:=by
 obtain ⟨items,n,h1,h2,h3,k⟩:=hM S e
 rw [List.length_cons] at h3
 obtain ⟨y,hy,ry⟩:=h2.get (i:=0) (x:=Y) (by simp)
 refine call_meets PySem.F.slot_list_pop ⟨_,h1,rfl⟩ PySem.F.entry_list_pop (PySem.F.args_list_pop_2 _ _) (MeetsSeq.list_pop_at a items n 0 u 0 y (by decide) (by simp [seqIndex?,h3]) (by refine rV Array.getElem?_toList ?_;exact hy) (by exact lB hl (eL h3))) ⟨h1,?_⟩
 refine pv (k _ l s.toks ?_) ry q
 refine rW (oi ..) ?_
 have:=h2.erase 0
 simpa using this
end
noncomputable def intsOf:List V->Option (List Int)
 | []=>some []
 | .int i::r=>(intsOf r).map (i::·)
 | _=>none
noncomputable def strsOf:List V->Option (List Str)
 | []=>some []
 | .str i::r=>(strsOf r).map (i::·)
 | _=>none
noncomputable def DB (K:Frag)(x:V)(c:Value):Option Bool:=match x with
 | .none=>if c= .type "int" then some false else none
 | .int _=>if c= .type "int" then some true else if c= .type "str" then some false else none
 | .str _=>(match c with
  | .type t=>if t="int" then some false else if t="str" then some true else none
  | .ref C=>if isNotIn K "str" C then some false else none
  | _=>none)
 | _=>none
noncomputable def rY (l:List V)(P:V->Prop):Prop:=match l with
 | []=>False
 | x::r=>(match r with
  | []=>P x
  | _::_=>False)
noncomputable def yi (l:List V)(P:V->V->Prop):Prop:=match l with
 | []=>False
 | x::r=>rY r (P x)
noncomputable def wK (y:V)(P:Addr->Prop):Prop:=match y with
 | .ref b=>P b
 | _=>False
noncomputable def Ds (η:Hm)(x:V)(P:Nat->Prop):Prop:=match x with
 | .str x=>P x.length
 | x=>jV η x λl=>P l.length
noncomputable def Gb (y:V)(P:Value->Prop):Prop:=match y with
 | .con b=>P b
 | _=>False
noncomputable def Ac (K:Frag)(b:Bi)(m:Bool)(l:List V)(η:Hm)(Q:V->Hm->Prop):Prop:=
 match b with
 | .len=>rY l λx=>Ds η x λn=>n<2^63/\Q (.int n) η
 | .abs=>rY l λx=>eh x λa=>Q (.int (if a<0 then-a else a)) η
 | .ord=>rY l λx=>q9 x λx=>∃c,x=⟨#[c]⟩/\Q (.int c) η
 | .chr=>rY l λx=>eh x λi=>(0<=i/\i<=0x10FFFF)/\Q (.str ⟨#[i.toNat]⟩) η
 | .min=>yi l λx y=>eh x λa=>eh y λb=>Q (.int (min a b)) η
 | .max=>yi l λx y=>eh x λa=>eh y λb=>Q (.int (max a b)) η
 | .sum=>rY l λx=>jV η x λl=>∃is,intsOf l=some is/\Q (.int is.sum) η
 | .isin=>yi l λx c=>Gb c λc=>∃b,DB K x c=some b/\Q (.bool b) η
 | .rA=>rY l λx=>q9 x λx=>∃n,PySem.intText? x=some n/\x.length<=640/\Q (.int n) η
 | .m8=>rY l λx=>(match x with
  | .int i=>i.natAbs.log2<1920/\Q (.str (toString i)) η
  | .str x=>Q (.str x) η
  | _=>False)
 | .jI=>rY l λx=>jV η x λl=>l.length<=sizeLine/\eA m l η Q
 | .bp=>(match l with
  | []=>False
  | x::r=>(match r with
   | []=>eh x λn=>Q (.q8 0 n 1) η
   | y::r=>rY r λz=>eh x λa=>eh y λb=>eh z λc=>(c≠0/\Builtin.divisionGoesByPylong (b-a) c=false)/\Q (.q8 a b c) η))
 | .append=>yi l λx y=>wK x λa=>∃l,η a=some (.list l)/\l.length<=sizeLine/\Q .none (upd η a (.list (l++ [y])))
 | .extend=>yi l λx y=>wK x λa=>∃l,η a=some (.list l)/\jV η y λl2=>l.length+l2.length<=sizeLine/\Q .none (upd η a (.list (l++l2)))
 | .pop=>(match l with
  | []=>False
  | x::r=>(match r with
   | []=>wK x λa=>∃l y,η a=some (.list (l++ [y]))/\l.length<sizeLine/\Q y (upd η a (.list l))
   | z::r=>rY (z::r) λz=>z= .int 0/\wK x λa=>∃l y,η a=some (.list (y::l))/\l.length<sizeLine/\Q y (upd η a (.list l))))
 | .index=>yi l λx y=>jV η x λl=>∃r j,(l.mapM λz=>il z y)=some r/\r.findIdx? id=some j/\j<2^62/\Q (.int j) η
 | .reverse=>rY l λx=>wK x λa=>∃l,η a=some (.list l)/\l.length<=sizeLine/\Q .none (upd η a (.list l.reverse))
 | .find=>yi l λx y=>q9 x λx=>q9 y λy=>Q (.int (Txt.find x y)) η
 | .isalpha=>rY l λx=>q9 x λx=>Q (.bool (Txt.isalpha x)) η
 | .join=>yi l λx y=>q9 x λx=>jV η y λl=>∃ys,strsOf l=some ys/\(ys.map (·.length)).sum+ys.length*x.length<=16777216/\Q (.str (Txt.join x ys)) η
 | .rstrip=>yi l λx y=>q9 x λx=>q9 y λy=>x.length<=sizeLine/\Q (.str (Txt.rstripChars x y)) η
section
variable {G:Gc}{A:Around}{fs:List Fm}{η:Hm}{E:Prop}{Z:Heap}{s:Shared}{Q:V->Hm->Prop}
theorem iV {h:Heap}{a:Addr}{items:Array Value}{n:Nat}(e:h.get? a=some (eG items n)):h.IsList a items:=⟨_,e,rfl,n,rfl⟩
inductive FJ (P:Params)(Z:Heap)(F:V->Prop)(vals:List Value):Prop
 | mk (x:V) (v:Value) (e:vals= [v]) (r:Rel P Z x v) (q:F x)
inductive FH (P:Params)(Z:Heap)(F:V->V->Prop)(vals:List Value):Prop
 | mk (x y:V) (v w:Value) (e:vals= [v,w]) (r:Rel P Z x v) (r2:Rel P Z y w) (q:F x y)
theorem gV {P:Params}{Z:Heap}{l:List V}{F:V->Prop}{vals:List Value}(h:rY l F)(r:ar P Z l vals):FJ P Z F vals:=by
 cases l with
 | nil=>exact h.elim
 | cons x l=>
  cases l with
  | cons=>exact h.elim
  | nil=>obtain ⟨v,vs,rfl,h1,rfl⟩:=r;exact ⟨x,v,rfl,h1,h⟩
theorem jW {P:Params}{Z:Heap}{l:List V}{F:V->V->Prop}{vals:List Value}(h:yi l F)(r:ar P Z l vals):FH P Z F vals:=by
 cases l with
 | nil=>exact h.elim
 | cons x l=>
  obtain ⟨v,vs,rfl,h1,r⟩:=r
  obtain ⟨y,w,rfl,h2,h⟩:=gV h r
  exact ⟨x,y,v,w,rfl,h1,h2,h⟩
theorem kO {P:Params}{Z:Heap}{y:V}{v:Value}{F:Addr->Prop}(h:wK y F)(r:Rel P Z y v):Es v Value.ref F:=by
 cases y<;>first|exact ⟨_,fR r,h⟩|exact h.elim
theorem Di {P:Params}{Z:Heap}{y:V}{v:Value}{F:Value->Prop}(h:Gb y F)(r:Rel P Z y v):F v:=by
 cases y<;>first|(obtain rfl:=o9 r;exact h)|exact h.elim
theorem zG {x:V}{l:List V}{is:List Int}(e:intsOf (x::l)=some is):∃a r,x= .int a/\intsOf l=some r/\is=a::r:=by
 cases x with
 | int a=>obtain ⟨r,e',rfl⟩:=Option.map_eq_some_iff.mp e;exact ⟨a,r,rfl,e',rfl⟩
 | _=>cases e
theorem yF {x:V}{l:List V}{is:List Str}(e:strsOf (x::l)=some is):∃a r,x= .str a/\strsOf l=some r/\is=a::r:=by
 cases x with
 | str a=>obtain ⟨r,e',rfl⟩:=Option.map_eq_some_iff.mp e;exact ⟨a,r,rfl,e',rfl⟩
 | _=>cases e
theorem sr {P:Params}{Z:Heap}:∀{l:List V} {is:List Int} {vs:List Value},intsOf l=some is->ar P Z l vs->is.length=vs.length/\∀i v,vs[i]?=some v->∃t,v=Value.int (is.getD i 0) t:=by
 intro L_
 induction L_ with
 | nil=>
  intro is vs e r
  cases e;obtain rfl:_= []:=r;exact ⟨rfl,λi v h=>by cases h⟩
 | cons x l ih=>
  intro is vs e r
  obtain ⟨a,is',rfl,e',rfl⟩:=zG e
  obtain ⟨v,ws,rfl,h1,h2⟩:=r
  obtain ⟨q1,q2⟩:=ih e' h2
  refine ⟨by simp [q1],λi w h=>?_⟩
  cases i with
  | zero=>cases h;exact aY h1
  | succ i=>exact q2 i w h
theorem rC {P:Params}{Z:Heap}:∀{l:List V} {ys:List Str} {vs:List Value},strsOf l=some ys->ar P Z l vs->StrsAre vs ys:=by
 intro L_
 induction L_ with
 | nil=>
  intro is vs e r
  cases e;obtain rfl:_= []:=r;exact .nil
 | cons x l ih=>
  intro is vs e r
  obtain ⟨a,is',rfl,e',rfl⟩:=yF e
  obtain ⟨v,ws,rfl,h1,h2⟩:=r
  obtain ⟨t,rfl⟩:=aX h1
  exact .cons _ _ (ih e' h2)
theorem qF (is:List Int):preSum (λi=>is.getD i 0) is.length=is.sum:=by
 have aux:∀(l r:List Int),preSum (λi=>(l.reverse++r).getD i 0) l.length=l.sum:=by
  intro l
  induction l with
  | nil=>intro r;rfl
  | cons x l ih=>
   intro r
   refine rW List.length_cons (rW List.reverse_cons (rW (List.append_assoc ..) ?_))
   simp only [preSum]
   refine rW (ih ([x]++r)) ?_
   simp [List.getD_eq_getElem?_getD,Int.add_comm]
 have:=aux is.reverse []
 simpa using this
theorem n6 {P:Params}(B:Around)(s:Shared){x:V}{vx:Value}(rx:Rel P Z x vx):∀{l:List V} {vs:List Value} {r:List Bool},ar P Z l vs->(l.mapM λy=>il y x)=some r->r=vs.map λv=>vEq v vx
 | [],vs,r,h,e=>by
  obtain rfl:_= []:=h
  simp at e;simp [e]
 | y::l,vs,r,h,e=>by
  obtain ⟨v,ws,rfl,h1,h2⟩:=h
  simp only [List.mapM_cons,Option.pure_def,Option.bind_eq_bind] at e
  obtain ⟨b,e1,e2⟩:=Option.bind_eq_some_iff.mp e
  clear e;obtain ⟨r',e3,e4⟩:=Option.bind_eq_some_iff.mp e2
  simp only [Option.some.injEq] at e4;subst e4
  exact rW List.map_cons (rV (n6 B s rx h2 e3) (rW ((kE (B:=B) (s:=s) h1 rx e1).2) rfl))
theorem za {m:Bool}{l:List V}{items:Array Value}{c:Nat}{h':Heap}(S:Sx G Z η fs s)(k:s.heap.StaysIn h')(g:h'.get? s.heap.objs.size=some (eG items c))(r:ar G.w.params Z l items.toList)(q:eA m l η Q):
  PV G Z fs Q (.ref s.heap.objs.size) {s with heap:=h'}:=by
 cases m with
 | true=>
  refine ⟨Z,_, .ref s.heap.objs.size,StaysIn.refl Z,S.move (t:=s.toks) (S.st.new k (Nat.le_refl _) (x':= .list l) ⟨items,c,g,r⟩),iR,?_⟩
  exact (show ∀a,η a=none->Q (.ref a) (upd η a (.list l)) from by simpa [eA] using q) _ (S.st.cV (Nat.le_refl _))
 | false=>
  obtain ⟨Z',hz,hp,S'⟩:=(S.st.keep k).freeze (λa=>a=s.heap.objs.size) (λa e=>S.st.cV (Nat.le_of_eq e.symm)) λa e=>S.st.gq (Nat.le_of_eq e.symm)
  refine ⟨Z',η, .lst l,hz,S.grow (t:=s.toks) hz S',?_,by simpa [eA] using q⟩
  exact ⟨_,items,c,rfl,hp _ _ rfl g,r.mono hz⟩
theorem wC {a b c:Int}{t u w tk:Nat}(S:Sx G Z η fs s)(q:Q (.q8 a b c) η):
  PV G Z fs Q (.ref s.heap.objs.size) {s with heap:=s.heap.push {cls:= .type "range",data:= .fields #[.int a t, .int b u, .int c w]},toks:=tk}:=by
 have k:=aW s.heap {cls:= .type "range",data:= .fields #[.int a t, .int b u, .int c w]}
 have g:=Heap.get?_push_size s.heap (o:={cls:= .type "range",data:= .fields #[.int a t, .int b u, .int c w]}) rfl
 obtain ⟨Z',hz,hp,S'⟩:=(S.st.keep k).freeze (λa=>a=s.heap.objs.size) (λa e=>S.st.cV (Nat.le_of_eq e.symm)) λa e=>S.st.gq (Nat.le_of_eq e.symm)
 refine ⟨Z',η, .q8 a b c,hz,S.grow hz S',?_,q⟩
 exact ⟨_,t,u,w,rfl,hp _ _ rfl g⟩
set_option tactic.hygienic true in
theorem Bg {x:V}{vx c:Value}{b:Bool}(S:Sx G Z η fs s)(rx:Rel G.w.params Z x vx)(hb:DB G.K x c=some b)(q:Q (.bool b) η):
  wpAny (model G.prog G.w) A (call (.builtin "isinstance") [vx,c]) (PV G Z fs Q) (PX G Z fs E) s:=by
 cases x
 case none=>
  obtain rfl:=of_none rx
  rcases j1 hb with ⟨rfl,h⟩|h
  ·cases h;exact IsiPair.NoneType_int (pv (S.tok _) fQ q)
  ·cases h
 case int=>
  obtain ⟨t,rfl⟩:=aY rx
  rcases j1 hb with ⟨rfl,h⟩|h
  ·cases h;exact IsiPair.int_int (pv S fQ q)
  ·rcases j1 h with ⟨rfl,h⟩|h
   ·cases h;exact IsiPair.int_str (pv (S.tok _) fQ q)
   ·cases h
 case str=>
  obtain ⟨t,rfl⟩:=aX rx
  cases c
  case type t'=>
   rcases j1 hb with ⟨rfl,h⟩|h
   ·cases h;exact IsiPair.str_int (pv (S.tok _) fQ q)
   ·rcases j1 h with ⟨rfl,h⟩|h
    ·cases h;exact IsiPair.str_str (pv S fQ q)
    ·cases h
  case ref C=>
   rcases j1 hb with ⟨hn,h⟩|h
   ·cases h
    exact isn_call (P:=λξ=>True) (S.bs.k.keeps S.st.z) (λM=>Looks.of_pure rfl) hn (λe=>by cases e) trivial str_cls (pv (S.tok _) fQ q)
   ·cases h
  all_goals cases hb
 all_goals cases hb
set_option tactic.hygienic true in
theorem C8 {b:Bi}{m:Bool}{l:List V}{vals:List Value}(hA:A.handled=none)(S:Sx G Z η fs s)(r:ar G.w.params Z l vals)(q:Ac G.K b m l η Q):
  wpAny (model G.prog G.w) A (call b.val vals) (PV G Z fs Q) (PX G Z fs E) s:=by
 cases b
 case len=>
  obtain ⟨x,v,rfl,rx,q⟩:=gV q r
  have hl:(jV η x λl=>l.length<2^63/\Q (.int l.length) η)->wpAny (model G.prog G.w) A (call (.builtin "len") [v]) (PV G Z fs Q) (PX G Z fs E) s:=λq=>by
   obtain ⟨l,hl,hs,q⟩:=cR q
   obtain ⟨a,items,n,rfl,h1,h2⟩:=e9 S rx hl
   have:=h2.length
   simp only [Array.length_toList] at this
   exact Calls.call_len_list (iV h1) (by lia) (by refine rW this ?_;exact pv (S.tok _) bh q)
  cases x
  case str x=>
   clear hl r;obtain ⟨t,rfl⟩:=aX rx
   exact PySem.P.len_str (by have:=q.1;lia) (pv (S.tok _) bh q.2)
  all_goals exact hl q
 case abs=>
  obtain ⟨x,v,rfl,rx,q⟩:=gV q r
  obtain ⟨a,t,rfl,q⟩:=aE q rx
  exact call_abs_int λu tk=>pv (S.tok _) bh q
 case ord=>
  obtain ⟨x,v,rfl,rx,q⟩:=gV q r
  obtain ⟨a,t,rfl,c,rfl,q⟩:=gU q rx
  exact PySem.P.ord_of_char (pv (S.tok _) bh q)
 case chr=>
  obtain ⟨x,v,rfl,rx,q⟩:=gV q r
  obtain ⟨a,t,rfl,⟨h1,h2⟩,q⟩:=aE q rx
  exact PySem.P.chr_of_int (by simp;(refine ⟨?_,?_⟩<;>assumption)) (pv (S.tok _) ix q)
 case min=>
  obtain ⟨x,y,v,w,rfl,rx,ry,q⟩:=jW q r
  obtain ⟨a,t,rfl,q⟩:=aE q rx
  obtain ⟨b,u,rfl,q⟩:=aE q ry
  refine min_two_ints hA λh' tk k=>?_
  refine pv (X:= .int (min a b)) (S.keep k) ?_ q
  by_cases hab:b<a
  ·refine rW (if_pos hab) (rW (Int.min_eq_right (Int.le_of_lt hab)) ?_);exact bh
  ·refine rW (if_neg hab) (rW (Int.min_eq_left (Int.not_lt.mp hab)) ?_);exact bh
 case max=>
  obtain ⟨x,y,v,w,rfl,rx,ry,q⟩:=jW q r
  obtain ⟨a,t,rfl,q⟩:=aE q rx
  obtain ⟨b,u,rfl,q⟩:=aE q ry
  refine max_two_ints hA λh' tk k=>?_
  refine pv (X:= .int (max a b)) (S.keep k) ?_ q
  by_cases hab:b>a
  ·refine rW (if_pos hab) (rW (Int.max_eq_right (Int.le_of_lt hab)) ?_);exact bh
  ·refine rW (if_neg hab) (rW (Int.max_eq_left (Int.not_lt.mp hab)) ?_);exact bh
 case sum=>
  obtain ⟨x,v,rfl,rx,q⟩:=gV q r
  obtain ⟨l,hl,is,hi,q⟩:=cR q
  obtain ⟨a,items,n,rfl,h1,h2⟩:=e9 S rx hl
  clear rx r;obtain ⟨q1,q2⟩:=sr hi h2
  have hL:s.heap.IsList a items:=iV h1
  have ha:a<s.heap.objs.size:=Heap.lt_size h1
  refine call_sum_walkG (wpAny_pyIter_list hL ?_)
  refine ⟨_,_,_,_,_,_,λi=>is.getD i 0,rfl,Walks.list (show A.in1.handled=none from hA) s.heap.objs.size a (Nat.ne_of_lt ha) items,?_,?_,?_,?_⟩
  ·exact ⟨⟨_,Heap.get?_push_size _ rfl,rfl,rfl⟩,iV (Heap.get?_push_of_some _ h1)⟩
  ·intro b hb
   simp only [List.mem_cons,List.not_mem_nil,or_false] at hb
   refine (?_:b<(s.heap.push _).objs.size)
   rcases hb with rfl|rfl
   ·exact Heap.lt_size (Heap.get?_push_size _ rfl)
   ·exact Heap.lt_size (Heap.get?_push_of_some _ h1)
  ·intro i v hv
   exact q2 i v (by rw [<-Array.getElem?_toList] at hv;exact hv)
  ·intro h' tk t' k
   refine pv (X:= .int is.sum) (Sx.keep (S:=S) (h':=h') λb o e=>k b o ?_ (Heap.get?_push_of_some _ e)) ?_ q
   ·simp only [List.mem_singleton];rintro rfl;exact absurd (Heap.lt_size e) (Nat.lt_irrefl _)
   ·rw [show items.size=is.length by refine rW q1 ?_;simp,qF];exact bh
 case isin=>
  obtain ⟨x,y,v,w,rfl,rx,ry,q⟩:=jW q r
  obtain ⟨b,hb,q⟩:=Di q ry
  exact Bg S rx hb q
 case rA=>
  obtain ⟨x,v,rfl,rx,q⟩:=gV q r
  obtain ⟨a,t,rfl,n,h1,h2,q⟩:=gU q rx
  exact PySem.W.KIN.call_text h1 h2 (pv (S.tok _) bh q)
 case m8=>
  obtain ⟨x,v,rfl,rx,q⟩:=gV q r
  cases x
  case int i=>obtain ⟨t,rfl⟩:=aY rx;exact PySem.P.str_of_int q.1 (pv (S.tok _) ix q.2)
  case str x=>obtain ⟨t,rfl⟩:=aX rx;exact PySem.P.str_of_str (pv S ix q)
  all_goals exact q.elim
 case jI=>
  obtain ⟨x,v,rfl,rx,q⟩:=gV q r
  obtain ⟨l,hl,hs,q⟩:=cR q
  obtain ⟨a,items,n,rfl,h1,h2⟩:=e9 S rx hl
  have hsz:=h2.length
  simp only [Array.length_toList] at hsz
  refine call_list_seq a (T:="list") (.inl rfl) h1 rfl rfl (λh' c' k g=>?_) (by (simp only [*]))
  exact za S k g h2 q
 case bp=>
  cases l with
  | nil=>exact q.elim
  | cons x l=>
   obtain ⟨v,vs,rfl,h1,r⟩:=r
   cases l with
   | nil=>
    obtain rfl:_= []:=r
    obtain ⟨n,t,rfl,q⟩:=aE q h1
    exact call_range_1 (wC S q)
   | cons y l=>
    obtain ⟨w,ws,rfl,h2,r⟩:=r
    obtain ⟨z,u,rfl,h3,q⟩:=gV q r
    obtain ⟨a,t,rfl,q⟩:=aE q h1
    obtain ⟨b,t2,rfl,q⟩:=aE q h2
    obtain ⟨c,t3,rfl,q⟩:=aE q h3
    exact call_range_3 q.1.1 (wC S q.2) (.inl q.1.2)
 case append=>
  obtain ⟨x,y,v,w,rfl,rx,ry,q⟩:=jW q r
  obtain ⟨a,rfl,l,e,hs,q⟩:=kO q rx
  exact x7 S e ry hs q
 case extend=>
  obtain ⟨x,y,v,w,rfl,rx,ry,q⟩:=jW q r
  obtain ⟨a,rfl,l,e,q⟩:=kO q rx
  obtain ⟨l2,e2,hs,q⟩:=cR q
  exact x6 S e ry e2 hs q
 case pop=>
  cases l with
  | nil=>exact q.elim
  | cons x l=>
   obtain ⟨v,vs,rfl,h1,r⟩:=r
   cases l with
   | nil=>
    obtain rfl:_= []:=r
    obtain ⟨a,rfl,l,y,e,hs,q⟩:=kO q h1
    exact DT S e hs q
   | cons y l=>
    have q:rY (y::l) λz=>z= .int 0/\wK x λa=>∃l y,η a=some (.list (y::l))/\l.length<sizeLine/\Q y (upd η a (.list l)):=q
    obtain ⟨z,u,rfl,h3,rfl,q⟩:=gV q r
    obtain ⟨t,rfl⟩:=aY h3
    obtain ⟨a,rfl,l,y,e,hs,q⟩:=kO q h1
    exact Ca S e hs q
 case index=>
  obtain ⟨x,y,v,w,rfl,rx,ry,q⟩:=jW q r
  obtain ⟨l,hl,r,j,hr,hj,hs,q⟩:=cR q
  obtain ⟨a,items,n,rfl,h1,h2⟩:=e9 S rx hl
  obtain ⟨k1, -⟩:=i9 (s:=s) (B:=A.in1) ry h2 hr
  have k2:=n6 A s ry h2 hr
  rw [List.findIdx?_eq_some_iff_getElem] at hj
  clear hr;obtain ⟨hj,hit,hno⟩:=hj
  subst k2
  have hsz:j<items.size:=by simpa using hj
  refine call_meets PySem.F.slot_list_index ⟨_,h1,rfl⟩ PySem.F.entry_list_index (PySem.F.args_list_index_2 _ _)
   (SeqAt.list_indexAt a items n none #[] w (λv=>vEq v w) j hsz (by lia) (by simpa using hit) (λm hm hmj=>?_)) ⟨h1,λy hy=>k1 y (Array.mem_toList_iff.mpr hy),pv (S.tok _) bh q⟩
  have:=hno m hmj
  simpa using this
 case reverse=>
  obtain ⟨x,v,rfl,rx,q⟩:=gV q r
  obtain ⟨a,rfl,l,e,hs,q⟩:=kO q rx
  exact vm S e hs q
 case find=>
  obtain ⟨x,y,v,w,rfl,rx,ry,q⟩:=jW q r
  obtain ⟨a,t,rfl,q⟩:=gU q rx
  obtain ⟨b,u,rfl,q⟩:=gU q ry
  exact SC.find (pv (S.tok _) bh q)
 case isalpha=>
  obtain ⟨x,v,rfl,rx,q⟩:=gV q r
  obtain ⟨a,t,rfl,q⟩:=gU q rx
  exact SC.isalpha (pv S fQ q)
 case join=>
  obtain ⟨x,y,v,w,rfl,rx,ry,q⟩:=jW q r
  obtain ⟨b,t,rfl,q⟩:=gU q rx
  obtain ⟨l,hl,ys,hy,hs,q⟩:=cR q
  obtain ⟨a,items,n,rfl,h1,h2⟩:=e9 S ry hl
  exact join_list (iV h1) (rC hy h2) hs λt' k=>pv (S.tok _) ix q
 case rstrip=>
  obtain ⟨x,y,v,w,rfl,rx,ry,q⟩:=jW q r
  obtain ⟨a,t,rfl,q⟩:=gU q rx
  obtain ⟨b,u,rfl,q⟩:=gU q ry
  exact SC.rstripChars (λt' k=>pv (S.tok _) ix q.2) q.1
end
section
variable {G:Gc}{A:Around}{η:Hm}{E:Prop}{Z:Heap}{s:Shared}{Q:V->Hm->Prop}
theorem iZ.C0 {P:Params}{h h':Heap}{f:Fm}{i:Nat}{x:Str}{X:V}(F:iZ P Z h f)(hm:(i,x)∈f.vars)(hi:i<f.ρ.length)
  (hns:∀m,h.Ns f.env.locals m->∃m',h'.Ns f.env.locals m'/\mX P Z h' f.env m' x X/\∀y Y,y≠x->mX P Z h f.env m y Y->mX P Z h' f.env m' y Y)
  (hc:∀p∈f.env.cells,∃v,h'.IsCell p.2 v) (he:∀p∈f.extra,h'.get? p.1=some p.2):iZ P Z h' {f with ρ:=f.ρ.set i (some X)}:=by
 obtain ⟨⟨m,hn,hv⟩,u2,u3,u4,u5,u6,u7,u8,u9⟩:=F
 obtain ⟨m',a,b,c⟩:=hns m hn
 refine ⟨⟨m',a,λj y Y hj hy=>?_⟩,hc,u3,u4,u5,u6,u7,he,u9⟩
 by_cases q:j=i
 ·have:y=x:=(u5 (j,y) hj (i,x) hm).mp q
  clear hj c hns hm;subst q this
  simp only [List.getElem?_set_self hi,Option.some.injEq] at hy
  subst hy;exact b
 ·have hyx:y≠x:=λz=>q ((u5 (j,y) hj (i,x) hm).mpr z)
  rw [show ({f with ρ:=f.ρ.set i (some X)}:Fm).ρ=f.ρ.set i (some X) from rfl,List.getElem?_set_ne (λz=>q z.symm)] at hy
  exact c y Y hyx (hv j y Y hj hy)
noncomputable def t8 (f:Fm)(x:Str):Prop:=f.env.kindOf x=some .local\/(f.real=true/\f.env.kindOf x=some .cell/\(f.env.cells.lookup x).isSome=true)
theorem wX {f:Fm}{r:List Fm}{P:Params}{h:Heap}(S:St P Z η (f::r) h):f.own.Nodup:=by
 have nd:=S.nd
 rw [List.flatMap_cons,List.nodup_append] at nd
 exact nd.1
theorem sf {cs:List (Str×Addr)}(nd:(cs.map (·.2)).Nodup){x y:Str}{c:Addr}(h1:cs.lookup x=some c)(h2:cs.lookup y=some c):x=y:=by
 induction cs with
 | nil=>simp at h1
 | cons p cs ih=>
  obtain ⟨n,d⟩:=p
  rw [List.map_cons,List.nodup_cons] at nd
  rw [List.lookup_cons] at h1 h2
  cases q1:x==n with
  | true=>
   rw [q1] at h1;simp only [Option.some.injEq] at h1
   cases q2:y==n with
   | true=>exact rW (eq_of_beq q1) (rW (eq_of_beq q2) rfl)
   | false=>rw [q2] at h2;simp only at h2;exact absurd (List.mem_map_of_mem (f:=(·.2)) (mem_of_lookup h2)) (by simpa [<-h1] using nd.1)
  | false=>
   rw [q1] at h1;simp only at h1
   cases q2:y==n with
   | true=>rw [q2] at h2;simp only [Option.some.injEq] at h2;exact absurd (List.mem_map_of_mem (f:=(·.2)) (mem_of_lookup h1)) (by simpa [<-h2] using nd.1)
   | false=>rw [q2] at h2;exact ih nd.2 h1 h2
theorem qq {f:Fm}{r:List Fm}{i:Nat}{x:Str}{X:V}{v:Value}{R:Unit->Shared->Prop}{E':Value->Shared->Prop}(S:Sx G Z η (f::r) s)(hm:(i,x)∈f.vars)(hk:t8 f x)(hi:i<f.ρ.length)(rx:Rel G.w.params Z X v)
  (k:∀s',Sx G Z η ({f with ρ:=f.ρ.set i (some X)}::r) s'->(∀b o,b∉f.core->s.heap.get? b=some o->s'.heap.get? b=some o)->R () s'):wpAny (model G.prog G.w) A (storeName f.env x v) R E' s:=by
 have F:=S.st.f f List.mem_cons_self
 have nd:=wX S.st
 unfold Fm.own Fm.core at nd
 rcases hk with hk|⟨hr,hk,hc⟩
 ·obtain ⟨m,hn,hv⟩:=F.ns
  refine wpAny_storeName_local hk hn (λh' hn' hs=>k _ (S.move ?_) λb o hb e=>(hs.2 b λq=>hb (by refine rW q ?_;exact gu)).trans e) (by refine rW F.kind ?_;rfl)
  have hne:∀a,a∈(if f.real then f.env.cells.map (·.2) else [])++f.extra.map (·.1)->a≠f.env.locals:=λa ha q=>by
   rw [List.cons_append,List.nodup_cons] at nd
   exact nd.1 (by refine rV q ?_;exact ha)
  have hcl:∀p∈f.env.cells,p.2≠f.env.locals:=λp hp q=>by
   rcases S.st.cl.1 p hp with z|z
   ·exact hne _ (List.mem_append_left _ (by refine rW z ?_;exact List.mem_map_of_mem (f:=(·.2)) hp)) q
   ·have nd:=S.st.nd
    rw [List.flatMap_cons,List.nodup_append] at nd
    exact nd.2.2 _ eF _ (mM z) q.symm
  have kk:∀b o,b≠f.env.locals->s.heap.get? b=some o->h'.get? b=some o:=λb o hb e=>(hs.2 b hb).trans e
  refine S.st.top f.env.locals eF kk (F.C0 hm hi (λm0 hn0=>?_) (λp hp=>?_) λp hp=>?_) rfl rfl rfl
  ·have em:m0=m:=by
    obtain ⟨o,es,ep,ho,hd,hs1,q⟩:=hn0
    obtain ⟨o',es',ep',ho',hd',hs1',q'⟩:=hn
    rw [ho] at ho';cases ho'
    rw [hd] at hd';cases hd'
    funext y
    exact rV (q y) (rW (q' y) rfl)
   clear hv hn;subst em
   refine ⟨_,hn', .inl ⟨hk,v,by simp,rx⟩,λy Y hy H=>?_⟩
   rcases H with ⟨a,u,b,q⟩|⟨a,c,u,b,⟨o,ho,hd⟩,q⟩
   ·exact .inl ⟨a,u,by simp only [if_neg hy];exact b,q⟩
   ·exact .inr ⟨a,c,u,b,⟨o,kk _ _ (hcl (y,c) (mem_of_lookup b)) ho,hd⟩,q⟩
  ·obtain ⟨w,o,ho,hd⟩:=F.cells p hp
   exact ⟨w,o,kk _ _ (hcl p hp) ho,hd⟩
  ·exact kk _ _ (hne _ (List.mem_append_right _ (List.mem_map_of_mem (f:=(·.1)) hp))) (F.ext p hp)
 ·obtain ⟨c,hc⟩:=Option.isSome_iff_exists.mp hc
  obtain ⟨v0,hv0⟩:=F.cells _ (mem_of_lookup hc)
  refine wpAny_storeName_cell F.kind hk hc hv0 (λh' hn' hs=>k _ (S.move (t:=s.toks) ?_) λb o hb e=>(hs.2 b λq=>hb (by unfold Fm.core;refine rW hr (rW q ?_);exact List.mem_cons_of_mem _ (List.mem_map_of_mem (f:=(·.2)) (mem_of_lookup hc)))).trans e)
  have hco:c∈f.own:=List.mem_append_left _ (by unfold Fm.core;refine rW hr ?_;exact List.mem_cons_of_mem _ (List.mem_map_of_mem (f:=(·.2)) (mem_of_lookup hc)))
  rw [hr] at nd
  simp only [if_true] at nd
  have kk:∀b o,b≠c->s.heap.get? b=some o->h'.get? b=some o:=λb o hb e=>(hs.2 b hb).trans e
  have hlc:f.env.locals≠c:=λq=>by
   rw [List.cons_append,List.nodup_cons] at nd
   exact nd.1 (by refine rW q ?_;exact List.mem_append_left _ (List.mem_map_of_mem (f:=(·.2)) (mem_of_lookup hc)))
  have ndc:(f.env.cells.map (·.2)).Nodup:=by
   rw [List.cons_append,List.nodup_cons,List.nodup_append] at nd
   exact nd.2.1
  refine S.st.top c hco kk (F.C0 hm hi (λm0 hn0=>⟨m0,?_, .inr ⟨hk,c,v,hc,hn',rx⟩,λy Y hy H=>?_⟩) (λp hp=>?_) λp hp=>?_) rfl rfl rfl
  ·obtain ⟨o,es,ep,ho,q⟩:=hn0
   exact ⟨o,es,ep,kk _ _ hlc ho,q⟩
  ·rcases H with ⟨a,u,b,q⟩|⟨a,c',u,b,⟨o,ho,hd⟩,q⟩
   ·exact .inl ⟨a,u,b,q⟩
   ·exact .inr ⟨a,c',u,b,⟨o,kk _ _ (λz=>hy (sf ndc (by refine rV z ?_;exact b) hc)) ho,hd⟩,q⟩
  ·by_cases q:p.2=c
   ·refine rW q ?_;exact ⟨_,hn'⟩
   ·obtain ⟨w,o,ho,hd⟩:=F.cells p hp
    exact ⟨w,o,kk _ _ q ho,hd⟩
  ·refine kk _ _ (λq=>?_) (F.ext p hp)
   rw [List.cons_append,List.nodup_cons,List.nodup_append] at nd
   exact nd.2.2.2 c (List.mem_map_of_mem (f:=(·.2)) (mem_of_lookup hc)) p.1 (List.mem_map_of_mem (f:=(·.1)) hp) q.symm
theorem tr {f:Fm}{r:List Fm}{i:Nat}{x:Str}{X:V}{v:Value}{R:Unit->Shared->Prop}{E':Value->Shared->Prop}(S:Sx G Z η (f::r) s)(hm:(i,x)∈f.vars)(hk:t8 f x)(hi:i<f.ρ.length)(rx:Rel G.w.params Z X v)
  (k:∀s',Sx G Z η ({f with ρ:=f.ρ.set i (some X)}::r) s'->R () s'):wpAny (model G.prog G.w) A (storeName f.env x v) R E' s:=qq S hm hk hi rx λs' S' ξ=>k s' S'
end
section
variable {G:Gc}{A:Around}{η:Hm}{E:Prop}{Z:Heap}{s:Shared}{Q:V->Hm->Prop}
theorem iZ.mw {P:Params}{h h' B:Heap}{f:Fm}(F:iZ P Z h f)(hB:B.StaysIn h')(ext:∀p∈f.extra,B.get? p.1=some p.2)(up:h.UpToSlots h'):iZ P Z h' f:=by
 obtain ⟨⟨m,hn,hv⟩,hc,u3,u4,u5,u6,u7,u8,u9⟩:=F
 have hcell:∀c v,h.IsCell c v->h'.IsCell c v:=λc v ⟨o,ho,hd⟩=>by
  obtain ⟨sl,e⟩:=up c o ho (λvs q=>by rw [hd] at q;cases q)
  exact ⟨_,e,hd⟩
 refine ⟨⟨m,up.ns hn,λi x X hm hx=>?_⟩,λp hp=>let ⟨v,q⟩:=hc p hp;⟨v,hcell _ _ q⟩,u3,u4,u5,u6,u7,λp hp=>hB _ _ (ext p hp),u9⟩
 rcases hv i x X hm hx with H|⟨a,c,v,b,q,r⟩
 ·exact .inl H
 ·exact .inr ⟨a,c,v,b,hcell _ _ q,r⟩
theorem St.mw {P:Params}{h h' B:Heap}{fs:List Fm}(S:St P Z nul fs h)(zB:Z.StaysIn B)(hB:B.StaysIn h')(ext:∀f∈fs,∀p∈f.extra,B.get? p.1=some p.2)(up:h.UpToSlots h'):St P Z nul fs h':=
 ⟨StaysIn.trans zB hB,λa x q=>(by cases q),λf hf=>(S.f f hf).mw hB (ext f hf) up,S.own,S.nd,S.cl⟩
theorem iI {M:Model}{E':Value->Shared->Prop}{base:Heap}{env:Env}{outer:List Env}{L e:Addr}{oe:Obj}{vs:Array Value}{a0:Value}{R:Unit->Shared->Prop}
  (hfr:A.frames=some (env::outer)) (hl:s.heap.FunFrames base (env::outer)) (hf:env.frame=some L)
  (he:s.heap.get? e=some oe) (hkb:base.StaysIn s.heap) (hen:base.get? e=none) (hd:oe.data= .fields vs) (h1:vs[1]?=some .none) (h0:vs[0]?=some a0)
  (h:∀h',Heap.NotedW base (env::outer) e oe.cls a0 (rawInt L) s.heap h'->R () {s with heap:=h'}):wpAny M A (noteFrame (.ref e) env) R E' s:=by
 unfold noteFrame
 simp only [hf]
 refine wpAny_bind (wpAny_field he hd h1 ?_)
 refine rW (if_neg (by decide)) ?_
 exact wpAny_entryW hfr hl hf he hkb hen hd (Array.getElem?_eq_some_iff.mp h1).1 h0 h
theorem bV {f:Fm}{r fs':List Fm}(h:mY (f::r) fs'):∃ρ',fs'={f with ρ:=ρ'}::r:=by
 rcases h with rfl|⟨g,r',ρ',e,rfl⟩
 ·exact ⟨f.ρ,rfl⟩
 ·cases e;exact ⟨ρ',rfl⟩
inductive PN (G:Gc)(Z:Heap)(f:Fm)(r:List Fm)(E:Prop)(e:Value)(s:Shared):Prop
 | mk (hE:E) (Z' B:Heap) (fs':List Fm) (a:Addr) (h1:Z.StaysIn Z') (h2:mY (f::r) fs') (h3:e= .ref a) (h4:Sx G Z' nul fs' s) (h5:Z'.StaysIn B) (h6:∀f∈fs',∀p∈f.extra,B.get? p.1=some p.2) (h7:B.StaysIn s.heap) (h8:B.get? a=none)
  (h9:s.heap.FunFrames B (aT (f::r))) (h10:∃a0,s.heap.TracedAtW B a (.ref G.kF) a0 (rawInt f.env.locals))
theorem vG {M:Model}{f:Fm}{r:List Fm}{e:Value}(hr:f.real=true)(hA:A.frames=some (aT (f::r)))(h:PX G Z (f::r) E e s):
  wpAny M A (noteFrame e f.env) (λξ s'=>PN G Z f r E e s') (λξ ξ=>False) s:=by
 obtain ⟨hE,Z',B,fs',a,hz,ht,rfl,S,zB,ext,hB,ha,hF,hf⟩:=h
 have re:aT (f::r)=f.env::aT r:=by simp [aT,hr]
 have tl:p4 (f::r)=f.env.locals:=by simp [p4,hr]
 have hfr:f.env.frame=some f.env.locals:=by
  clear ext;obtain ⟨ρ',rfl⟩:=bV ht
  exact (S.st.f _ List.mem_cons_self).frame hr
 rw [re] at hA hF
 rw [tl] at hf
 have fin:∀(h':Heap) (a0:Value),Heap.NotedW B (f.env::aT r) a (.ref G.kF) a0 (rawInt f.env.locals) s.heap h'->
   PN G Z f r E (.ref a) {s with heap:=h'}:=λh' a0 ⟨n1,n2,n3,n4⟩=>
  ⟨hE,Z',B,fs',a,hz,ht,rfl,S.move (t:=s.toks) (S.st.mw zB n1 ext n4),zB,ext,n1,ha,by refine rW re ?_;exact n2,a0,n3⟩
 rcases hf with ⟨oe,vs,a0,he,hc,hd,h0,h1⟩|⟨a0,hT⟩|⟨a0,hT⟩
 ·exact iI hA hF hfr he hB ha hd h1 h0 λh' n=>fin h' a0 (by refine rV hc ?_;exact n)
 ·exact wpAny_noteFrame_onW hA hF hfr hT hB ha λh' n=>fin h' a0 n
 ·exact wpAny_noteFrame_againW hfr hT ⟨hE,Z',B,fs',a,hz,ht,rfl,S,zB,ext,hB,ha,by refine rW re ?_;exact hF,a0,hT⟩
theorem ta {M:Model}{f:Fm}{r:List Fm}{e:Value}{E':Value->Shared->Prop}(hr:f.real=true)(hA:A.frames=some (aT (f::r)))(h:PX G Z (f::r) E e s)
  (k:∀s',PN G Z f r E e s'->E' e s'):notedBy M A f.env E' e s:=by
 unfold notedBy
 exact wpAny_mono (vG hr hA h) (λξ s' h'=>k s' h') λξ ξ q=>q.elim
theorem PN.weak {Z Z':Heap}{f:Fm}{r:List Fm}(k:Z.StaysIn Z'){v:Value}{s:Shared}(h:PN G Z' f r E v s):PN G Z f r E v s:=by
 obtain ⟨e,Z2,B,fs',a,b,h2,h3,h4,h5,h6,h7,h8,h9,h10⟩:=h
 exact ⟨e,Z2,B,fs',a,StaysIn.trans k b,h2,h3,h4,h5,h6,h7,h8,h9,h10⟩
theorem vH {M:Model}{f:Fm}{r:List Fm}{e:Value}(hr:f.real=true)(h:PN G Z f r E e s):cameBackBy M A f.env (PX G Z (f::r) E) e s:=by
 obtain ⟨hE,Z',B,fs',a,hz,ht,rfl,S,zB,ext,hB,ha,hF,a0,hf⟩:=h
 have hfr:f.env.frame=some f.env.locals:=by
  clear ext;obtain ⟨ρ',rfl⟩:=bV ht
  exact (S.st.f _ List.mem_cons_self).frame hr
 have tl:p4 (f::r)=f.env.locals:=by simp [p4,hr]
 obtain ⟨oe,vs,T,oT,ts,he,hcls,hd,h1,hnT,hTe,hT,hdT,h3⟩:=hf
 have hsz3:3<ts.size:=(Array.getElem?_eq_some_iff.mp h3).1
 have other:∀b,b≠T->(s.heap.update T (Obj.mapFields (·.setIfInBounds 3 (rawInt f.env.locals)))).get? b=s.heap.get? b:=
  λb hb=>Heap.get?_update_other _ _ (Ne.symm hb)
 have noRecord:∀b o,s.heap.get? b=some o->(∀vs,o.data≠ .fields vs)->b≠T:=λb o hb hnf q=>by
  rw [q,hT] at hb;injection hb with hb;subst hb;exact hnf ts hdT
 unfold cameBackBy setFlight
 refine rW hfr ?_
 refine wpAny_bind (wpAny_field he hd h1 ?_)
 refine rW (if_neg (by simp)) ?_
 refine wpAny_bind (wpAny_field he hd h1 ?_)
 refine rW (if_pos (show (Value.ref T != Value.none)=true from by simp)) ?_
 have kB:B.StaysIn (s.heap.update T (Obj.mapFields (·.setIfInBounds 3 (rawInt f.env.locals)))):=λb o hbo=>(other b λq=>by rw [q,hnT] at hbo;cases hbo).trans (hB b o hbo)
 refine wpAny_setField hT hdT hsz3 ⟨hE,Z',B,fs',a,hz,ht,rfl,S.move (t:=s.toks) (S.st.mw zB kB ext λb o hb hnf=>⟨o.slots,(other b (noRecord b o hb hnf)).trans hb⟩),zB,ext,kB,ha,
  hF.of_keeps λb o hb hnf=>⟨o,(other b (noRecord b o hb hnf)).trans hb,rfl⟩, .inr (.inr ⟨a0,?_⟩)⟩
 refine rW tl ?_
 exact ⟨oe,vs,T,_,_,(other a (Ne.symm hTe)).trans he,hcls,hd,h1,hnT,hTe,Heap.get?_update_self _ hT (Obj.isFreed_of_fields (Obj.data_mapFields hdT _)),Obj.data_mapFields hdT _,by simp [hsz3]⟩
theorem yw {M:Model}{f:Fm}{r:List Fm}{e:Value}{E':Value->Shared->Prop}(hr:f.real=true)(hx:∀ρ,({f with ρ:=ρ}:Fm).extra= [])(hA:A.frames=some (aT (f::r)))(h:PX G Z (f::r) E e s):
  wpAny M A (leaving f.env e) (λξ s'=>PX G Z r E e s') E' s:=by
 obtain ⟨hE,Z',B,fs',a,hz,ht,rfl,S,zB,ext,hB,ha,hF,hf⟩:=h
 obtain ⟨ρ',rfl⟩:=bV ht
 have re:aT (f::r)=f.env::aT r:=by simp [aT,hr]
 have tl:p4 (f::r)=f.env.locals:=by simp [p4,hr]
 have hfr:f.env.frame=some f.env.locals:=(S.st.f _ List.mem_cons_self).frame hr
 rw [re] at hA hF
 rw [tl] at hf
 have fin:∀(h':Heap) (a0:Value),B.StaysIn h'->h'.FunFrames B (aT r)->h'.TracedW B a (.ref G.kF) a0->s.heap.UpToSlots h'->PX G Z r E (.ref a) {s with heap:=h'}:=λh' a0 n1 n2 n3 n4=>
  ⟨hE,Z',B,r,a,hz, .inl rfl,rfl,S.move (t:=s.toks) ((S.st.mw zB n1 ext n4).pop),zB,λg hg=>ext g (List.mem_cons_of_mem _ hg),n1,ha,n2, .inr (.inl ⟨a0,n3⟩)⟩
 rcases hf with ⟨oe,vs,a0,he,hc,hd,h0,h1⟩|⟨a0,hT⟩|⟨a0,hT⟩
 ·exact wpAny_leaving_firstW hA hF hfr he hB ha hd h1 h0 λh' ⟨n1,n2,n3,n4⟩=>fin h' a0 n1 n2.2.2 (by refine rV hc ?_;exact n3) n4
 ·exact wpAny_leaves_onW hA hfr ⟨hB,ha,hF,hT⟩ λh' ⟨n1,n2,n3,n4⟩ n5=>fin h' a0 n1 n3 n4 n5
 ·unfold leaving
  refine wpAny_bind (wpAny_noteFrame_againW hfr hT ?_)
  exact wpAny_setFlight_noneW hB hF hT λh' n1 n2 n3 n4=>fin h' a0 n1 n2.2.2 n3 (λb o hb hn=>⟨o.slots,n4 b o hb hn⟩)
end
noncomputable def itemsOf:V->Option (List V)
 | .lst l=>some l
 | .tup l=>some l
 | .str x=>some (x.cps.toList.map λc=> .str ⟨#[c]⟩)
 | .q8 a b c=>if 0<=a/\a<2^31/\0<c/\c<2^31/\ -(2^31)<b/\b<2^31 then some ((List.range (Builtin.Range.rangeSize a b c).toNat).map λ(k:Nat)=> .int (a+k*c)) else none
 | _=>none
theorem kR {a b c:Int}(h:0<=a/\a<2^31/\0<c/\c<2^31/\ -(2^31)<b/\b<2^31):itemsOf (.q8 a b c)=some ((List.range (Builtin.Range.rangeSize a b c).toNat).map λ(k:Nat)=> .int (a+k*c)):=if_pos h
section
variable {G:Gc}{A:Around}{fs:List Fm}{η:Hm}{E:Prop}{Z:Heap}{s:Shared}{Q:V->Hm->Prop}
noncomputable def lH (n:String):Bool:= !(["enumerate","zip","dict_itemiterator","dict_reverseitemiterator","odict_iterator","itertools.zip_longest","itertools.pairwise"].contains n)
structure Wk (G:Gc)(A:Around)(Z:Heap)(items:List V)(I:Addr)(St:Nat->Heap->Prop):Prop where
 item:∀(i:Nat) (s:Shared) (R:Option Value->Shared->Prop) (E':Value->Shared->Prop) (X:V),items[i]?=some X->St i s.heap->
  (∀v h' tk,Rel G.w.params Z X v->St (i+1) h'->(∀b o,b≠I->s.heap.get? b=some o->h'.get? b=some o)->R (some v) {s with heap:=h',toks:=tk})->wpAny (model G.prog G.w) A (pyNext (.ref I)) R E' s
 done:∀(s:Shared) (R:Option Value->Shared->Prop) (E':Value->Shared->Prop),St items.length s.heap->
  (∀h' tk,(∀b o,b≠I->s.heap.get? b=some o->h'.get? b=some o)->R none {s with heap:=h',toks:=tk})->wpAny (model G.prog G.w) A (pyNext (.ref I)) R E' s
 frame:∀(i:Nat) (h h':Heap) (o:Obj),St i h->Z.StaysIn h->h.get? I=some o->h'.get? I=some o->Z.StaysIn h'->St i h'
 there:∀(i:Nat) (h:Heap),St i h->∃o n,h.get? I=some o/\o.cls= .type n/\lH n=true
 self:∀(i:Nat) (s:Shared) (R:Value->Shared->Prop) (E':Value->Shared->Prop),St i s.heap->R (.ref I) s->wpAny (model G.prog G.w) A (pyIter (.ref I)) R E' s
theorem Wk.of {items:List V}{I:Addr}{fp:List Addr}{n:Nat}{P:Nat->Value->Prop}{St:Nat->Heap->Prop}(W:Walks G.prog G.w A I fp [I] n P St)
  (hn:n=items.length) (hP:∀i v X,items[i]?=some X->P i v->Rel G.w.params Z X v) (hfp:∀b∈fp,b=I\/∃o,Z.get? b=some o) (ht:∀i h,St i h->∃o n,h.get? I=some o/\o.cls= .type n/\lH n=true):
  Wk G A Z items I (λi h=>St i h) where
 item:=λi s R E' X hX hs k=>W.item i s R E' (by refine rW hn ?_;exact (List.getElem?_eq_some_iff.mp hX).1) hs λv h' tk hp hs' kk=>k v h' tk (hP i v X hX hp) hs' λb o hb=>kk b o (by simpa using hb)
 done:=λs R E' hs k=>W.done s R E' (by refine rW hn ?_;exact hs) λh' tk kk=>k h' tk λb o hb=>kk b o (by simpa using hb)
 frame:=λi h h' o hs hz ho ho' hz'=>W.frame i h h' hs λb hb o' hb'=>by
  clear ht W;rcases hfp b hb with rfl|⟨oz,q⟩
  ·rw [ho] at hb';cases hb';exact ho'
  ·have:=hz _ _ q
   rw [hb'] at this;cases this
   exact hz' _ _ q
 there:=ht
 self:=W.self
theorem mz {α:Type}{l:List α}{g:α->V}{i:Nat}{X:V}(h:(l.map g)[i]?=some X):∃x,l[i]?=some x/\X=g x:=by
 rw [List.getElem?_map] at h
 obtain ⟨x,h1,h2⟩:=Option.map_eq_some_iff.mp h
 exact ⟨x,h1,h2.symm⟩
theorem uD {a b c:Int}(ha:0<=a)(ha':a<2^31)(hc:0<c)(hc':c<2^31)(hb: -(2^31)<b)(hb':b<2^31):
  0<=Builtin.Range.rangeSize a b c/\Builtin.Range.rangeSize a b c<=2^31/\Builtin.Range.small a b c=true:=by
 have h:0<=Builtin.Range.rangeSize a b c/\Builtin.Range.rangeSize a b c<=2^31:=by
  unfold Builtin.Range.rangeSize
  refine rW (if_pos hc) ?_
  split
  ·have h1:0<=(b-a-1)/c:=Int.ediv_nonneg (by lia) (by exact Int.le_of_lt (by assumption))
   have h2:(b-a-1)/c<=b-a-1:=Int.ediv_le_self _ (by lia)
   exact ⟨iA h1,iC ha hb' h2⟩
  ·decide
 refine ⟨h.1,h.2,?_⟩
 unfold Builtin.Range.small Builtin.Range.rangeFitsLong
 simp only [Bool.and_eq_true,decide_eq_true_eq,Bool.or_eq_true,beq_iff_eq,if_pos hc]
 exact ⟨⟨⟨⟨⟨iA ha,iA ha'⟩,iA hb,iA hb'⟩,iA hc,iA hc'⟩,iA h.1,iA h.2⟩, .inr ⟨iB hb hc,iB hb' hc'⟩⟩
set_option tactic.hygienic true in
theorem rJ {X:V}{v:Value}{items:List V}{R:Value->Shared->Prop}{E':Value->Shared->Prop}(hA:A.handled=none)(S:Sx G Z η fs s)(r:Rel G.w.params Z X v)(e:itemsOf X=some items)
  (k:∀(St:Nat->Heap->Prop) (o:Obj),Wk G A Z items s.heap.objs.size St->St 0 (s.heap.push o)->(s.heap.push o).get? s.heap.objs.size=some o->R (.ref s.heap.objs.size) {s with heap:=s.heap.push o}):
  wpAny (model G.prog G.w) A (pyIter v) R E' s:=by
 cases X
 case lst l=>
  cases e
  obtain ⟨a,its,n,rfl,h1,h2⟩:=r
  have h1':=S.st.z _ _ h1
  have hne:a≠s.heap.objs.size:=Nat.ne_of_lt (Heap.lt_size h1')
  have hl:=h2.length
  refine wpAny_pyIter_list (iV h1') (k _ _ (Wk.of (Walks.list hA s.heap.objs.size a hne its) (by simpa using hl) (λi v X hX hv=>?_) (λb hb=>?_) λi h ⟨⟨o,ho,hc,_⟩,_⟩=>⟨o,_,ho,hc,by decide+kernel⟩) ⟨⟨_,Heap.get?_push_size _ rfl,rfl,rfl⟩,iV (Heap.get?_push_of_some _ h1')⟩ (Heap.get?_push_size _ rfl))
  ·obtain ⟨v',q1,q2⟩:=h2.get hX
   rw [Array.getElem?_toList,hv] at q1
   cases q1;exact q2
  ·clear hne h1';rcases List.mem_cons.mp hb with rfl|hb
   ·exact .inl rfl
   ·rw [List.mem_singleton] at hb;subst hb;exact .inr ⟨_,h1⟩
 case tup l=>
  cases e
  obtain ⟨a,its,n,rfl,h1,h2⟩:=r
  have h1':=S.st.z _ _ h1
  have hne:a≠s.heap.objs.size:=Nat.ne_of_lt (Heap.lt_size h1')
  have hl:=h2.length
  have ht:s.heap.IsTuple a its:=⟨_,h1',rfl,n,rfl⟩
  refine wpAny_pyIter_tuple ht (k _ _ (Wk.of (Walks.tuple hA s.heap.objs.size a hne its) (by simpa using hl) (λi v X hX hv=>?_) (λb hb=>?_) λi h ⟨⟨o,ho,hc,_⟩,_⟩=>⟨o,_,ho,hc,by decide+kernel⟩) ⟨⟨_,Heap.get?_push_size _ rfl,rfl,rfl⟩,?_⟩ (Heap.get?_push_size _ rfl))
  ·obtain ⟨v',q1,q2⟩:=h2.get hX
   rw [Array.getElem?_toList,hv] at q1
   cases q1;exact q2
  ·clear ht hne h1';rcases List.mem_cons.mp hb with rfl|hb
   ·exact .inl rfl
   ·rw [List.mem_singleton] at hb;subst hb;exact .inr ⟨_,h1⟩
  ·exact ⟨_,Heap.get?_push_of_some _ h1',rfl,n,rfl⟩
 case str x=>
  cases e
  obtain ⟨t,rfl⟩:=aX r
  refine wpAny_pyIter_strU ?_
  by_cases hx:x.cps.all (· <128)=true
  ·rw [show strIterType x="str_ascii_iterator" by unfold strIterType;exact rW (if_pos hx) rfl]
   refine k _ _ (Wk.of (Walks.strAscii hA s.heap.objs.size x t) (by simp) (λi v X hX hv=>?_) (λb hb=> .inl (by simpa using hb)) λi h hs=>?_) ?_ (Heap.get?_push_size _ rfl)
   ·obtain ⟨c,hc,rfl⟩:=mz hX
    obtain ⟨c',u,h1,rfl⟩:=hv
    rw [Array.getElem?_toList,h1] at hc;clear h1;cases hc
    exact ix
   ·obtain ⟨o,ho,hc,_⟩:=hs;exact ⟨o,_,ho,hc,by decide+kernel⟩
   ·exact ⟨_,Heap.get?_push_size _ rfl,rfl,rfl⟩
  ·rw [show strIterType x="str_iterator" by unfold strIterType;exact rW (if_neg hx) rfl]
   refine k _ _ (Wk.of (Walks.strWide hA s.heap.objs.size x t) (by simp) (λi v X hX hv=>?_) (λb hb=> .inl (by simpa using hb)) λi h hs=>?_) ?_ (Heap.get?_push_size _ rfl)
   ·obtain ⟨c,hc,rfl⟩:=mz hX
    obtain ⟨c',u,h1,rfl⟩:=hv
    rw [Array.getElem?_toList,h1] at hc;clear h1;cases hc
    exact ix
   ·obtain ⟨o,ho,hc,_⟩:=hs;exact ⟨o,_,ho,hc,by decide+kernel⟩
   ·exact ⟨_,Heap.get?_push_size _ rfl,rfl,rfl⟩
 case q8 a b c=>
  rcases j1 e with ⟨hb,e⟩|e
  ·cases e
   obtain ⟨ra,t,u,w,rfl,h1⟩:=r
   have h1':=S.st.z _ _ h1
   obtain ⟨hs,hs2,hs3⟩:=uD hb.1 hb.2.1 hb.2.2.1 hb.2.2.2.1 hb.2.2.2.2.1 hb.2.2.2.2.2
   refine wpAny_pyIter_range h1' hs3 (k _ _ (Wk.of (Walks.range hA s.heap.objs.size a c (Builtin.Range.rangeSize a b c).toNat) (by simp) (λi v X hX hv=>?_) (λb hb=> .inl (by simpa using hb)) λi h hs=>⟨_,_,hs,rfl,by decide+kernel⟩) ?_ (Heap.get?_push_size _ rfl))
   ·obtain ⟨c,hc,rfl⟩:=mz hX
    clear hX;obtain ⟨u,rfl⟩:=hv
    have:=(List.getElem?_eq_some_iff.mp hc).2
    simp only [List.getElem_range] at this
    subst this
    exact bh
   ·refine (?_:IsRangeIter _ _ _ _ _)
    unfold IsRangeIter
    refine rW (Heap.get?_push_size _ rfl) ?_
    simp [Int.toNat_of_nonneg hs]
  ·cases e
 all_goals cases e
noncomputable def yl (x:V)(P:List V->Prop):Prop:=match x with
 | .q8 a b c=>vE (itemsOf (.q8 a b c)) P
 | x=>xX (itemsOf x) P
omit G A fs η E Z s Q in
theorem sq {x:V}{P:List V->Prop}(h:yl x P):vE (itemsOf x) P:=by
 cases x
 case q8=>exact h
 all_goals exact iX h
end
@[reducible] noncomputable def Fg (g:List V->Hm->(List V->Hm->Prop)->Prop)(acc:List V)(Q:List V->Hm->Prop)(Y:V)(η:Hm):Prop:=g (acc++ [Y]) η Q
noncomputable def cX (body:V->Hm->(V->Hm->Prop)->Prop):List V->List V->Hm->(List V->Hm->Prop)->Prop
 | [],acc,η,Q=>Q acc η
 | x::r,acc,η,Q=>acc.length<16000000/\body x η (Fg (cX body r) acc Q)
section
variable {G:Gc}{A:Around}{η:Hm}{E:Prop}{Z:Heap}{s:Shared}
inductive Hu (G:Gc)(f:Fm)(r:List Fm)(i:Nat)(items:List V)(I D:Addr)(St:Nat->Heap->Prop)(body:V->Hm->(V->Hm->Prop)->Prop)(ρ0:List (Option V))(Qf:List V->Hm->Prop)(Z:Heap)(m:Nat)(s:Shared):Prop
 | mk (Z1:Heap) (η:Hm) (oI:Obj) (acc:List V) (its:Array Value) (n j:Nat) (g:Fm) (hj:m+j=items.length) (hz:Z.StaysIn Z1) (ge:g.env=f.env) (gv:g.vars=f.vars) (gr:g.real=f.real) (gρ:∀X,g.ρ.set i X=ρ0.set i X) (gl:g.ρ.length=ρ0.length)
  (gx:g.extra= [(I,oI),(D,eG its n)]) (S:Sx G Z1 η (g::r) s) (hst:St j s.heap) (ha:ar G.w.params Z1 acc its.toList) (hq:cX body (items.drop j) acc η Qf)
theorem uX {f:Fm}{r:List Fm}{i:Nat}{x:Str}{px pos:Pos}{elt iter:PySem.Expr}{scope:Scope}{items:List V}{I D:Addr}{St:Nat->Heap->Prop}{body:V->Hm->(V->Hm->Prop)->Prop}
  {ρ0:List (Option V)} {R:Result->Shared->Prop} {Qf:List V->Hm->Prop}
  (W:∀Z',Z.StaysIn Z'->Wk G A Z' items I St) (hm:(i,x)∈f.vars) (hk:f.env.kindOf x=some .local) (hi:i<ρ0.length)
  (hb:∀X η Q,body X η Q->∀g:Fm,g.env=f.env->g.vars=f.vars->g.ρ=ρ0.set i (some X)->g.real=f.real->WV G A (g::r) (eval elt f.env) η Q False)
  (hR:∀Z' η' acc its n fr s',Z.StaysIn Z'->fr.env=f.env->fr.vars=f.vars->fr.real=f.real->fr.extra= [(D,eG its n)]->Sx G Z' η' (fr::r) s'->ar G.w.params Z' acc its.toList->Qf acc η'->R (.ok .next) s')
  {oI:Obj} {acc:List V} {its:Array Value} {n j:Nat} {g:Fm} {Z1:Heap} (hj:j<=items.length) (hz:Z.StaysIn Z1) (ge:g.env=f.env) (gv:g.vars=f.vars) (gr:g.real=f.real) (gρ:∀X,g.ρ.set i X=ρ0.set i X) (gl:g.ρ.length=ρ0.length) (gx:g.extra= [(I,oI),(D,eG its n)])
  (S:Sx G Z1 η (g::r) s) (hst:St j s.heap) (hacc:ar G.w.params Z1 acc its.toList) (hq:cX body (items.drop j) acc η Qf):
  codeAny (model G.prog G.w) A (.compLoop (.ListComp elt [⟨.Name x px,iter,[],0⟩] scope pos) 0 (.ref I) (.ref D) f.env) R s:=by
 refine codeAny_compLoop_tests (I:=Hu G f r i items I D St body ρ0 Qf Z) ?_ (items.length-j) ?_
 ·clear hz ge gv gr gρ gl gx S hst hacc hq
  rintro m s ⟨Z1,η,oI,acc,its,n,j,g,hj,hz,ge,gv,gr,gρ,gl,gx,S,hst,hacc,hq⟩
  have W1:=W Z1 hz
  cases hx:items[j]? with
  | none=>
   have hjl:j=items.length:=by
    have:=List.getElem?_eq_none_iff.mp hx
    exact Nat.le_antisymm (lA (eL hj)) (lA this)
   clear hx hj;subst hjl
   rw [List.drop_length] at hq
   refine W1.done s _ _ hst λh' tk kk=>?_
   have S':=S.st.z' gx kk
   exact hR Z1 η acc its n {g with extra:= [(D,eG its n)]} _ hz ge gv gr rfl (S.move S') hacc hq
  | some X=>
   have hlt:j<items.length:=(List.getElem?_eq_some_iff.mp hx).1
   rw [List.drop_eq_getElem_cons hlt,(List.getElem?_eq_some_iff.mp hx).2] at hq
   obtain ⟨hsz,hq⟩:=hq
   refine W1.item j s _ _ X hx hst λv h' tk rv hst' kk=>?_
   obtain ⟨oI',_,hoI', -⟩:=W1.there _ _ hst'
   have S1:=S.move (t:=tk) (S.st.AK gx kk hoI')
   generalize hg1:({g with extra:= [(I,oI'),(D,eG its n)]}:Fm)=g1 at S1
   have e1:g1.env=f.env:=by refine rV hg1 ?_;exact ge
   have v1:g1.vars=f.vars:=by refine rV hg1 ?_;exact gv
   have r1:g1.real=f.real:=by refine rV hg1 ?_;exact gr
   have p1:∀X,g1.ρ.set i X=ρ0.set i X:=by refine rV hg1 ?_;exact gρ
   have l1:g1.ρ.length=ρ0.length:=by refine rV hg1 ?_;exact gl
   have x1:g1.extra= [(I,oI'),(D,eG its n)]:=by exact rV hg1 rfl
   have Sz:=S1.st.z
   clear hg1 gx S hst kk
   dsimp only
   refine rV e1 ?_
   refine wpAny_assign_Name (tr (i:=i) (X:=X) S1 (by refine rW v1 ?_;exact hm) (.inl (by refine rW e1 ?_;exact hk)) (by (simp only [*])) rv λs2 S2=>?_)
   have hI2:=(S2.st.f _ List.mem_cons_self).ext (I,oI') (by refine (?_:_∈g1.extra);refine rW x1 ?_;exact List.mem_cons_self)
   have hst2:=W1.frame (j+1) h' s2.heap oI' hst' Sz hoI' hI2 S2.st.z
   generalize hg2:({g1 with ρ:=g1.ρ.set i (some X)}:Fm)=g2 at S2
   have e2:g2.env=f.env:=by refine rV hg2 ?_;exact e1
   have v2:g2.vars=f.vars:=by refine rV hg2 ?_;exact v1
   have r2:g2.real=f.real:=by refine rV hg2 ?_;exact r1
   have q2:g2.ρ=ρ0.set i (some X):=by refine rV hg2 ?_;exact p1 _
   have x2:g2.extra= [(I,oI'),(D,eG its n)]:=by refine rV hg2 ?_;exact x1
   clear hg2 hI2 S1 x1
   refine rW e1 ?_
   simp only [List.forIn_nil]
   refine wpAny_pure ?_
   refine rW (if_pos rfl) ?_
   have hbody:=hb X η _ hq g2 e2 v2 q2 r2
   refine wpAny_mono (hbody Z1 s2 S2) (λy s3 h3=>?_) λξ ξ h3=>h3.1.elim
   obtain ⟨Z3,η3,Y,hz3,S3,ry,hq3⟩:=h3
   have hD3:=(S3.st.f _ List.mem_cons_self).ext (D,eG its n) (by refine rW x2 ?_;simp)
   have hI3:=(S3.st.f _ List.mem_cons_self).ext (I,oI') (by refine rW x2 ?_;simp)
   have hst3:=W1.frame (j+1) s2.heap s3.heap oI' hst2 S2.st.z ((S2.st.f _ List.mem_cons_self).ext (I,oI') (by refine rW x2 ?_;simp)) hI3 (StaysIn.trans hz3 S3.st.z)
   have hl:=hacc.length
   simp only [Array.length_toList] at hl
   refine call_meets PySem.F.slot_list_append ⟨_,hD3,rfl⟩ PySem.F.entry_list_append (PySem.F.args_list_append_2 _ _) (AutoListH.list_append_list_val_0 D its n y (by refine rW sizeLine_eq ?_;exact lB hsz (eL hl))) ⟨hD3,?_⟩
   have g':=Heap.get?_update_self (Obj.mapSeq λx=>x.push y) hD3 rfl
   have S4:=(S3.st.z9 (ex:= [(D,eG its n),(I,oI')]) (by refine rW x2 ?_;exact List.Perm.swap _ _ _)).AK (r:= [(I,oI')]) rfl (λb o hb e=>(Heap.get?_update_other _ _ (Ne.symm hb)).trans e) g'
   have S5:=S4.z9 (ex:= [(I,oI'),(D,Obj.mapSeq (λx=>x.push y) (eG its n))]) (List.Perm.swap _ _ _)
   have hI5:=(S5.f _ List.mem_cons_self).ext (I,oI') (by simp)
   have hst5:=W1.frame (j+1) s3.heap _ oI' hst3 (StaysIn.trans hz3 S3.st.z) hI3 hI5 (StaysIn.trans hz3 S5.z)
   refine ⟨items.length-(j+1),by exact lB (eR hj) (sC hlt),Z3,η3,oI',acc++ [Y],its.push y,_,j+1,{g2 with extra:= [(I,oI'),(D,Obj.mapSeq (λx=>x.push y) (eG its n))]},by exact Nat.sub_add_cancel (by assumption),StaysIn.trans hz hz3,e2,v2,r2,λY'=>?_,?_,rfl,S3.move S5,hst5,?_,hq3⟩
   ·refine (?_:g2.ρ.set i Y'=_)
    exact rW q2 (rW (List.set_set ..) rfl)
   ·refine (?_:g2.ρ.length=_)
    exact rW q2 (rW List.length_set rfl)
   ·refine rW Array.toList_push ?_;exact (hacc.mono hz3).append (ar.one ry)
 ·exact ⟨Z1,η,oI,acc,its,n,j,g,by exact Nat.sub_add_cancel (by assumption),hz,ge,gv,gr,gρ,gl,gx,S,hst,hacc,hq⟩
noncomputable def ei (cells:List (Str×Addr)):List (Str×NameKind)->List (Str×Addr)->Option (List (Str×Addr))
 | [],acc=>some acc
 | (n,k)::r,acc=>if k== .free then (cells.lookup n).bind λa=>ei cells r ((n,a)::acc) else ei cells r acc
theorem sI {cells:List (Str×Addr)}{n:Str}{k:NameKind}{r:List (Str×NameKind)}{acc cl:List (Str×Addr)}(h:ei cells ((n,k)::r) acc=some cl):
  ((k== .free)=true/\∃a,cells.lookup n=some a/\ei cells r ((n,a)::acc)=some cl)\/(¬(k== .free)=true/\ei cells r acc=some cl):=by
 have h:(if k== .free then (cells.lookup n).bind λa=>ei cells r ((n,a)::acc) else ei cells r acc)=some cl:=h
 by_cases hk:(k== .free)=true
 ·rw [if_pos hk] at h;exact .inl ⟨hk,Option.bind_eq_some_iff.mp h⟩
 ·rw [if_neg hk] at h;exact .inr ⟨hk,h⟩
theorem mQ {scope:Scope}{env:Env}{cl:List (Str×Addr)}(h:ei env.cells scope.names []=some cl):closureFor scope env=pure cl:=by
 unfold closureFor
 have aux:∀(names:List (Str×NameKind)) (acc cl:List (Str×Addr)),ei env.cells names acc=some cl->
   (forIn names acc (λx r=>match x with
    | (name,kind)=>if (kind==NameKind.free)=true then do let a <-cellOf env name;pure (ForInStep.yield ((name,a)::r)) else pure (ForInStep.yield r)):Sem (List (Str×Addr)))=pure cl:=by
  intro names
  induction names with
  | nil=>intro acc cl h;cases h;rfl
  | cons p names ih=>
   intro acc cl h
   obtain ⟨n,k⟩:=p
   refine rW (List.forIn_cons ..) ?_
   rcases sI h with ⟨hk,a,ha,h⟩|⟨hk,h⟩
   ·simp only [hk,if_true]
    unfold cellOf
    refine rW ha ?_
    exact ih _ _ h
   ·simp only [hk,if_false]
    exact ih _ _ h
 exact (congrArg (· >>=pure) (aux scope.names [] cl h)).trans rfl
theorem ur {cells:List (Str×Addr)}:∀{names:List (Str×NameKind)} {acc cl:List (Str×Addr)},ei cells names acc=some cl->(∀p∈acc,cells.lookup p.1=some p.2)->∀p∈cl,cells.lookup p.1=some p.2:=by
 intro L_
 induction L_ with
 | nil=>
  intro acc cl h ha
  cases h;exact ha
 | cons p_ r ih=>
  intro acc cl h ha
  obtain ⟨n,k⟩:=p_
  rcases sI h with ⟨_,a,e,h⟩|⟨_,h⟩
  ·refine ih h λp hp=>?_
   rcases List.mem_cons.mp hp with rfl|hp
   ·exact e
   ·exact ha p hp
  ·exact ih h ha
theorem zT {cells:List (Str×Addr)}:∀{names:List (Str×NameKind)} {acc cl:List (Str×Addr)},ei cells names acc=some cl->∀y,((y,NameKind.free)∈names\/∃a,(y,a)∈acc)->∃a,(y,a)∈cl:=by
 intro L_
 induction L_ with
 | nil=>
  intro acc cl h y hy
  cases h;simpa using hy
 | cons p_ r ih=>
  intro acc cl h y hy
  obtain ⟨n,k⟩:=p_
  rcases sI h with ⟨_,a,e,h⟩|⟨hk,h⟩
  ·refine ih h y ?_
   rcases hy with hy|⟨b,hb⟩
   ·rcases List.mem_cons.mp hy with q|hy
    ·clear hy;cases q;exact .inr ⟨a,List.mem_cons_self⟩
    ·exact .inl hy
   ·exact .inr ⟨b,List.mem_cons_of_mem _ hb⟩
  ·refine ih h y ?_
   rcases hy with hy|hb
   ·rcases List.mem_cons.mp hy with q|hy
    ·clear hy;cases q;simp at hk
    ·exact .inl hy
   ·exact .inr hb
theorem mR {cells cl:List (Str×Addr)}{names:List (Str×NameKind)}{y:Str}(h:ei cells names []=some cl)(hy:(y,NameKind.free)∈names):cl.lookup y=cells.lookup y:=by
 obtain ⟨a,ha⟩:=zT h y (.inl hy)
 have hm:=ur h (by simp)
 have h1:=hm _ ha
 cases e:cl.lookup y with
 | none=>exact absurd (List.lookup_eq_none_iff.mp e (y,a) ha) (by simp)
 | some b=>have:=hm _ (mem_of_lookup e);exact this.symm
theorem xP {cells:List (Str×Addr)}:∀{names:List (Str×NameKind)} {acc:List (Str×Addr)},(∀y,(y,NameKind.free)∈names->(cells.lookup y).isSome=true)->∃cl,ei cells names acc=some cl:=by
 intro L_
 induction L_ with
 | nil=>
  intro acc h
  exact ⟨acc,rfl⟩
 | cons p_ r ih=>
  intro acc h
  obtain ⟨n,k⟩:=p_
  show ∃cl,(if k== .free then (cells.lookup n).bind λa=>ei cells r ((n,a)::acc) else ei cells r acc)=some cl
  by_cases hk:(k== .free)=true
  ·refine rW (if_pos hk) ?_
   obtain ⟨a,ha⟩:=Option.isSome_iff_exists.mp (h n (by refine rW (show k=NameKind.free from eq_of_beq hk) ?_;exact List.mem_cons_self))
   refine rW ha ?_
   exact ih λy hy=>h y (List.mem_cons_of_mem _ hy)
  ·refine rW (if_neg hk) ?_;exact ih λy hy=>h y (List.mem_cons_of_mem _ hy)
theorem fj {env:Env}(hk:env.scope.kind= .function):∀{names:List (Str×NameKind)} {x:Str},names.lookup x=some .free->env.kindOf x=some .cell->
  (names.map λ(n,k)=>if (k==NameKind.free&&env.scope.kind== .function&&env.kindOf n==some .cell) then (n,NameKind.cell) else (n,k)).lookup x=some .cell
 | [],x,h,_=>by simp at h
 | (n,k)::r,x,h,hc=>by
  refine rW List.map_cons ?_
  rw [List.lookup_cons] at h
  cases q:x==n with
  | true=>
   rw [q] at h;simp only [Option.some.injEq] at h;subst h
   have:x=n:=eq_of_beq q
   subst this
   simp [hk,hc]
  | false=>
   rw [q] at h
   have:=fj hk h hc
   by_cases z:(k==NameKind.free&&env.scope.kind== .function&&env.kindOf n==some .cell)=true
   ·simp only [z,if_true,List.lookup_cons,q];exact this
   ·simp only [z,Bool.false_eq_true,if_false,List.lookup_cons,q];exact this
theorem lk {env:Env}:∀{names:List (Str×NameKind)} {x:Str},(∀z∈names,z.2≠NameKind.cell)->
  (names.map λ(n,k)=>if (k==NameKind.free&&env.scope.kind== .function&&env.kindOf n==some .cell) then (n,NameKind.cell) else (n,k)).lookup x=some .cell->(x,NameKind.free)∈names/\env.kindOf x=some .cell:=by
 intro L_
 induction L_ with
 | nil=>
  intro x _ h
  simp at h
 | cons p_ r ih=>
  intro x hc h
  obtain ⟨n,k⟩:=p_
  rw [List.map_cons] at h
  by_cases z:(k==NameKind.free&&env.scope.kind== .function&&env.kindOf n==some .cell)=true
  ·simp only [z,if_true,List.lookup_cons] at h
   simp only [Bool.and_eq_true,beq_iff_eq] at z
   cases q:x==n with
   | true=>
    have:x=n:=eq_of_beq q
    clear q h hc;subst this
    exact ⟨by refine rW z.1.1 ?_;exact List.mem_cons_self,z.2⟩
   | false=>
    rw [q] at h
    have:=ih (λz hz=>hc z (List.mem_cons_of_mem _ hz)) h
    exact ⟨List.mem_cons_of_mem _ this.1,this.2⟩
  ·simp only [z,Bool.false_eq_true,if_false,List.lookup_cons] at h
   clear z;cases q:x==n with
   | true=>
    rw [q] at h;simp only [Option.some.injEq] at h;subst h
    exact absurd rfl (hc (n, .cell) List.mem_cons_self)
   | false=>
    rw [q] at h
    have:=ih (λz hz=>hc z (List.mem_cons_of_mem _ hz)) h
    exact ⟨List.mem_cons_of_mem _ this.1,this.2⟩
structure mZ (f:Fm)(scope:Scope)(i:Nat)(x:Str)(vs:List (Nat×Str)):Prop where
 kind:scope.kind= .function
 wY:∀z∈scope.names,z.2≠NameKind.cell
 loc:∀z∈scope.names,z.2= .local->scope.names.lookup z.1=some .local
 m9:scope.names.lookup x=some .local
 free:∀z∈scope.names,z.2=NameKind.free->f.env.kindOf z.1=some .cell
 mem:(i,x)∈vs
 vs:∀p∈vs,p=(i,x)\/(p∈f.vars/\f.env.kindOf p.2=some .cell/\scope.names.lookup p.2=some .free/\p.1≠i/\p.2≠x)
 lt:i<f.ρ.length
theorem Wk.mono {Z Z':Heap}{items:List V}{I:Addr}{T:Nat->Heap->Prop}(W:Wk G A Z items I T)(k:Z.StaysIn Z'):Wk G A Z' items I T where
 item:=λi s R E' X hX hs h=>W.item i s R E' X hX hs λv h' tk rx=>h v h' tk (rx.mono k)
 done:=W.done
 frame:=λi h h' o hs hz ho ho' hz'=>W.frame i h h' o hs (StaysIn.trans k hz) ho ho' (StaysIn.trans k hz')
 there:=W.there
 self:=W.self
theorem mO {f:Fm}{r:List Fm}{i:Nat}{x:Str}{px pos:Pos}{elt iter:PySem.Expr}{scope:Scope}{vs:List (Nat×Str)}{items:List V}{X:V}{xv:Value}{body:V->Hm->(V->Hm->Prop)->Prop}{cl:List (Str×Addr)}
  {Qf:List V->Hm->Prop} {RR:Value->Addr->Result->Shared->Prop} {E':Value->Shared->Prop} (hA:A.handled=none) (C:mZ f scope i x vs) (hcl:ei f.env.cells scope.names []=some cl)
  (hb:∀L X η Q,body X η Q->∀g:Fm,g.env=compEnvC scope cl L f.env->g.vars=vs->g.ρ=f.ρ.set i (some X)->g.real=false->WV G A (g::f::r) (eval elt g.env) η Q False)
  (S:Sx G Z η (f::r) s) (rx:Rel G.w.params Z X xv) (hi:itemsOf X=some items) (hq:cX body items [] η Qf)
  (hR:∀Z' η' acc its n fr s' D L,Z.StaysIn Z'->fr.env=compEnvC scope cl L f.env->fr.extra= [(D,eG its n)]->fr.own= [L,D]->Sx G Z' η' (fr::f::r) s'->ar G.w.params Z' acc its.toList->Qf acc η'->RR (.ref D) L (.ok .next) s'):
  wpAny (model G.prog G.w) A (pyIter xv) (λit s₂=>wpAny (model G.prog G.w) A (newList []) (λacc s₃=>wpAny (model G.prog G.w) A (newFunctionEnv scope f.env.globals cl [] f.env.qual none .none (some f.env)) (λcenv s₄=>
   codeAny (model G.prog G.w) A (.compStart (.ListComp elt [⟨.Name x px,iter,[],0⟩] scope pos) 0 it acc {cenv with scope:=relabel scope f.env}) (RR acc cenv.locals) s₄) E' s₃) E' s₂) E' s:=by
 have F:=S.st.f f List.mem_cons_self
 refine rJ hA S rx hi λT oI W hst hoI=>?_
 refine wpAny_newObj_type (wpAny_newFunctionEnv C.wY (by intro y hy;simp at hy) (λh₁ hns₁ hsb₁=>?_) C.kind)
 dsimp only at hns₁ hsb₁ ⊢
 generalize hH2:s.heap.push oI=H2 at hst hoI hns₁ hsb₁ ⊢
 generalize hH3:H2.push {cls:= .type "list",dict:=none,data:= .seq ([]:List Value).toArray}=H3 at hns₁ hsb₁ ⊢
 have s2:H2.objs.size=s.heap.objs.size+1:=by exact rV hH2 (rW (Heap.size_push ..) rfl)
 have s3:H3.objs.size=s.heap.objs.size+2:=by exact rV hH3 (rW (Heap.size_push ..) (rW s2 rfl))
 have k0:s.heap.StaysIn H2:=λb o e=>by refine rV hH2 ?_;exact Heap.get?_push_of_some _ e
 have k2:H2.StaysIn h₁:=λb o e=>hsb₁.extBut b o (Nat.ne_of_lt (Nat.lt_of_lt_of_le (Heap.lt_size e) (by exact lB (eL s2) (eR s3)))) (Heap.get?_push_of_some _ (by refine rV hH3 ?_;exact Heap.get?_push_of_some _ e))
 have k1:s.heap.StaysIn h₁:=StaysIn.trans k0 k2
 have hD:h₁.get? H2.objs.size=some (eG #[] 0):=hsb₁.extBut H2.objs.size _ (Nat.ne_of_lt (by exact lB (eL s2) (eR s3))) (Heap.get?_push_of_some _ (by refine rV hH3 ?_;exact Heap.get?_push_size _ rfl))
 have hI:h₁.get? s.heap.objs.size=some oI:=k2 _ _ hoI
 have hst₁:T 0 h₁:=W.frame 0 _ _ oI hst (StaysIn.trans S.st.z k0) hoI hI (StaysIn.trans S.st.z k1)
 let fc:Fm:={env:=compEnvC scope cl H3.objs.size f.env,real:=false,vars:=vs,ρ:=f.ρ.set i none,extra:= [(s.heap.objs.size,oI),(H2.objs.size,eG #[] 0)]}
 have clm:=ur hcl (by simp)
 have hown:fc.own= [H3.objs.size,s.heap.objs.size,H2.objs.size]:=rfl
 have SC:St G.w.params Z η (fc::f::r) h₁:=by
  refine S.st.push k1 ⟨⟨_,hns₁,λj y Y hj hy=>?_⟩,λp hp=>?_,?_,λq=>(by cases q),λp hp q hq'=>?_,F.glob,F.blt,λp hp=>?_,λy hy=>?_⟩ (λa ha=>?_) ?_ (λp hp=> .inr ?_)
  ·rcases C.vs _ hj with q|⟨m1,m2,m3,m4,m5⟩
   ·cases q
    have:(f.ρ.set i none)[i]?=some none:=by exact rW (List.getElem?_set_self C.lt) rfl
    rw [show fc.ρ=f.ρ.set i none from rfl,this] at hy
    cases hy
   ·have hy':f.ρ[j]?=some (some Y):=by
     rw [show fc.ρ=f.ρ.set i none from rfl,List.getElem?_set_ne (λz=>m4 z.symm)] at hy
     exact hy
    obtain ⟨m,hn,hv⟩:=F.ns
    rcases hv j y Y m1 hy' with ⟨z,_⟩|⟨_,c,v,b,⟨o,ho,hd⟩,rl⟩
    ·rw [m2] at z;cases z
    ·refine .inr ⟨fj F.kind m3 m2,c,v,?_,⟨o,k1 _ _ ho,hd⟩,rl⟩
     refine (?_:cl.lookup y=some c)
     refine rW (mR hcl (mem_of_lookup m3)) ?_;exact b
  ·obtain ⟨v,o,ho,hd⟩:=F.cells p (mem_of_lookup (clm p hp))
   exact ⟨v,o,k1 _ _ ho,hd⟩
  ·exact C.kind
  ·rcases C.vs p hp with rfl|⟨m1,m2,m3,m4,m5⟩
   ·rcases C.vs q hq' with rfl|⟨n1,n2,n3,n4,n5⟩
    ·simp
    ·exact ⟨λz=>absurd z.symm n4,λz=>absurd z.symm n5⟩
   ·rcases C.vs q hq' with rfl|⟨n1,n2,n3,n4,n5⟩
    ·exact ⟨λz=>absurd z m4,λz=>absurd z m5⟩
    ·exact F.inj p m1 q n1
  ·rcases List.mem_cons.mp hp with rfl|hp
   ·exact hI
   ·rw [List.mem_singleton] at hp;subst hp;exact hD
  ·obtain ⟨q1,q2⟩:=lk C.wY hy
   refine (?_:(cl.lookup y).isSome=true)
   refine rW (mR hcl q1) ?_
   exact F.Fz y q2
  ·rw [hown] at ha
   simp only [List.mem_cons,List.not_mem_nil,or_false] at ha
   have u1:s.heap.objs.size<=H3.objs.size:=by exact lA (eR s3)
   have u2:s.heap.objs.size<=H2.objs.size:=by exact lA (eR s2)
   rcases ha with rfl|rfl|rfl
   ·exact u1
   ·exact Nat.le_refl _
   ·exact u2
  ·refine rW hown ?_
   simp only [List.nodup_cons,List.mem_cons,List.not_mem_nil,or_false,not_or,not_false_eq_true,List.nodup_nil,and_true]
   have u1:¬(H3.objs.size:Nat)=s.heap.objs.size:=by exact Nat.ne_of_gt (lA (eR s3))
   have u2:¬(H3.objs.size:Nat)=H2.objs.size:=by exact Nat.ne_of_gt (lB (eL s2) (eR s3))
   have u3:¬(s.heap.objs.size:Nat)=H2.objs.size:=by exact Nat.ne_of_lt (lA (eR s2))
   exact ⟨⟨u1,u2⟩,u3⟩
  ·exact pQ.core S.st.cl _ (mem_of_lookup (clm p hp))
 have SS:Sx G Z η (fc::f::r) {s with heap:=h₁,toks:=s.toks+([]:List (Str×Value)).length}:=S.move SC
 have loop:codeAny (model G.prog G.w) A (.compLoop (.ListComp elt [⟨.Name x px,iter,[],0⟩] scope pos) 0 (.ref s.heap.objs.size) (.ref H2.objs.size) (compEnvC scope cl H3.objs.size f.env))
   (RR (.ref H2.objs.size) H3.objs.size) {s with heap:=h₁,toks:=s.toks+([]:List (Str×Value)).length}:=by
  refine uX (f:=fc) (r:=f::r) (i:=i) (items:=items) (body:=body) (ρ0:=f.ρ.set i none) (Qf:=Qf) (St:=T) (acc:= []) (its:= #[]) (j:=0) (λZ' hz=>?_) C.mem (lookup_relabel_local C.m9) (by refine rW List.length_set ?_;exact C.lt) (λX η Q hX g g1 g2 g3 g4=>?_) (λZ' η' acc its n fr s' hz e1 e2 e3 e4 S' ha hf=>?_) (Nat.zero_le _) (StaysIn.refl Z) rfl rfl rfl (λξ=>rfl) rfl rfl SS hst₁ ?_ (by simpa using hq)
  ·exact W.mono hz
  ·refine rV g1 ?_;exact hb _ X η Q hX g g1 g2 (by exact rW g3 (rW (List.set_set ..) rfl)) g4
  ·exact hR Z' η' acc its n fr s' _ _ hz e1 e4 (by unfold Fm.own Fm.core;refine rW e3 (rW e1 (rW e4 ?_));rfl) S' ha hf
  ·rfl
 exact codeAny_compStart_list loop (W.self 0 _ _ _ hst₁ loop)
theorem handOver {fr:Fm}{r:List Fm}{Z':Heap}{η':Hm}{acc:List V}{its:Array Value}{n:Nat}{s':Shared}{h':Heap}{D L:Addr}{m:Bool}{Q:V->Hm->Prop}{t:Nat}
  (S:Sx G Z' η' (fr::r) s') (ho:fr.own= [L,D]) (hx:fr.extra= [(D,eG its n)]) (ra:ar G.w.params Z' acc its.toList) (k:∀b o,b≠L->s'.heap.get? b=some o->h'.get? b=some o) (q:eA m acc η' Q):
  ∃Z2 η2 X,Z'.StaysIn Z2/\Sx G Z2 η2 r {s' with heap:=h',toks:=t}/\Rel G.w.params Z2 X (.ref D)/\Q X η2/\Z2.get? L=none/\η2 L=none/\L∉r.flatMap Fm.own:=by
 have hD:=(S.st.f _ List.mem_cons_self).ext (D,eG its n) (by refine rW hx ?_;simp)
 have nd:=S.st.nd
 rw [List.flatMap_cons,ho] at nd
 rw [List.nodup_append] at nd
 have hDL:D≠L:=λq=>by
  have:=nd.1
  rw [q] at this
  simp at this
 have hDr:D∉r.flatMap Fm.own:=λq=>nd.2.2 D (by simp) D q rfl
 have hDo:D∈(fr::r).flatMap Fm.own:=by refine rW List.flatMap_cons (rW ho ?_);simp
 obtain ⟨d1,d2⟩:=S.st.own D hDo
 have S1:St G.w.params Z' η' r h':=S.st.leave λb o hb e=>k b o (λq=>hb (by refine rW ho (rW q ?_);simp)) e
 have hD':h'.get? D=some (eG its n):=k _ _ hDL hD
 obtain ⟨l1,l2⟩:=S.st.own L (by refine rW List.flatMap_cons (rW ho ?_);simp)
 have l3:L∉r.flatMap Fm.own:=λq=>nd.2.2 L (by simp) L q rfl
 cases m with
 | true=>
  refine ⟨Z',_, .ref D,StaysIn.refl Z',S.move (S1.adopt d1 hDr (x:= .list acc) ⟨its,n,hD',ra⟩),iR,?_⟩
  exact ⟨(show ∀a,η' a=none->Q (.ref a) (upd η' a (.list acc)) from by simpa [eA] using q) _ d2,l1,by unfold upd;refine rW (if_neg hDL.symm) ?_;exact l2,l3⟩
 | false=>
  obtain ⟨Z2,hz,hp,S2,hn⟩:=S1.pB (λa=>a=D) (λa e=>by refine rW e ?_;exact d2) λa e=>by refine rW e ?_;exact hDr
  refine ⟨Z2,η', .lst acc,hz,S.grow hz S2,?_,by simpa [eA] using q,hn L (λq=>hDL q.symm) l1,l2,l3⟩
  exact ⟨_,its,n,rfl,hp _ _ rfl hD',ra.mono hz⟩
theorem AS {f:Fm}{r:List Fm}{i:Nat}{x:Str}{px pos:Pos}{elt iter:PySem.Expr}{scope:Scope}{vs:List (Nat×Str)}{m:Bool}{body:V->Hm->(V->Hm->Prop)->Prop}{cl:List (Str×Addr)}
  {Q:V->Hm->Prop} (hA:A.handled=none) (C:mZ f scope i x vs) (hcl:ei f.env.cells scope.names []=some cl) (hs:∀x,foldedSetIterable iter f.env x=pure x)
  (hb:∀L X η Q,body X η Q->∀g:Fm,g.env=compEnvC scope cl L f.env->g.vars=vs->g.ρ=f.ρ.set i (some X)->g.real=false->WV G A (g::f::r) (eval elt g.env) η Q False)
  (hsrc:WV G A (f::r) (eval iter f.env) η (λX η1=>yl X λitems=>cX body items [] η1 (λl η2=>eA m l η2 Q)) E):
  WV G A (f::r) (eval (.ListComp elt [⟨.Name x px,iter,[],0⟩] scope pos) f.env) η Q E:=λZ s S=>by
 refine rW (eval_ListComp ..) ?_
 refine wpAny_comprehension_free (use:=none) rfl hs (mQ hcl) C.kind C.loc (hsrc.run S λZ1 η1 X xv s1 hz S1 rx hq=>?_)
 obtain ⟨items,hi,hq⟩:=sq hq
 refine mO (RR:=λacc L=>compPost (model G.prog G.w) A (PX G Z (f::r) E) none (PV G Z (f::r) Q) acc L) hA C hcl hb S1 rx hi hq ?_
 intro Z' η' acc its n fr s' D L hz' e1 e2 e3 S' ra hf
 obtain ⟨mm,hn,_⟩:=(S'.st.f fr List.mem_cons_self).ns
 rw [e1] at hn
 refine ⟨mm,hn,λh' hs'=>?_⟩
 obtain ⟨Z2,η2,Y,hz2,S2,r2,q2, -⟩:=handOver (t:=s'.toks) S' e3 e2 ra (λb o hb e=>hs'.extBut b o hb e) hf
 exact ⟨Z2,η2,Y,StaysIn.trans hz (StaysIn.trans hz' hz2),S2,r2,q2⟩
set_option tactic.hygienic true in
theorem rp {f:Fm}{r:List Fm}{i j:Nat}{x y:Str}{px py pos spos:Pos}{elt iter:PySem.Expr}{scope:Scope}{vs:List (Nat×Str)}{m:Bool}{body:V->Hm->(V->Hm->Prop)->Prop}{cl:List (Str×Addr)}
  {Q:V->Hm->Prop} (hA:A.handled=none) (C:mZ f scope i x vs) (hcl:ei f.env.cells scope.names []=some cl) (hs:∀x,foldedSetIterable iter f.env x=pure x)
  (hsw:swapsWith (.ListComp elt [⟨.Name x px,iter,[],0⟩] scope pos) (some (.Name y py)) spos.line f.env=pure true)
  (hm:(j,y)∈f.vars) (hk:t8 f y) (hj:j<f.ρ.length)
  (hb:∀L X η Q,body X η Q->∀g:Fm,g.env=compEnvC scope cl L f.env->g.vars=vs->g.ρ=f.ρ.set i (some X)->g.real=false->WV G A (g::f::r) (eval elt g.env) η Q False)
  (hsrc:WV G A (f::r) (eval iter f.env) η (λX η1=>yl X λitems=>cX body items [] η1 (λl η2=>eA m l η2 Q)) E) (S:Sx G Z η (f::r) s)
  {R:Flow->Shared->Prop} (k:∀Z' η' X s',Z.StaysIn Z'->Sx G Z' η' ({f with ρ:=f.ρ.set j (some X)}::r) s'->Q X η'->R .next s'):
  wpAny (model G.prog G.w) A (exec (.Assign [.Name y py] (.ListComp elt [⟨.Name x px,iter,[],0⟩] scope pos) spos) f.env) R (PX G Z (f::r) E) s:=by
 refine rW (exec_Assign_Name_used _ _ _ _ hsw) ?_
 refine wpAny_bind (wpAny_standAt (wpAny_bind ?_))
 refine (?_:wpAny _ A (do let _ <-comprehension (.ListComp elt [⟨.Name x px,iter,[],0⟩] scope pos) scope f.env _ (newList []) false (eval iter f.env) (some (assign (.Name y py) f.env))) _ _ s)
 refine wpAny_bind (wpAny_mono (wpAny_comprehension_free (use:=some (assign (.Name y py) f.env)) (Q:=λξ s'=>R .next s') rfl hs (mQ hcl) C.kind C.loc
  (hsrc.run S λZ1 η1 X xv s1 hz S1 rx hq=>?_)) (λξ s' hq=>wpAny_pure (wpAny_pure hq)) λξ ξ e=>e)
 obtain ⟨items,hi,hq⟩:=sq hq
 refine mO (RR:=λacc L=>compPost (model G.prog G.w) A (PX G Z (f::r) E) (some (assign (.Name y py) f.env)) (λξ s'=>R .next s') acc L) hA C hcl hb S1 rx hi hq ?_
 intro Z' η' acc its n fr s' D L hz' e1 e2 e3 S' ra hf
 refine (?_:wpAny _ A (assign (.Name y py) f.env (.ref D)) _ _ _)
 obtain ⟨mm,hn,_⟩:=(S'.st.f fr List.mem_cons_self).ns
 rw [e1] at hn
 obtain ⟨Z2,η2,Y,hz2,S2,r2,q2,l1,l2,l3⟩:=handOver (t:=s'.toks) (h':=s'.heap) S' e3 e2 ra (λb o hb e=>e) hf
 refine wpAny_assign_Name (qq S2 hm hk hj r2 λs3 S3 k3=>⟨mm,?_,λh' hs'=>?_⟩)
 ·obtain ⟨o,es,ep,ho,q⟩:=hn
  exact ⟨o,es,ep,k3 _ _ (λq=>l3 (by refine rW List.flatMap_cons ?_;exact List.mem_append_left _ (List.mem_append_left _ q))) ho,q⟩
 ·have hown:({f with ρ:=f.ρ.set j (some Y)}::r).flatMap Fm.own=(f::r).flatMap Fm.own:=rfl
  exact k Z2 η2 Y _ (StaysIn.trans hz (StaysIn.trans hz' hz2)) (S3.move (t:=s3.toks) (S3.st.but l1 l2 (by refine rW hown ?_;exact l3) λb o hb e=>hs'.extBut b o hb e)) q2
end
noncomputable abbrev Ro:=List (Option V)
structure Kp where
 nx:Hm->Ro->Prop
 br:Hm->Ro->Prop
 ct:Hm->Ro->Prop
 rt:V->Hm->Prop
section
variable {G:Gc}{A:Around}{η:Hm}{E:Prop}{Z:Heap}{s:Shared}
noncomputable def fK (K:Kp)(fl:Flow)(P:Params)(Z:Heap)(η:Hm)(ρ:Ro):Prop:=match fl with
 | .next=>K.nx η ρ
 | .brk=>K.br η ρ
 | .cont=>K.ct η ρ
 | .ret v=>∃X,Rel P Z X v/\K.rt X η
inductive PF (G:Gc)(Z:Heap)(f:Fm)(r:List Fm)(K:Kp)(fl:Flow)(s:Shared):Prop
 | mk (Z':Heap) (η':Hm) (ρ':Ro) (a:Z.StaysIn Z') (b:ρ'.length=f.ρ.length) (c:Sx G Z' η' ({f with ρ:=ρ'}::r) s) (d:fK K fl G.w.params Z' η' ρ')
noncomputable def WS (G:Gc)(A:Around)(f:Fm)(r:List Fm)(t:Env->Sem Flow)(η:Hm)(ρ:Ro)(K:Kp)(E:Prop):Prop:=
 ∀Z s,Sx G Z η ({f with ρ:=ρ}::r) s->wpAny (model G.prog G.w) A (t f.env) (PF G Z {f with ρ:=ρ} r K) (PX G Z ({f with ρ:=ρ}::r) E) s
theorem aJ (f:Fm)(r:List Fm):aT (f::r)=(if f.real then [f.env] else [])++aT r:=by
 unfold aT
 cases h:f.real<;>simp [h]
theorem PX.mf {f:Fm}{r:List Fm}{ρ ρ':Ro}{e:Value}(h:PX G Z ({f with ρ:=ρ'}::r) E e s):PX G Z ({f with ρ:=ρ}::r) E e s:=by
 obtain ⟨hE,Z',B,fs',a,hz,ht,rfl,S,zB,ext,hB,ha,hF,hf⟩:=h
 obtain ⟨ρ'',rfl⟩:=bV ht
 refine ⟨hE,Z',B,_,a,hz, .inr ⟨_,_,ρ'',rfl,rfl⟩,rfl,S,zB,ext,hB,ha,?_,?_⟩
 ·rw [aJ] at hF ⊢;exact hF
 ·exact hf
theorem PN.mf {f:Fm}{r:List Fm}{ρ ρ':Ro}{e:Value}(h:PN G Z {f with ρ:=ρ'} r E e s):PN G Z {f with ρ:=ρ} r E e s:=by
 obtain ⟨hE,Z',B,fs',a,hz,ht,rfl,S,zB,ext,hB,ha,hF,hf⟩:=h
 obtain ⟨ρ'',rfl⟩:=bV ht
 exact ⟨hE,Z',B,_,a,hz, .inr ⟨_,_,ρ'',rfl,rfl⟩,rfl,S,zB,ext,hB,ha,by rw [aJ] at hF ⊢;exact hF,hf⟩
theorem PN.CF {f:Fm}{r:List Fm}{p:Addr×Obj}{ex:List (Addr×Obj)}{e:Value}(h:PN G Z {f with extra:=p::ex} r E e s):PN G Z {f with extra:=ex} r E e s:=by
 obtain ⟨hE,Z',B,fs',a,hz,ht,rfl,S,zB,ext,hB,ha,hF,hf⟩:=h
 obtain ⟨ρ'',rfl⟩:=bV ht
 have S':=S.st.AL (o:=p.2) (a:=p.1) (r:=ex) rfl
 refine ⟨hE,Z',B,_,a,hz, .inr ⟨_,_,ρ'',rfl,rfl⟩,rfl,S.move (t:=s.toks) S',zB,λg hg q hq=>?_,hB,ha,by rw [aJ] at hF ⊢;exact hF,hf⟩
 rcases List.mem_cons.mp hg with rfl|hg
 ·exact ext _ List.mem_cons_self q (List.mem_cons_of_mem _ hq)
 ·exact ext _ (List.mem_cons_of_mem _ hg) q hq
@[reducible] noncomputable def kFor (g nx:Hm->Ro->Prop)(rt:V->Hm->Prop):Kp:=⟨g,nx,g,rt⟩
noncomputable def fX (tg:V->Ro->Option Ro)(body:Hm->Ro->Kp->Prop)(nx:Hm->Ro->Prop)(rt:V->Hm->Prop):List V->Hm->Ro->Prop
 | [],η,ρ=>nx η ρ
 | x::l,η,ρ=>xX (tg x ρ) λρ1=>body η ρ1 (kFor (fX tg body nx rt l) nx rt)
theorem sb {prog:Program}{w:World}{R:Result->Shared->Prop}{target:PySem.Expr}{it:Value}{body orelse:List Stmt}{env:Env}(I:Nat->Shared->Prop)
  (turn:∀n s,I n s->wpAny (model prog w) A (pyNext it) (λr s₁=>match r with
   | none=>wpAny (model prog w) A (execs orelse env) (λf s₃=>R (.ok f) s₃) (notedBy (model prog w) A env λe s'=>R (.error e) s') s₁
   | some v=>wpAny (model prog w) A (letOwnedTupleGo target it v) (λξ s₀=>wpAny (model prog w) A (assign target env v) (λξ s₂=>wpAny (model prog w) A (execs body env) (λf s₃=>match f with
     | .next| .cont=>∃m,m<n/\I m s₃
     | .brk=>R (.ok .next) s₃
     | .ret v=>R (.ok (.ret v)) s₃) (notedBy (model prog w) A env λe s'=>R (.error e) s') s₂) (notedBy (model prog w) A env λe s'=>R (.error e) s') s₀) (notedBy (model prog w) A env λe s'=>R (.error e) s') s₁)
    (notedBy (model prog w) A env λe s'=>R (.error e) s') s)
  (n:Nat) (h:I n s):codeAny (model prog w) A (.forLoop target it body orelse env) R s:=by
 refine codeAny_loop' rfl I (λn s hI=>?_) n h
 refine (?_:wpAny _ _ ((forTurn target it body orelse env).onRaise (λx=>do noteFrame x env;theTreesLotGoes x)) _ _ s)
 refine wpAny_noted ?_
 simp only [forTurn]
 refine wpAny_bind (wpAny_standAt (wpAny_bind (wpAny_onRaise (wpAny_mono (turn n s hI) (λr s₁ h₁=>?_) λξ ξ h'=>wpAny_standAt h'))))
 cases r with
 | none=>exact wpAny_pure (.inr ⟨rfl,codeAny_block h₁⟩)
 | some v=>
  refine wpAny_bind (wpAny_mono h₁ (λξ s₀ h₀=>?_) λξ ξ h'=>h')
  refine wpAny_bind (wpAny_mono h₀ (λξ s₂ h₂=>wpAny_bind (wpAny_mono h₂ (λf s₃ h₃=>?_) λξ ξ h'=>h')) λξ ξ h'=>h')
  cases f with
  | next=>exact wpAny_pure (.inl ⟨rfl,h₃⟩)
  | cont=>exact wpAny_pure (.inl ⟨rfl,h₃⟩)
  | brk=>exact wpAny_pure h₃
  | ret v=>exact wpAny_pure h₃
set_option backward.match.sparseCases true in
theorem zL {target:PySem.Expr}{I:Addr}{v:Value}{o:Obj}{n:String}{R:Unit->Shared->Prop}{E':Value->Shared->Prop}(ho:s.heap.get? I=some o)(hc:o.cls= .type n)(hn:lH n=true)(q:R () s):
  wpAny (model G.prog G.w) A (letOwnedTupleGo target (.ref I) v) R E' s:=by
 have main:∀a:Addr,wpAny (model G.prog G.w) A (do
   let o <-load I
   match o.cls,o.data with
   | .type n, .fields vs=>
    if ["enumerate","zip","dict_itemiterator","dict_reverseitemiterator","odict_iterator","itertools.zip_longest","itertools.pairwise"].contains n&&vs[0]?==some (rawInt a) then
     rule "for.unpacks-the-owned-tuple"
     updateField I 0 .none
   | _,_=>pure ()) R E' s:=λa=>by
  refine wpAny_bind (wpAny_load ho ?_)
  refine rW hc ?_
  unfold lH at hn
  cases hd:o.data with
  | fields vs=>
   dsimp only
   refine rW (if_neg (by intro h;rw [Bool.and_eq_true] at h;rw [h.1] at hn;cases hn)) ?_
   exact wpAny_pure q
  | _=>exact wpAny_pure q
 have m2:wpAny (model G.prog G.w) A (letOwnedTupleGo (.Tuple [] 0 ⟨0,0,0,0⟩) (.ref I) v) R E' s:=by
  cases v with
  | ref a=>exact main a
  | _=>exact wpAny_pure q
 cases target with
 | Tuple=>exact m2
 | List=>exact m2
 | _=>exact wpAny_pure q
inductive Hs (G:Gc)(f:Fm)(r:List Fm)(items:List V)(I:Addr)(T:Nat->Heap->Prop)(tg:V->Ro->Option Ro)(bd:Hm->Ro->Kp->Prop)(K:Kp)(Z1:Heap)(m:Nat)(s:Shared):Prop
 | mk (Z2:Heap) (η:Hm) (ρ1:Ro) (j:Nat) (oI:Obj) (hj:m+j=items.length) (hz:Z1.StaysIn Z2) (hl:ρ1.length=f.ρ.length) (S:Sx G Z2 η ({f with ρ:=ρ1,extra:=(I,oI)::f.extra}::r) s) (hst:T j s.heap) (hq:fX tg bd K.nx K.rt (items.drop j) η ρ1)
theorem CK {f:Fm}{r:List Fm}{ρ:Ro}{target iter:PySem.Expr}{body:List Stmt}{pos:Pos}{tg:V->Ro->Option Ro}{bd:Hm->Ro->Kp->Prop}{K:Kp}
  (hA:A.handled=none) (hr:f.real=true) (hfr:A.frames=some (aT (f::r))) (hs:∀x,foldedSetIterable iter f.env x=pure x)
  (ht:∀ex X ρ ρ',tg X ρ=some ρ'->ρ.length=f.ρ.length->ρ'.length=ρ.length/\∀Z η s v (R:Unit->Shared->Prop) E',Sx G Z η ({f with ρ:=ρ,extra:=ex}::r) s->Rel G.w.params Z X v->(∀s',Sx G Z η ({f with ρ:=ρ',extra:=ex}::r) s'->R () s')->wpAny (model G.prog G.w) A (assign target f.env v) R E' s)
  (hb:∀ex η ρ K,bd η ρ K->ρ.length=f.ρ.length->WS G A {f with extra:=ex} r (execs body) η ρ K E)
  (hsrc:WV G A ({f with ρ:=ρ}::r) (eval iter f.env) η (λX η1=>yl X λitems=>fX tg bd K.nx K.rt items η1 ρ) E) (hl:ρ.length=f.ρ.length):
  WS G A f r (exec (.For target iter body [] pos)) η ρ K E:=λZ s S=>by
 refine wpAny_For (hsrc.run S λZ1 η1 X xv s1 hz S1 rx hq=>?_) hs
 obtain ⟨items,hi,hq⟩:=sq hq
 refine rJ hA S1 rx hi λT oI W hst hoI=>?_
 have S2:=S1.st.CE (aW s1.heap oI) (Nat.le_refl _) hoI
 generalize hI:s1.heap.objs.size=I at W hoI S2 ⊢
 have SS:Sx G Z1 η1 ({f with ρ:=ρ,extra:=(I,oI)::f.extra}::r) {s1 with heap:=s1.heap.push oI}:=S1.move (t:=s1.toks) S2
 have hst':T 0 ({s1 with heap:=s1.heap.push oI}:Shared).heap:=hst
 generalize ({s1 with heap:=s1.heap.push oI}:Shared)=s2 at SS hst' ⊢
 clear hst hoI S2 hI S1 rx
 have err:∀{ρ':Ro} {o:Obj} {e:Value} {s':Shared} {Z':Heap},Z.StaysIn Z'->PX G Z' ({f with ρ:=ρ',extra:=(I,o)::f.extra}::r) E e s'->
   notedBy (model G.prog G.w) A f.env (λe s'=>cameBackBy (model G.prog G.w) A f.env (PX G Z ({f with ρ:=ρ}::r) E) e s') e s':=λ{ρ' o e s' Z'} hz' h=>by
  refine ta (f:={f with ρ:=ρ',extra:=(I,o)::f.extra}) (r:=r) hr (by rw [aJ] at hfr ⊢;exact hfr) h λs'' hn=>?_
  exact vH (f:={f with ρ:=ρ}) hr ((PN.mf (ρ:=ρ) (PN.CF (f:={f with ρ:=ρ'}) hn)).weak hz')
 refine sb (I:=Hs G f r items I T tg bd K Z1) ?_ items.length ⟨Z1,η1,ρ,0,oI,rfl,StaysIn.refl _,hl,SS,hst',by simpa using hq⟩
 clear SS hst' hq
 rintro m s3 ⟨Z3,η3,ρ3,j,o3,hj,hz3,hl3,S3,hst3,hq⟩
 clear hi
 cases hx:items[j]? with
 | none=>
  have hjl:j=items.length:=by
   have:=List.getElem?_eq_none_iff.mp hx
   exact Nat.le_antisymm (lA (eL hj)) (lA this)
  clear hx hj;subst hjl
  rw [List.drop_length] at hq
  refine W.done s3 _ _ hst3 λh' tk kk=>?_
  have S':=S3.st.z' (f:={f with ρ:=ρ3,extra:=(I,o3)::f.extra}) rfl kk
  exact wpAny_execs_nil ⟨Z3,η3,ρ3,StaysIn.trans hz hz3,by exact rW hl3 (rW hl rfl),S3.move S',hq⟩
 | some X=>
  have hlt:j<items.length:=(List.getElem?_eq_some_iff.mp hx).1
  rw [List.drop_eq_getElem_cons hlt,(List.getElem?_eq_some_iff.mp hx).2] at hq
  obtain ⟨ρ4,htg,hq⟩:=iX hq
  refine W.item j s3 _ _ X hx hst3 λv h' tk rv hst' kk=>?_
  obtain ⟨o4,n4,ho4,hc4,hn4⟩:=W.there _ _ hst'
  have S4:=S3.move (t:=tk) (S3.st.AK (f:={f with ρ:=ρ3,extra:=(I,o3)::f.extra}) rfl kk ho4)
  dsimp only
  refine zL ho4 hc4 hn4 ?_
  obtain ⟨hl4,hstore⟩:=ht ((I,o4)::f.extra) X ρ3 ρ4 htg hl3
  refine hstore Z3 η3 _ v _ _ S4 (rv.mono hz3) λs5 S5=>?_
  have Sz:=S4.st.z
  have hI5:=(S5.st.f _ List.mem_cons_self).ext (I,o4) List.mem_cons_self
  have hst5:=W.frame (j+1) h' s5.heap o4 hst' (StaysIn.trans hz3 Sz) ho4 hI5 (StaysIn.trans hz3 S5.st.z)
  have hbd:=hb ((I,o4)::f.extra) η3 ρ4 _ hq (by (simp only [*])) Z3 s5 S5
  refine wpAny_mono hbd (λfl s6 h6=>?_) λe s6 h6=>err (StaysIn.trans hz hz3) h6
  obtain ⟨Z6,η6,ρ6,hz6,hl6,S6,q6⟩:=h6
  have hl6:ρ6.length=f.ρ.length:=by simp only at hl6;(simp only [*])
  have hI6:=(S6.st.f _ List.mem_cons_self).ext (I,o4) List.mem_cons_self
  have hst6:=W.frame (j+1) s5.heap s6.heap o4 hst5 (StaysIn.trans hz3 S5.st.z) hI5 hI6 (StaysIn.trans hz3 (StaysIn.trans hz6 S6.st.z))
  have fin:=S6.st.AL (f:={f with ρ:=ρ6,extra:=(I,o4)::f.extra}) rfl
  cases fl with
  | next=>exact ⟨m-1,(mj hj hlt).2,Z6,η6,ρ6,j+1,o4,(mj hj hlt).1,StaysIn.trans hz3 hz6,hl6,S6,hst6,q6⟩
  | cont=>exact ⟨m-1,(mj hj hlt).2,Z6,η6,ρ6,j+1,o4,(mj hj hlt).1,StaysIn.trans hz3 hz6,hl6,S6,hst6,q6⟩
  | brk=>exact ⟨Z6,η6,ρ6,StaysIn.trans hz (StaysIn.trans hz3 hz6),by exact rW hl6 (rW hl rfl),S6.move (t:=s6.toks) fin,q6⟩
  | ret v=>exact ⟨Z6,η6,ρ6,StaysIn.trans hz (StaysIn.trans hz3 hz6),by exact rW hl6 (rW hl rfl),S6.move (t:=s6.toks) fin,q6⟩
noncomputable def yx (c:Hm->Ro->(Bool->Hm->Prop)->Prop)(bd:Hm->Ro->Kp->Prop)(K:Kp)(η:Hm)(ρ:Ro):Prop:=
 ∃(I:Nat->Hm->Ro->Prop) (n:Nat),I n η ρ/\∀n η ρ,I n η ρ->c η ρ (λb η1=>if b then bd η1 ρ ⟨λη ρ=>∃m,m<n/\I m η ρ,K.nx,λη ρ=>∃m,m<n/\I m η ρ,K.rt⟩ else K.nx η1 ρ)
inductive Hp (G:Gc)(f:Fm)(r:List Fm)(I:Nat->Hm->Ro->Prop)(Z:Heap)(m:Nat)(s:Shared):Prop
 | mk (Z1:Heap) (η:Hm) (ρ1:Ro) (hz:Z.StaysIn Z1) (hl:ρ1.length=f.ρ.length) (S:Sx G Z1 η ({f with ρ:=ρ1}::r) s) (hI:I m η ρ1)
theorem yz {f:Fm}{r:List Fm}{ρ:Ro}{test:PySem.Expr}{body:List Stmt}{pos:Pos}{c:Hm->Ro->(Bool->Hm->Prop)->Prop}{bd:Hm->Ro->Kp->Prop}{K:Kp}
  (hr:f.real=true) (hfr:A.frames=some (aT (f::r)))
  (hc:∀η ρ Q,c η ρ Q->ρ.length=f.ρ.length->WB G A ({f with ρ:=ρ}::r) (isTrue test f.env (eval test f.env)) η Q E)
  (hb:∀η ρ K,bd η ρ K->ρ.length=f.ρ.length->WS G A f r (execs body) η ρ K E) (hl:ρ.length=f.ρ.length) (hq:yx c bd K η ρ):
  WS G A f r (exec (.While test body [] pos)) η ρ K E:=λZ s S=>by
 obtain ⟨I,n,hI,step⟩:=hq
 refine wpAny_While ?_
 have err:∀{ρ':Ro} {e:Value} {s':Shared} {Z':Heap},Z.StaysIn Z'->PX G Z' ({f with ρ:=ρ'}::r) E e s'->
   notedBy (model G.prog G.w) A f.env (λe s'=>cameBackBy (model G.prog G.w) A f.env (PX G Z ({f with ρ:=ρ}::r) E) e s') e s':=λ{ρ' e s' Z'} hz' h=>by
  refine ta (f:={f with ρ:=ρ'}) (r:=r) hr (by rw [aJ] at hfr ⊢;exact hfr) h λs'' hn=>?_
  exact vH (f:={f with ρ:=ρ}) hr ((PN.mf (ρ:=ρ) hn).weak hz')
 refine codeAny_whileLoop (I:=Hp G f r I Z) ?_ n ⟨Z,η,ρ,StaysIn.refl Z,hl,S,hI⟩
 rintro m s1 ⟨Z1,η1,ρ1,hz1,hl1,S1,h1⟩
 refine wpAny_mono (hc η1 ρ1 _ (step m η1 ρ1 h1) hl1 Z1 s1 S1) (λb s2 h2=>?_) λe s2 h2=>err hz1 h2
 obtain ⟨Z2,η2,hz2,S2,q2⟩:=h2
 cases b with
 | false=>exact wpAny_execs_nil ⟨Z2,η2,ρ1,StaysIn.trans hz1 hz2,by exact rW hl1 (rW hl rfl),S2,by simpa [fK] using q2⟩
 | true=>
  simp only [if_true] at q2 ⊢
  refine wpAny_mono (hb η2 ρ1 _ q2 hl1 Z2 s2 S2) (λfl s3 h3=>?_) λe s3 h3=>err (StaysIn.trans hz1 hz2) h3
  obtain ⟨Z3,η3,ρ3,hz3,hl3,S3,q3⟩:=h3
  have hl3:ρ3.length=f.ρ.length:=by simp only at hl3;(simp only [*])
  have hz:=StaysIn.trans hz1 (StaysIn.trans hz2 hz3)
  cases fl with
  | next=>obtain ⟨k,hk,q3⟩:=q3;exact ⟨k,hk,Z3,η3,ρ3,hz,hl3,S3,q3⟩
  | cont=>obtain ⟨k,hk,q3⟩:=q3;exact ⟨k,hk,Z3,η3,ρ3,hz,hl3,S3,q3⟩
  | brk=>exact ⟨Z3,η3,ρ3,hz,by exact rW hl3 (rW hl rfl),S3,q3⟩
  | ret v=>exact ⟨Z3,η3,ρ3,hz,by exact rW hl3 (rW hl rfl),S3,q3⟩
end
section
set_option backward.match.sparseCases true
section
variable {G:Gc}{A:Around}{η:Hm}{E:Prop}{Z:Heap}{s:Shared}
theorem qV {ko:Str->Option NameKind}:∀{bs:List (Str×Value)} {m:Str->Option Value} {x:Str},x∉bs.map (·.1)->bindL ko bs m x=m x:=by
 intro L_
 induction L_ with
 | nil=>
  intro m x _
  exact rfl
 | cons p_ r ih=>
  intro m x h
  obtain ⟨n,v⟩:=p_
  rw [List.map_cons,List.mem_cons,not_or] at h
  simp only [bindL]
  refine rW (ih h.2) ?_
  split
  ·exact if_neg h.1
  ·rfl
theorem qW {ko:Str->Option NameKind}:∀{bs:List (Str×Value)} {m:Str->Option Value} {x:Str},x∉bs.map (·.1)->bindC ko bs m x=m x:=by
 intro L_
 induction L_ with
 | nil=>
  intro m x _
  exact rfl
 | cons p_ r ih=>
  intro m x h
  obtain ⟨n,v⟩:=p_
  rw [List.map_cons,List.mem_cons,not_or] at h
  simp only [bindC]
  refine rW (ih h.2) ?_
  split
  ·rfl
  ·exact if_neg h.1
theorem vg {ko:Str->Option NameKind}:∀{bs:List (Str×Value)} {m:Str->Option Value} {x:Str} {v:Value},(x,v)∈bs->(bs.map (·.1)).Nodup->ko x=some .local->bindL ko bs m x=some v:=by
 intro bs
 induction bs with
 | nil=>intro m x v h;cases h
 | cons p r ih=>
  intro m x v h nd hk
  obtain ⟨n,u⟩:=p
  rw [List.map_cons,List.nodup_cons] at nd
  simp only [bindL]
  rcases List.mem_cons.mp h with q|h
  ·clear h;cases q
   rw [qV nd.1,if_pos hk];simp
  ·exact ih h nd.2 hk
theorem vj {ko:Str->Option NameKind}:∀{bs:List (Str×Value)} {m:Str->Option Value} {x:Str} {v:Value},(x,v)∈bs->(bs.map (·.1)).Nodup->ko x=some .cell->bindC ko bs m x=some v:=by
 intro bs
 induction bs with
 | nil=>intro m x v h;cases h
 | cons p r ih=>
  intro m x v h nd hk
  obtain ⟨n,u⟩:=p
  rw [List.map_cons,List.nodup_cons] at nd
  simp only [bindC]
  rcases List.mem_cons.mp h with q|h
  ·clear h;cases q
   rw [qW nd.1,if_neg (by refine rW hk ?_;simp)];simp
  ·exact ih h nd.2 hk
theorem yp:∀{names:List (Str×NameKind)} {n:Nat} {acc:List (Str×Addr)} {p:Str×Addr},p∈cellsFrom n names acc->p∈acc\/p.1∈names.map (·.1):=by
 intro L_
 induction L_ with
 | nil=>
  intro n acc p h
  exact .inl h
 | cons p_ r ih=>
  intro n acc p h
  obtain ⟨y,k⟩:=p_
  simp only [cellsFrom] at h
  split at h
  ·rcases ih h with q|q
   ·clear h;rcases List.mem_cons.mp q with rfl|q
    ·exact .inr (by simp)
    ·exact .inl q
   ·exact .inr (List.mem_cons_of_mem _ q)
  ·rcases ih h with q|q
   ·exact .inl q
   ·exact .inr (List.mem_cons_of_mem _ q)
theorem ly:∀{names:List (Str×NameKind)} {n:Nat} {acc:List (Str×Addr)},(names.map (·.1)).Nodup->(acc.map (·.1)).Nodup->(∀p∈acc,p.1∉names.map (·.1))->((cellsFrom n names acc).map (·.1)).Nodup:=by
 intro L_
 induction L_ with
 | nil=>
  intro n acc _ h _
  exact h
 | cons p_ r ih=>
  intro n acc nd h d
  obtain ⟨y,k⟩:=p_
  rw [List.map_cons,List.nodup_cons] at nd
  simp only [cellsFrom]
  split
  ·refine ih nd.2 ?_ λp hp=>?_
   ·rw [List.map_cons,List.nodup_cons]
    refine ⟨λq=>?_,h⟩
    obtain ⟨p,hp,e⟩:=List.mem_map.mp q
    exact d p hp (by refine rW List.map_cons ?_;exact List.mem_cons.mpr (.inl e))
   ·rcases List.mem_cons.mp hp with rfl|hp
    ·exact nd.1
    ·exact λq=>d p hp (List.mem_cons_of_mem _ q)
  ·exact ih nd.2 h λp hp q=>d p hp (List.mem_cons_of_mem _ q)
theorem iD {α:Type}{cs:List (Str×α)}(nd:(cs.map (·.1)).Nodup){p:Str×α}(h:p∈cs):cs.lookup p.1=some p.2:=by
 induction cs with
 | nil=>cases h
 | cons q cs ih=>
  obtain ⟨n,d⟩:=q
  rw [List.map_cons,List.nodup_cons] at nd
  refine rW List.lookup_cons ?_
  rcases List.mem_cons.mp h with rfl|h
  ·simp
  ·have:(p.1==n)=false:=by
    rw [beq_eq_false_iff_ne];intro q;exact nd.1 (by refine rV q ?_;exact List.mem_map_of_mem (f:=(·.1)) h)
   refine rW this ?_;exact ih nd.2 h
theorem fZ:∀{names:List (Str×NameKind)} {n:Nat} {acc:List (Str×Addr)} {x:Str},(∃a,(x,a)∈acc)->∃a,(x,a)∈cellsFrom n names acc
 | [],n,acc,x,h=>h
 | (y,k)::r,n,acc,x,⟨a,h⟩=>by
  simp only [cellsFrom]
  split
  ·exact fZ ⟨a,List.mem_cons_of_mem _ h⟩
  ·exact fZ ⟨a,h⟩
theorem gK:∀{names:List (Str×NameKind)} {n:Nat} {acc:List (Str×Addr)} {x:Str},(x,NameKind.cell)∈names->∃a,(x,a)∈cellsFrom n names acc
 | (y,k)::r,n,acc,x,h=>by
  simp only [cellsFrom]
  rcases List.mem_cons.mp h with q|h
  ·clear h;cases q
   refine rW (if_pos (by rfl)) ?_
   exact fZ ⟨n,List.mem_cons_self⟩
  ·split<;>exact gK h
theorem fW {α:Type}{cs:List (Str×α)}{x:Str}{a:α}(h:(x,a)∈cs):(cs.lookup x).isSome=true:=by
 cases e:cs.lookup x with
 | some _=>rfl
 | none=>exact absurd (List.lookup_eq_none_iff.mp e (x,a) h) (by simp)
structure sX (K:Frag)(fa:Addr)(fd:FuncData)(body:List Stmt)(ps:List Str)(vars:List (Nat×Str))(N:Nat):Prop where
 at_:∃o,K.lookup fa=some o/\o.data= .func fd
 code:codeIn K fd.code fd.qualname=true
 body:fd.body= .stmts body
 Hl:fd.closure= []
 co:fd.scope.isCoroutine=false
 gen:fd.scope.isGenerator=false
 kind:fd.scope.kind= .function
 glob:fd.globals=mainGlobals
 blt:fd.builtins=builtinsNs
 names:(fd.scope.names.map (·.1)).Nodup
 params:∀x∈ps,fd.scope.names.lookup x=some .local\/fd.scope.names.lookup x=some .cell
 EJ:ps.Nodup
 inj:∀p∈vars,∀q∈vars,p.1=q.1 ↔ p.2=q.2
 first:∀(i:Nat) (x:Str),(i,x)∈vars->i<ps.length->ps[i]?=some x
 num:ps.length<=N
@[irreducible] noncomputable def ah (G:Gc)(n:Nat)(fv:Value)(args:List V)(η:Hm)(Q:V->Hm->Prop)(E:Prop):Prop:=
 ∀A fs,gA A fs n->∀Z s vals,Sx G Z η fs s->ar G.w.params Z args vals->codeAny (model G.prog G.w) A (.call fv ⟨vals,[]⟩) (λr s'=>match r with| .ok (.ret v)=>PV G Z fs Q v s'| .ok _=>False| .error e=>PX G Z fs E e s') s
theorem ah.run {n:Nat}{fv:Value}{args:List V}{Q:V->Hm->Prop}{fs:List Fm}{vals:List Value}(h:ah G n fv args η Q E)(hA:gA A fs n)(S:Sx G Z η fs s)(r:ar G.w.params Z args vals):
  wpAny (model G.prog G.w) A (call fv vals) (PV G Z fs Q) (PX G Z fs E) s:=by unfold ah at h;exact wpAny_call (h A fs hA Z s vals S r)
theorem gA.deeper {f:Fm}{fs:List Fm}{n:Nat}(h:gA A fs (n+1))(hr:f.real=true):gA (A.deeper f.env) (f::fs) n:=by
 obtain ⟨h1,h2,h3,h4,h5⟩:=h
 refine ⟨h1,?_,h3,?_,?_⟩
 ·refine (?_:A.frames.map (f.env::·)=_)
  refine rW h2 (rW (aJ ..) (rW hr ?_));rfl
 ·refine (?_:A.depth+1+2*n<=600)
  exact lA h4
 ·refine (?_:A.units+3+12*n<=5000)
  exact lA h5
theorem gA.down {fs:List Fm}{n m:Nat}(h:gA A fs n)(hm:m<=n):gA A fs m:=⟨h.1,h.2,h.3,by have:=h.4;exact lB this (Nat.mul_le_mul_left 2 hm),by have:=h.5;exact lB this (Nat.mul_le_mul_left 12 hm)⟩
theorem ah.up {n m:Nat}{fv:Value}{args:List V}{Q:V->Hm->Prop}(h:ah G n fv args η Q E)(hm:n<=m):ah G m fv args η Q E:=by unfold ah at*;exact λA fs hA=>h A fs (hA.down hm)
noncomputable def kq (fd:FuncData)(L fa:Addr)(vars:List (Nat×Str))(ρ:Ro):Fm:={env:=callEnvC fd L fa,real:=true,vars:=vars,ρ:=ρ,extra:= []}
theorem ar.get' {P:Params}{Z:Heap}{l:List V}{vs:List Value}(h:ar P Z l vs){i:Nat}{v:Value}(e:vs[i]?=some v):∃x,l[i]?=some x/\Rel P Z x v:=by
 have hl:=h.length
 have hi:i<l.length:=by have:=(List.getElem?_eq_some_iff.mp e).1;exact ka ‹_› (by exact lA (eL hl))
 obtain ⟨v',h1,h2⟩:=h.get (List.getElem?_eq_getElem hi)
 rw [e] at h1;cases h1
 exact ⟨_,List.getElem?_eq_getElem hi,h2⟩
theorem j6 {fa:Addr}{fd:FuncData}{body:List Stmt}{ps:List Str}{vars:List (Nat×Str)}{N n:Nat}{args dargs:List V}{Q:V->Hm->Prop}(F:sX G.K fa fd body ps vars N)
  (hbind:∀Z s vals,Sx G Z η [] s->ar G.w.params Z args vals->∃binds,BindsTo s fd ⟨vals,[]⟩ binds/\binds.map (·.1)=ps/\ar G.w.params Z (args++dargs) (binds.map (·.2)))
  (hlen:(args++dargs).length=ps.length)
  (hb:∀A L r,gA A (kq fd L fa vars ((args++dargs).map some++List.replicate (N-ps.length) none)::r) n->
   WS G A (kq fd L fa vars ((args++dargs).map some++List.replicate (N-ps.length) none)) r (execs body) η ((args++dargs).map some++List.replicate (N-ps.length) none) ⟨λη ξ=>Q .none η,λξ ξ=>False,λξ ξ=>False,Q⟩ E):
  ah G (n+1) (.ref fa) args η Q E:=by
 unfold ah
 intro A fs hA Z s vals S rv
 obtain ⟨o,hK,hd⟩:=F.at_
 have X:=S.bs.k.keeps S.st.z
 obtain ⟨binds,hB,hB1,hB2⟩:=hbind Z s vals ⟨⟨S.st.z,S.st.e,(λf hf=>nomatch hf),(λa ha=>nomatch ha),List.nodup_nil,trivial⟩,S.bs,S.gens,S.os⟩ rv
 have hroom:A.depth<recursionLimit:=by
  have h4:=hA.depth
  have:A.depth<1000:=by exact lA h4
  exact this
 have nd:(binds.map (·.1)).Nodup:=by refine rW hB1 ?_;exact F.EJ
 have hkind:∀x∈binds,fd.scope.names.lookup x.1=some .local\/(fd.scope.names.lookup x.1=some .cell/\((cellsFrom (s.heap.objs.size+1) fd.scope.names []).lookup x.1).isSome=true):=λx hx=>by
  rcases F.params x.1 (by refine rV hB1 ?_;exact List.mem_map_of_mem hx) with h|h
  ·exact .inl h
  ·obtain ⟨a,ha⟩:=gK (n:=s.heap.objs.size+1) (acc:= []) (mem_of_lookup h)
   exact .inr ⟨h,fW ha⟩
 refine codeAny_call_function hroom (X _ _ hK) hd F.co F.gen F.body (codeRec_of X F.code) (hB _ _ _ _ ?_)
 refine rW F.Hl ?_
 refine wpAny_newFunctionEnv_cells F.kind hkind λenv he s1 x=>?_
 have he':env=callEnvC fd s.heap.objs.size fa:=he
 clear he
 subst he'
 have hlim:s1.heap.NoLimit:=(S.bs.lim.keeps S.st.z).keeps x.toInCall.keep
 refine ⟨hlim,codeAny_func ?_⟩
 obtain ⟨h1,tk,hs1⟩:=x.toInCall.same
 let ρ0:Ro:=(args++dargs).map some++List.replicate (N-ps.length) none
 have hcn:=ly (n:=s.heap.objs.size+1) (acc:= []) F.names (by simp) (by simp)
 have hcells:∀p∈(callEnvC fd s.heap.objs.size fa).cells,(callEnvC fd s.heap.objs.size fa).cells.lookup p.1=some p.2:=λp hp=>iD hcn hp
 have FO:iZ G.w.params Z s1.heap (kq fd s.heap.objs.size fa vars ρ0):=by
  refine ⟨⟨_,x.toInCall.ns,λi y Y hm hy=>?_⟩,λp hp=>⟨_,x.cell p.1 p.2 (hcells p hp)⟩,F.kind,λξ=>rfl,F.inj,F.glob,F.blt,(λp hp=>nomatch hp),λy hy=>?_⟩
  ·have hy':((args++dargs).map some++List.replicate (N-ps.length) none)[i]?=some (some Y):=hy
   have hi:i<ps.length:=by
    rcases Nat.lt_or_ge i ps.length with h|h
    ·exact h
    ·rw [List.getElem?_append_right (by refine rW (List.length_map ..) (rW hlen ?_);exact h)] at hy'
     obtain ⟨h2,h3⟩:=List.getElem?_eq_some_iff.mp hy'
     simp at h3
   rw [List.getElem?_append_left (by refine rW (List.length_map ..) (rW hlen ?_);exact hi),List.getElem?_map] at hy'
   clear hy;obtain ⟨Y',hy1,hy2⟩:=Option.map_eq_some_iff.mp hy'
   simp only [Option.some.injEq] at hy2;subst hy2
   obtain ⟨v,hv,rv'⟩:=hB2.get hy1
   have hpi:=F.first i y hm hi
   have hbi:∃b,binds[i]?=some b/\b=(y,v):=by
    rw [<-hB1,List.getElem?_map] at hpi
    obtain ⟨b,e1,e2⟩:=Option.map_eq_some_iff.mp hpi
    rw [List.getElem?_map,e1] at hv
    simp only [Option.map_some,Option.some.injEq] at hv
    exact ⟨b,e1,by exact rV e2 (rV hv rfl)⟩
   obtain ⟨b,hb1,rfl⟩:=hbi
   have hmem:=List.mem_of_getElem? hb1
   rcases F.params y (List.mem_of_getElem? hpi) with h|h
   ·exact .inl ⟨h,v,vg hmem nd h,rv'⟩
   ·obtain ⟨c,hc⟩:=Option.isSome_iff_exists.mp ((hkind _ hmem).resolve_left (by refine rW h ?_;simp)).2
    refine .inr ⟨h,c,v,hc,?_,rv'⟩
    have:=x.cell y c hc
    rw [vj hmem nd h] at this
    exact this
  ·obtain ⟨a,ha⟩:=gK (n:=s.heap.objs.size+1) (acc:= []) (mem_of_lookup hy)
   exact fW ha
 have hfresh:=x.toInCall.fresh
 have S1:Sx G Z η (kq fd s.heap.objs.size fa vars ρ0::fs) s1:=by
  have Sp:St G.w.params Z η (kq fd s.heap.objs.size fa vars ρ0::fs) s1.heap:=by
   refine S.st.push x.toInCall.keep FO (λa ha=>?_) ?_ λp hp=> .inl rfl
   ·unfold Fm.own Fm.core at ha
    simp only [kq,if_true,List.map_nil,List.append_nil] at ha
    rcases List.mem_cons.mp ha with rfl|ha
    ·exact hfresh
    ·obtain ⟨p,hp,rfl⟩:=List.mem_map.mp ha
     exact Nat.le_of_lt (Nat.lt_of_le_of_lt hfresh (x.above p.1 p.2 hp))
   ·unfold Fm.own Fm.core
    simp only [kq,if_true,List.map_nil,List.append_nil]
    rw [List.nodup_cons]
    refine ⟨λq=>?_,?_⟩
    ·obtain ⟨p,hp,e⟩:=List.mem_map.mp q
     exact Nat.ne_of_lt (x.above p.1 p.2 hp) e.symm
    ·exact List.pairwise_map.mpr x.apart
  rw [hs1] at Sp ⊢
  exact S.move Sp
 have hA':gA (A.deeper (callEnvC fd s.heap.objs.size fa)) (kq fd s.heap.objs.size fa vars ρ0::fs) n:=gA.deeper (f:=kq fd s.heap.objs.size fa vars ρ0) hA rfl
 refine wpAny_mono (hb _ _ fs hA' Z s1 S1) (λfl s2 h2=>?_) λe s2 h2=>?_
 ·obtain ⟨Z2,η2,ρ2,hz2,hl2,S2,q2⟩:=h2
  have S3:Sx G Z2 η2 fs s2:=⟨S2.st.pop,S2.bs,S2.gens,S2.os⟩
  cases fl with
  | next=>exact ⟨Z2,η2, .none,hz2,S3,gF,q2⟩
  | brk=>exact q2.elim
  | cont=>exact q2.elim
  | ret v=>obtain ⟨Y,r2,q2⟩:=q2;exact ⟨Z2,η2,Y,hz2,S3,r2,q2⟩
 ·exact yw (f:=kq fd s.heap.objs.size fa vars ρ0) rfl (λξ=>rfl) hA'.frames h2
theorem ik {C fi:Addr}{n:Nat}{args:List V}{Q:V->Hm->Prop}(hm:makesIn G.K C=true)(hi:findIn G.K (.ref C) "__init__"=some (some (.ref fi)))(hf:typeIn G.K (.ref fi)=some (.type "function"))
  (h:∀x dx,η x=none->η dx=none->x≠dx->ah G n (.ref fi) (.ref x::args) (upd (upd η dx (.aZ [] [])) x (.inst C dx)) (λX η'=>X= .none/\Q (.ref x) η') E):
  ah G (n+1) (.ref C) args η Q E:=by
 unfold ah at*
 intro A fs hA Z s vals S rv
 obtain ⟨h0,g,d,t,os⟩:=s
 have X:=S.bs.k.keeps S.st.z
 refine make_core (makes_of X hm) (looks_findIn X hi) (λself=>bind_fn X self hf) (.inl rfl) ?_
 have k1:=aW h0 emptyDict
 have k2:=aW (h0.push emptyDict) (instObj C h0.objs.size)
 have e1:η h0.objs.size=none:=S.st.cV (Nat.le_refl _)
 have e2:η (h0.objs.size+1)=none:=S.st.cV (Nat.le_succ _)
 have hne:h0.objs.size+1≠h0.objs.size:=Nat.succ_ne_self _
 have S1:St G.w.params Z (upd η h0.objs.size (.aZ [] [])) fs (h0.push emptyDict):=S.st.new k1 (Nat.le_refl _) (x':= .aZ [] []) ⟨[],0,Heap.get?_push_size _ rfl,trivial,rfl⟩
 have sz:(h0.push emptyDict).objs.size=h0.objs.size+1:=Heap.size_push _ _
 have S2:St G.w.params Z (upd (upd η h0.objs.size (.aZ [] [])) (h0.objs.size+1) (.inst C h0.objs.size)) fs ((h0.push emptyDict).push (instObj C h0.objs.size)):=
  S1.new k2 (Nat.le_of_eq sz) (x':= .inst C h0.objs.size) ⟨_,by rw [<-sz];exact Heap.get?_push_size _ rfl,rfl,rfl,rfl⟩
 have SS:Sx G Z (upd (upd η h0.objs.size (.aZ [] [])) (h0.objs.size+1) (.inst C h0.objs.size)) fs ⟨(h0.push emptyDict).push (instObj C h0.objs.size),g,d,t,os⟩:=S.move (t:=t) S2
 have hA1:gA (A.under (.builtin "type.__call__" ⟨.ref C::vals,[]⟩)) fs n:=by
  obtain ⟨a1,a2,a3,a4,a5⟩:=hA
  refine ⟨a1,a2,a3,?_,?_⟩
  ·refine (?_:A.depth+1+2*n<=600)
   exact lA a4
  ·refine (?_:A.units+(1+3*0)+12*n<=5000)
   exact lA a5
 have hc:=h (h0.objs.size+1) h0.objs.size e2 e1 hne _ fs hA1 Z _ (.ref (h0.objs.size+1)::vals) SS (⟨_,_,rfl,iR,rv⟩)
 refine codeAny_mono hc λr s' hr=>?_
 match r,hr with
 | .ok (.ret v),⟨Z',η',X,a,b,c,d,q⟩=>
  subst d
  exact ⟨of_none c,Z',η', .ref (h0.objs.size+1),a,b,iR,q⟩
 | .error e,x=>exact x
end
end
noncomputable def lO (o:Operator)(x y:V)(η:Hm)(Q:V->Hm->Prop):Prop:=
 match o with
 | .Add=>(match x with
  | .int a=>eh y λb=>Q (.int (a+b)) η
  | .str a=>q9 y λb=>a.length+b.length<=sizeLine/\Q (.str (a++b)) η
  | .ref a=>∃l,η a=some (.list l)/\jV η y λl2=>l.length+l2.length<=sizeLine/\Q (.ref a) (upd η a (.list (l++l2)))
  | _=>False)
 | .Sub=>eh x λa=>eh y λb=>Q (.int (a-b)) η
 | .FloorDiv=>eh x λa=>eh y λb=>(b≠0/\Builtin.divisionGoesByPylong a b=false)/\Q (.int (a.fdiv b)) η
 | .Mod=>eh x λa=>eh y λb=>b≠0/\Q (.int (a.fmod b)) η
 | .BitOr=>eh x λa=>eh y λb=>Q (.int (Builtin.bitOr a b)) η
 | _=>False
noncomputable def ru (x i y:V)(η:Hm)(Q:Hm->Prop):Prop:=
 wK x λa=>eh i λk=>∃l,η a=some (.list l)/\0<=k/\k<l.length/\l.length<2^62/\Q (upd η a (.list (l.set k.toNat y)))
noncomputable def vC:Bi->Str
 | .append=>"append"| .extend=>"extend"| .pop=>"pop"| .index=>"index"| .reverse=>"reverse"
 | .find=>"find"| .isalpha=>"isalpha"| .join=>"join"| .rstrip=>"rstrip"
 | _=>""
noncomputable def mK:Bi->Option Bool
 | .find=>some true
 | .isalpha=>some true
 | .join=>some true
 | .rstrip=>some true
 | .append=>some false
 | .extend=>some false
 | .pop=>some false
 | .index=>some false
 | .reverse=>some false
 | _=>none
noncomputable def EW (b:Bi)(X:V)(η:Hm)(P:Prop):Prop:=match mK b with
 | none=>False
 | some c=>(match c with
  | true=>q9 X λξ=>P
  | false=>jV η X λξ=>P)
noncomputable def m7 (x:V)(η:Hm)(Q:V->Hm->Prop):Prop:=
 wK x λa=>(∃l,η a=some (.list l)/\Q (.lst l) (era η a))\/∃C dx ks vs,η a=some (.inst C dx)/\η dx=some (.aZ ks vs)/\Q (.obj C ks vs) (era (era η a) dx)
section
variable {G:Gc}{A:Around}{fs:List Fm}{η:Hm}{E:Prop}{Z:Heap}{s:Shared}{Q:V->Hm->Prop}
set_option tactic.hygienic true in
theorem wi {o:Operator}{x y:V}{va vb:Value}(S:Sx G Z η fs s)(ra:Rel G.w.params Z x va)(rb:Rel G.w.params Z y vb)(q:lO o x y η Q):
  wpAny (model G.prog G.w) A (inplaceOp o va vb) (PV G Z fs Q) (PX G Z fs E) s:=by
 cases o
 case Add=>
  cases x
  case int a=>obtain ⟨t,rfl⟩:=aY ra;obtain ⟨b,u,rfl,q⟩:=aE q rb;exact PyProof.Rows.iadd_int (pv (S.tok _) bh q)
  case str a=>obtain ⟨t,rfl⟩:=aX ra;obtain ⟨b,u,rfl,q⟩:=gU q rb;exact PyProof.Rows.iadd_str (λξ ξ=>pv (S.tok _) ix q.2) q.1
  case ref a=>
   obtain rfl:=fR ra
   obtain ⟨l,e,q⟩:=q
   obtain ⟨l2,e2,hs,q⟩:=cR q
   exact qX S e rb e2 hs q
  all_goals exact q.elim
 case Sub=>obtain ⟨a,t,rfl,q⟩:=aE q ra;obtain ⟨b,u,rfl,q⟩:=aE q rb;exact PyProof.Rows.isub_int (pv (S.tok _) bh q)
 case FloorDiv=>obtain ⟨a,t,rfl,q⟩:=aE q ra;obtain ⟨b,u,rfl,q⟩:=aE q rb;exact ifloordiv_int q.1.1 (pv (S.tok _) bh q.2) (.inl q.1.2)
 case Mod=>obtain ⟨a,t,rfl,q⟩:=aE q ra;obtain ⟨b,u,rfl,q⟩:=aE q rb;exact imod_int q.1 (pv (S.tok _) bh q.2)
 case BitOr=>obtain ⟨a,t,rfl,q⟩:=aE q ra;obtain ⟨b,u,rfl,q⟩:=aE q rb;exact ior_int (pv (S.tok _) bh q)
 all_goals exact q.elim
theorem Ai {x i y:V}{vx vi vy:Value}{Q:Hm->Prop}{R:Unit->Shared->Prop}{E':Value->Shared->Prop}(S:Sx G Z η fs s)(rx:Rel G.w.params Z x vx)(ri:Rel G.w.params Z i vi)(ry:Rel G.w.params Z y vy)(h:ru x i y η Q)
  (k:∀η' s',Sx G Z η' fs s'->Q η'->R () s'):wpAny (model G.prog G.w) A (setItem vx vi vy) R E' s:=by
 ·obtain ⟨a,rfl,h⟩:=kO h rx
  obtain ⟨kk,t,rfl,l,e,h0,h1,h2,q⟩:=aE h ri
  obtain ⟨items,n,g1,g2,hl,kk'⟩:=hM S e
  have hl':=iV g1
  unfold setItem
  refine wpAny_holding ?_
  refine wpAny_bind (wpAny_sequenceKey hl'.typeIs (by decide) ?_)
  refine wpAny_bind (wpAny_callSpecial?_slot (name:=Str.ofString "__setitem__") hl'.typeIs PySem.slot_list_setitem
   (wpAny_call_entry PySem.slot_list_setitem hl'.typeIs PySem.entry_list_setitem ?_ (PySem.args_list_setitem _ _ _)))
  refine (?_:wpAny _ _ (Builtin.List.listSubscript? (.int kk t)>>=_) _ _ s)
  refine wpAny_bind (wpAny_listSubscript_int (fitsIndex_of h0 (by exact DV ‹_› (by lia))) ?_)
  obtain ⟨j,rfl⟩:=Int.eq_ofNat_of_zero_le h0
  have hj:j<items.size:=by exact lB (eR hl) (Int.ofNat_lt.mp h1)
  have hx':items[j]?=some items[j]:=Array.getElem?_eq_getElem hj
  refine (?_:wpAny _ _ ((seqItemAt a j>>=λr=>pure (r.map (j,·)))>>=_) _ _ s)
  refine wpAny_bind (wpAny_bind (wpAny_seqItemAt g1 rfl (wpAny_pure ?_)))
  refine rW hx' ?_
  refine (?_:wpAny _ _ (setSeqItemAt a j vy>>=_) _ _ s)
  refine wpAny_bind (wpAny_setSeqItemAt g1 rfl ?_)
  have fin:=k _ _ (kk' (·.setIfInBounds j vy) (l.set j y) s.toks (by refine rW Array.toList_setIfInBounds ?_;exact g2.set j ry)) q
  first
   | exact wpAny_bind (wpAny_pure (wpAny_pure ⟨.none,rfl,wpAny_pure fin⟩))
   | exact wpAny_pure ⟨.none,rfl,wpAny_pure fin⟩
theorem Bh {b:Bi}{x:V}{vx:Value}{P:Prop}{pl:Sem Bool}{R:Value×List Value->Shared->Prop}{E':Value->Shared->Prop}(S:Sx G Z η fs s)(rx:Rel G.w.params Z x vx)(hk:EW b x η P)
  (q:P->R (b.val,[vx]) s):wpAny (model G.prog G.w) A (getMethod vx (vC b) pl) R E' s:=by
 have s1:(q9 x λξ=>P)->s.TypeIs vx "str"/\(∀a',vx= .ref a'->∃o,s.heap.get? a'=some o/\o.dict=none)/\P:=λh=>by
  obtain ⟨y,t,rfl,p⟩:=gU h rx
  exact ⟨typeIs_str s y t,λa' e=>(nomatch e),p⟩
 have l1:(jV η x λξ=>P)->s.TypeIs vx "list"/\(∀a',vx= .ref a'->∃o,s.heap.get? a'=some o/\o.dict=none)/\P:=λh=>by
  clear s1 q;obtain ⟨l,hl,p⟩:=cR h
  obtain ⟨a,items,n,rfl,h1,h2⟩:=e9 S rx hl
  exact ⟨⟨_,h1,rfl⟩,λa' e=>by cases e;exact ⟨_,h1,rfl⟩,p⟩
 cases b
 case find=>obtain ⟨hty,hd,p⟩:=s1 hk;dsimp only [vC,Bi.val] at q ⊢;with_reducible exact getMethod_builtin hty PySem.F.plainAttrs_str PySem.F.slot_str_find PySem.F.type_str_find hd (q p)
 case isalpha=>obtain ⟨hty,hd,p⟩:=s1 hk;dsimp only [vC,Bi.val] at q ⊢;with_reducible exact getMethod_builtin hty PySem.F.plainAttrs_str PySem.F.slot_str_isalpha PySem.F.type_str_isalpha hd (q p)
 case rstrip=>obtain ⟨hty,hd,p⟩:=s1 hk;dsimp only [vC,Bi.val] at q ⊢;with_reducible exact getMethod_builtin hty PySem.F.plainAttrs_str PySem.F.slot_str_rstrip PySem.F.type_str_rstrip hd (q p)
 case join=>obtain ⟨hty,hd,p⟩:=s1 hk;dsimp only [vC,Bi.val] at q ⊢;with_reducible exact getMethod_builtin hty PySem.F.plainAttrs_str PySem.F.slot_str_join PySem.F.type_str_join hd (q p)
 case append=>obtain ⟨hty,hd,p⟩:=l1 hk;dsimp only [vC,Bi.val] at q ⊢;with_reducible exact getMethod_builtin hty PySem.F.plainAttrs_list PySem.F.slot_list_append PySem.F.type_list_append hd (q p)
 case extend=>obtain ⟨hty,hd,p⟩:=l1 hk;dsimp only [vC,Bi.val] at q ⊢;with_reducible exact getMethod_builtin hty PySem.F.plainAttrs_list PySem.F.slot_list_extend PySem.F.type_list_extend hd (q p)
 case pop=>obtain ⟨hty,hd,p⟩:=l1 hk;dsimp only [vC,Bi.val] at q ⊢;with_reducible exact getMethod_builtin hty PySem.F.plainAttrs_list PySem.F.slot_list_pop PySem.F.type_list_pop hd (q p)
 case index=>obtain ⟨hty,hd,p⟩:=l1 hk;dsimp only [vC,Bi.val] at q ⊢;with_reducible exact getMethod_builtin hty PySem.F.plainAttrs_list PySem.F.slot_list_index PySem.F.type_list_index hd (q p)
 case reverse=>obtain ⟨hty,hd,p⟩:=l1 hk;dsimp only [vC,Bi.val] at q ⊢;with_reducible exact getMethod_builtin hty PySem.F.plainAttrs_list PySem.F.slot_list_reverse PySem.F.type_list_reverse hd (q p)
 all_goals exact hk.elim
theorem Aj {x:V}{vx:Value}(S:Sx G Z η fs s)(rx:Rel G.w.params Z x vx)(q:m7 x η Q):PV G Z fs Q vx s:=by
 obtain ⟨a,rfl,⟨l,e,q⟩|⟨C,dx,ks,vs,e,e2,q⟩⟩:=kO q rx
 ·obtain ⟨items,n,g1,g2⟩:=(S.st.e _ _ e).2
  have S1:St G.w.params Z (era η a) fs s.heap:=S.st.drop λb y hb=>by
   unfold era at hb;split at hb
   ·cases hb
   ·exact hb
  have hf:a∉fs.flatMap Fm.own:=λh=>by have:=(S.st.own a h).2;rw [e] at this;cases this
  obtain ⟨Z',hz,hp,S2⟩:=S1.freeze (λb=>b=a) (λb hb=>by refine rW hb ?_;unfold era;exact rW (if_pos rfl) rfl) (λb hb=>by refine rW hb ?_;exact hf)
  refine ⟨Z',_, .lst l,hz,S.grow (t:=s.toks) hz S2,?_,q⟩
  exact ⟨a,items,n,rfl,hp _ _ rfl g1,g2.mono hz⟩
 ·obtain ⟨o,g1,g2,g3,g4⟩:=(S.st.e _ _ e).2
  obtain ⟨es,n,g5,g6,g7⟩:=(S.st.e _ _ e2).2
  have S1:St G.w.params Z (era (era η a) dx) fs s.heap:=S.st.drop λb y hb=>by
   unfold era at hb;split at hb
   ·cases hb
   ·split at hb
    ·cases hb
    ·exact hb
  have hf:∀b,η b≠none->b∉fs.flatMap Fm.own:=λb hb h=>hb (S.st.own b h).2
  obtain ⟨Z',hz,hp,S2⟩:=S1.freeze (λb=>b=a\/b=dx) (λb hb=>by unfold era;clear S1 g5 g3 g1 q e2 e rx;rcases hb with rfl|rfl<;>simp) (λb hb=>by clear S1 g5 g3 g1 q rx;rcases hb with rfl|rfl<;>exact hf _ (by simp_all))
  refine ⟨Z',_, .obj C ks vs,hz,S.grow (t:=s.toks) hz S2,?_,q⟩
  exact ⟨a,dx,o,es,n,rfl,hp _ _ (.inl rfl) g1,g2,g3,g4,hp _ _ (.inr rfl) g5,g6,g7.mono hz⟩
theorem find_none:∀{es:List DictEntry} {ks:List Str} {x:Str},KeysAre es ks->x∉ks->es.find? (λe=>e.key.isStr x)=none
 | [],_,_,_,_=>rfl
 | e::es,[],x,h,_=>nomatch h
 | e::es,k::ks,x,h,hx=>by
  obtain ⟨⟨t,hk⟩,h⟩:=h
  rw [List.mem_cons,not_or] at hx
  refine rW List.find?_cons (rW hk ?_)
  have:(Value.str k t).isStr x=false:=by
   refine (?_:(k==x)=false)
   rw [beq_eq_false_iff_ne];exact λq=>hx.1 q.symm
  refine rW this ?_;exact find_none h hx.2
theorem C6 {X:V}{x:Str}{C f:Addr}{ks:List Str}{vs:List V}{v:Value}{pl:Sem Bool}{R:Value×List Value->Shared->Prop}{E':Value->Shared->Prop}
  (S:Sx G Z η fs s) (r:Rel G.w.params Z X v) (hf:G.Ar.lookup (C,x)=some f) (q':eI η X=some (C,ks,vs)) (hx:x∉ks) (q:R (.ref f,[v]) s):wpAny (model G.prog G.w) A (getMethod v x pl) R E' s:=by
 obtain ⟨a,ox,dx,es,n,rfl,I,hd,hk,hr⟩:=ua S r q'
 obtain ⟨-,m1,m2,m3,m4⟩:=S.bs.DE.mt C x f hf
 refine method_fn (S.bs.k.keeps S.st.z) I m1 m2 m3 m4 ?_ q
 unfold shadowIn lookIn
 simp only [dictOf,find_none hk hx]
 simp [no_ref hk]
end
set_option genCtorIdx false in
mutual
inductive X where
 | int (i:Int)
 | str (s:Str)
 | au
 | bool (b:Bool)
 | l (i:Nat)
 | fm (k:Nat)
 | bin (m:Bool) (o:Operator) (a b:X)
 | neg (a:X)
 | not (a:X)
 | eJ (conj:Bool) (l:XL)
 | q (a:X) (o:CmpOp) (b:X)
 | uZ (a:X) (o:CmpOp) (b:X) (o':CmpOp) (c:X)
 | f (t a b:X)
 | bi (b:Bi) (m:Bool) (l:XL)
 | mb (b:Bi) (o:X) (l:XL)
 | fn (a:Addr) (l:XL)
 | mi (x:Str) (C a:Addr) (o:X) (l:XL)
 | cO (o:X) (x:Str)
 | sub (o i:X)
 | gk (m:Bool) (o lo hi st:X)
 | tup (l:XL)
 | lst (m:Bool) (l:XL)
 | comp (m:Bool) (i:Nat) (e src:X)
 | jc (e:X)
inductive XL where
 | n
 | c (x:X) (r:XL)
end
noncomputable abbrev WX:=Prop->Hm->Ro->(V->Hm->Prop)->Prop
noncomputable abbrev WC:=Prop->Hm->Ro->(Bool->Hm->Prop)->Prop
@[reducible] noncomputable def kQ {α:Type}(Q:α->Hm->Prop)(η:Hm)(b:α):Prop:=Q b η
@[reducible] noncomputable def GU (Q:Bool->Hm->Prop)(X:V)(η:Hm):Prop:=Cm true X η (kQ Q η)
noncomputable def Hg (v:WX):WC:=λE η ρ Q=>v E η ρ (GU Q)
noncomputable def dflt (v:WX):WX×WC:=(v,Hg v)
@[reducible] noncomputable def GL (Q:List V->Hm->Prop)(X:V)(l:List V)(η:Hm):Prop:=Q (X::l) η
@[reducible] noncomputable def GK (s:Prop->Hm->Ro->(List V->Hm->Prop)->Prop)(E:Prop)(ρ:Ro)(Q:List V->Hm->Prop)(X:V)(η:Hm):Prop:=s E η ρ (GL Q X)
noncomputable def ki:List (WX×WC)->Prop->Hm->Ro->(List V->Hm->Prop)->Prop
 | [],_,η,_,Q=>Q [] η
 | f::r,E,η,ρ,Q=>f.1 E η ρ (GK (ki r) E ρ Q)
noncomputable def vd (c:Bool):List (WX×WC)->WX
 | []=>λξ ξ ξ ξ=>False
 | f::r=>λE η ρ Q=>match r with
  | []=>f.1 E η ρ Q
  | _=>f.1 E η ρ λX η'=>Cm true X η' λt=>if t=c then vd c r E η' ρ Q else Q X η'
@[reducible] noncomputable def Gk (c:Bool)(w:WC)(E:Prop)(ρ:Ro)(Q:Bool->Hm->Prop)(b:Bool)(η:Hm):Prop:=if b=c then w E η ρ Q else Q b η
noncomputable def ve (c:Bool):List (WX×WC)->WC
 | []=>λξ η ξ Q=>Q c η
 | f::r=>λE η ρ Q=>f.2 E η ρ (Gk c (ve c r) E ρ Q)
noncomputable def gv (ρ:Ro)(i:Nat)(P:V->Prop):Prop:=match ρ[i]? with
 | some r=>xX r P
 | none=>False
theorem kT {ρ:Ro}{i:Nat}{P:V->Prop}(h:gv ρ i P):∃X,ρ[i]?=some (some X)/\P X:=by
 unfold gv at h
 cases e:ρ[i]? with
 | none=>rw [e] at h;exact h.elim
 | some r=>rw [e] at h;clear e;obtain ⟨X,rfl,h⟩:=iX h;exact ⟨X,rfl,h⟩
section
variable (Q:V->Hm->Prop)(E:Prop)(ρ:Ro)
@[reducible] noncomputable def Fj (m:Bool)(o:Operator)(b:WX×WC)(X:V)(η:Hm):Prop:=b.1 E η ρ λY η2=>AX m o X Y η2 Q
@[reducible] noncomputable def E7 (X:V)(η:Hm):Prop:=eh X λi=>Q (.int (-i)) η
@[reducible] noncomputable def E5 (X:V)(η:Hm):Prop:=Cm false X η λb=>Q (.bool !b) η
@[reducible] noncomputable def E6 (Q:Bool->Hm->Prop)(b:Bool)(η:Hm):Prop:=Q (!b) η
@[reducible] noncomputable def Dz (o:CmpOp)(X Y:V)(η:Hm):Prop:=ow false o X Y η λc=>Q (.bool c) η
@[reducible] noncomputable def Fh (o:CmpOp)(b:WX×WC)(X:V)(η:Hm):Prop:=b.1 E η ρ (Dz Q o X)
@[reducible] noncomputable def DA (Q:Bool->Hm->Prop)(o:CmpOp)(X Y:V)(η:Hm):Prop:=ow true o X Y η (kQ Q η)
@[reducible] noncomputable def Fi (Q:Bool->Hm->Prop)(o:CmpOp)(b:WX×WC)(X:V)(η:Hm):Prop:=b.1 E η ρ (DA Q o X)
@[reducible] noncomputable def Fb {α:Type}(a b:Prop->Hm->Ro->α->Prop)(K:α)(c:Bool)(η:Hm):Prop:=if c then a E η ρ K else b E η ρ K
@[reducible] noncomputable def Fl (W:Frag)(b:Bi)(m:Bool)(l:List V)(η:Hm):Prop:=Ac W b m l η Q
@[reducible] noncomputable def E9 (W:Frag)(b:Bi)(X:V)(l:List V)(η:Hm):Prop:=Ac W b false (X::l) η Q
@[reducible] noncomputable def GR (W:Frag)(b:Bi)(l:List (WX×WC))(X:V)(η:Hm):Prop:=EW b X η (ki l E η ρ (E9 Q W b X))
@[reducible] noncomputable def GS (G:Gc)(n:Nat)(a:Addr)(l:List V)(η:Hm):Prop:=ah G n (.ref a) l η Q E
@[reducible] noncomputable def E8 (G:Gc)(n:Nat)(a:Addr)(X:V)(l:List V)(η:Hm):Prop:=ah G n (.ref a) (X::l) η Q E
@[reducible] noncomputable def GQ (G:Gc)(n:Nat)(x:Str)(C a:Addr)(l:List (WX×WC))(X:V)(η:Hm):Prop:=(∃ks vs,eI η X=some (C,ks,vs)/\x∉ks)/\ki l E η ρ (E8 Q E G n a X)
@[reducible] noncomputable def Fn (t:List (Addr×Str))(x:Str)(X:V)(η:Hm):Prop:=vE (eu t X x η) (kQ Q η)
@[reducible] noncomputable def xp (X Y:V)(η:Hm):Prop:=rq X Y η (kQ Q η)
@[reducible] noncomputable def BL (i:WX×WC)(X:V)(η:Hm):Prop:=i.1 E η ρ (xp Q X)
@[reducible] noncomputable def EZ (m:Bool)(lo hi st:WX×WC)(X:V)(η:Hm):Prop:=lo.1 E η ρ λL η2=>hi.1 E η2 ρ λH η3=>st.1 E η3 ρ λT η4=>AV m X L H T η4 Q
@[reducible] noncomputable def EY (l:List V)(η:Hm):Prop:=Q (.tup l) η
@[reducible] noncomputable def Dy (m:Bool)(l:List V)(η:Hm):Prop:=eA m l η Q
@[reducible] noncomputable def Gj (e:WX×WC)(i:Nat)(Y:V)(η:Hm)(Q:V->Hm->Prop):Prop:=e.1 False η (ρ.set i (some Y)) Q
@[reducible] noncomputable def Ff (m:Bool)(i:Nat)(e:WX×WC)(X:V)(η:Hm):Prop:=yl X λitems=>cX (Gj ρ e i) items [] η (Dy Q m)
@[reducible] noncomputable def Fc (X:V)(η:Hm):Prop:=m7 X η Q
end
mutual
noncomputable def wp (G:Gc)(n:Nat):X->WX×WC
 | .int i=>dflt λξ η ξ Q=>Q (.int i) η
 | .str x=>dflt λξ η ξ Q=>Q (.str x) η
 | .au=>dflt λξ η ξ Q=>Q .none η
 | .bool b=>dflt λξ η ξ Q=>Q (.bool b) η
 | .l i=>dflt λξ η ρ Q=>gv ρ i (kQ Q η)
 | .fm k=>dflt λξ η ξ Q=>xX xB[k]? λp=>Q p.2 η
 | .bin m o a b=>dflt λE η ρ Q=>(wp G n a).1 E η ρ (Fj Q E ρ m o (wp G n b))
 | .neg a=>dflt λE η ρ Q=>(wp G n a).1 E η ρ (E7 Q)
 | .not a=>(λE η ρ Q=>(wp G n a).1 E η ρ (E5 Q),λE η ρ Q=>(wp G n a).2 E η ρ (E6 Q))
 | .eJ c l=>(vd c (yh G n l),ve c (yh G n l))
 | .q a o b=>(λE η ρ Q=>(wp G n a).1 E η ρ (Fh Q E ρ o (wp G n b)),λE η ρ Q=>(wp G n a).1 E η ρ (Fi E ρ Q o (wp G n b)))
 | .uZ a o b o' c=>(λξ ξ ξ ξ=>False,λE η ρ Q=>(wp G n a).1 E η ρ λX η1=>(wp G n b).1 E η1 ρ λY η2=>ow true o X Y η2 λt=>
   if t then (wp G n c).1 E η2 ρ λW η3=>ow true o' Y W η3 λu=>Q u η3 else Q false η2)
 | .f t a b=>(λE η ρ Q=>(wp G n t).2 E η ρ (Fb E ρ (wp G n a).1 (wp G n b).1 Q),λE η ρ Q=>(wp G n t).2 E η ρ (Fb E ρ (wp G n a).2 (wp G n b).2 Q))
 | .bi b m l=>dflt λE η ρ Q=>ki (yh G n l) E η ρ (Fl Q G.K b m)
 | .mb b o l=>dflt λE η ρ Q=>(wp G n o).1 E η ρ (GR Q E ρ G.K b (yh G n l))
 | .fn a l=>dflt λE η ρ Q=>ki (yh G n l) E η ρ (GS Q E G n a)
 | .mi x C a o l=>dflt λE η ρ Q=>(wp G n o).1 E η ρ (GQ Q E ρ G n x C a (yh G n l))
 | .cO o x=>dflt λE η ρ Q=>(wp G n o).1 E η ρ (Fn Q G.dP x)
 | .sub o i=>dflt λE η ρ Q=>(wp G n o).1 E η ρ (BL Q E ρ (wp G n i))
 | .gk m o lo hi st=>dflt λE η ρ Q=>(wp G n o).1 E η ρ (EZ Q E ρ m (wp G n lo) (wp G n hi) (wp G n st))
 | .tup l=>dflt λE η ρ Q=>ki (yh G n l) E η ρ (EY Q)
 | .lst m l=>dflt λE η ρ Q=>ki (yh G n l) E η ρ (Dy Q m)
 | .comp m i e src=>dflt λE η ρ Q=>(wp G n src).1 E η ρ (Ff Q ρ m i (wp G n e))
 | .jc e=>(λE η ρ Q=>(wp G n e).1 E η ρ (Fc Q),λξ ξ ξ ξ=>False)
noncomputable def yh (G:Gc)(n:Nat):XL->List (WX×WC)
 | .n=> []
 | .c x r=>wp G n x::yh G n r
end
noncomputable def Au:Bi->Bool
 | .append| .extend| .pop| .index| .reverse| .find| .isalpha| .join| .rstrip=>false
 | _=>true
noncomputable def noStar (e:PySem.Expr):Bool:= !Nat.beq e.ctorIdx 22
noncomputable def dX (e:PySem.Expr):Bool:= !Nat.beq e.ctorIdx 16
noncomputable def gT (e:PySem.Expr):Bool:= !Nat.beq e.ctorIdx 26
noncomputable def iF (sc:Scope)(y:Str):Bool:=sc.names.lookup y==some .globalImplicit&& !(y==("__debug__":Str))
noncomputable def fo (e:PySem.Expr):Bool:= !Nat.beq e.ctorIdx 7
noncomputable def jS (sc:Scope)(names:List (Str×NameKind)):List (Str×NameKind):=
 names.map λ(n,k)=>if (k== .free&&sc.kind== .function&&sc.names.lookup n==some .cell) then (n, .cell) else (n,k)
noncomputable def uv (vs:List (Nat×Str))(sc:Scope)(names:List (Str×NameKind))(i:Nat)(x:Str):List (Nat×Str):=
 (i,x)::vs.filter λp=>sc.names.lookup p.2==some .cell&&names.lookup p.2==some .free&&p.1 != i&&p.2 != x
noncomputable def mP (N:Nat)(sc sc':Scope)(i:Nat)(x:Str):Bool:=
 sc'.kind== .function&&sc'.names.all (λz=>z.2 != .cell)&&sc'.names.all (λz=>z.2 != .local||sc'.names.lookup z.1==some .local)&&sc'.names.lookup x==some .local&&
 sc'.names.all (λz=>z.2 != .free||sc.names.lookup z.1==some .cell)&&decide (i<N)
structure Tb where
 fns:List (Str×Addr)
 Ar:List ((Addr×Str)×Addr)
noncomputable def gp:List PySem.Expr->PySem.Expr
 | e::_=>e
 | []=> .Name "" ⟨0,0,0,0⟩
abbrev PE:=List PySem.Expr×Nat×Str×Scope×List (Option PySem.Expr)
noncomputable abbrev tE (l:List PySem.Expr)(k:Nat)(x:Str)(d:List (Option PySem.Expr)):PE:=(l,k,x,{kind:= .function,names:= [],isGenerator:=false,isCoroutine:=false},d)
noncomputable def pE:PySem.Expr->PE
 | .BoolOp _ l _=>tE (gp l::l) 0 "" []
 | .BinOp a _ b _=>tE [a,b] 0 "" []
 | .UnaryOp _ a _=>tE [a] 0 "" []
 | .IfExp a b c _=>tE [a,b,c] 0 "" []
 | .Dict ks l _=>tE l 0 "" ks
 | .ListComp a gs s _=>(a::gs.flatMap λg=> [g.iter,g.target],0,"",s,[])
 | .Compare a _ l _=>tE (a::l) 0 "" []
 | .Call a l _ _=>tE (a::l) 0 "" []
 | .Constant _ k _=>tE [] k "" []
 | .Attribute a _ _=>tE [a] 0 "" []
 | .Subscript a b _=>tE [a,b] 0 "" []
 | .Name x _=>tE [] 0 x []
 | .List l _=>tE (gp l::l) 0 "" []
 | .Tuple l k _=>tE (gp l::l) k "" []
 | .Slice a b c _=>tE [] 0 "" [a,b,c]
 | _=>tE [] 0 "" []
noncomputable def kA (e:PySem.Expr):PySem.Expr:=gp (pE e).1
noncomputable def kL (e:PySem.Expr):List PySem.Expr:=(pE e).1.tail
noncomputable def kB (e:PySem.Expr):PySem.Expr:=gp (kL e)
noncomputable def kC (e:PySem.Expr):PySem.Expr:=gp (kL e).tail
noncomputable def knd (e:PySem.Expr):Nat:=(pE e).2.1
noncomputable def rf (e:PySem.Expr):Str:=(pE e).2.2.1
noncomputable def wg (e:PySem.Expr):Scope:=(pE e).2.2.2.1
noncomputable def dK (e:PySem.Expr):List (Option PySem.Expr):=(pE e).2.2.2.2
noncomputable def Co (e:PySem.Expr):Option PySem.Expr×Option PySem.Expr×Option PySem.Expr:=((dK e).headD none,(dK e).tail.headD none,(dK e).tail.tail.headD none)
noncomputable abbrev wZ (e:PySem.Expr):PySem.Expr:= .Name (rf e) e.pos
mutual
noncomputable def mk:X->PySem.Expr->PySem.Expr
 | .int i,e=> .Constant (.int i) (knd e) e.pos
 | .str x,e=> .Constant (.str x) (knd e) e.pos
 | .au,e=> .Constant .none (knd e) e.pos
 | .bool b,e=> .Constant (.bool b) (knd e) e.pos
 | .l _,e=>wZ e
 | .fm _,e=>wZ e
 | .bin _ o a b,e=> .BinOp (mk a (kA e)) o (mk b (kB e)) e.pos
 | .neg a,e=> .UnaryOp .USub (mk a (kA e)) e.pos
 | .not a,e=> .UnaryOp .Not (mk a (kA e)) e.pos
 | .eJ c l,e=> .BoolOp (if c then .And else .Or) (uO l (kL e)) e.pos
 | .q a o b,e=> .Compare (mk a (kA e)) [o] [mk b (gp (kL e))] e.pos
 | .uZ a o b o' c,e=> .Compare (mk a (kA e)) [o,o'] [mk b (gp (kL e)),mk c (gp (kL e).tail)] e.pos
 | .f t a b,e=> .IfExp (mk t (kA e)) (mk a (kB e)) (mk b (kC e)) e.pos
 | .bi b _ l,e=> .Call (.Name (Cx b) (kA e).pos) (uO l (kL e)) [] e.pos
 | .mb b o l,e=> .Call (.Attribute (mk o (kA (kA e))) (vC b) (kA e).pos) (uO l (kL e)) [] e.pos
 | .fn _ l,e=> .Call (wZ (kA e)) (uO l (kL e)) [] e.pos
 | .mi x _ _ o l,e=> .Call (.Attribute (mk o (kA (kA e))) x (kA e).pos) (uO l (kL e)) [] e.pos
 | .cO o x,e=> .Attribute (mk o (kA e)) x e.pos
 | .sub o i,e=> .Subscript (mk o (kA e)) (mk i (kB e)) e.pos
 | .gk _ o lo hi st,e=> .Subscript (mk o (kA e)) (.Slice ((Co (kB e)).1.map (mk lo)) ((Co (kB e)).2.1.map (mk hi)) ((Co (kB e)).2.2.map (mk st)) (kB e).pos) e.pos
 | .tup l,e=> .Tuple (uO l (kL e)) (knd e) e.pos
 | .lst _ l,e=> .List (uO l (kL e)) e.pos
 | .comp _ _ e0 src,e=> .ListComp (mk e0 (kA e)) [⟨wZ (kC e),mk src (kB e),[],0⟩] (wg e) e.pos
 | .jc a,e=>mk a e
noncomputable def uO:XL->List PySem.Expr->List PySem.Expr
 | .n,_=> []
 | .c x r,es=>mk x (gp es)::uO r es.tail
end
noncomputable def As:X->Bool
 | .au=>true
 | _=>false
noncomputable def D' (x:X)(c:PySem.Expr->Bool):Option PySem.Expr->Bool
 | none=>As x
 | some e=>c e
mutual
noncomputable def ok (T:Tb)(N:Nat):X->Scope->List (Nat×Str)->PySem.Expr->Bool
 | .l i,_,vs,e=>vs.contains (i,rf e)&& !(rf e==("__debug__":Str))
 | .fm k,sc,_,e=>(xB[k]?.any λp=>p.1==rf e)&&iF sc (rf e)
 | .bin _ _ a b,sc,vs,e=>ok T N a sc vs (kA e)&&ok T N b sc vs (kB e)
 | .neg a,sc,vs,e=>ok T N a sc vs (kA e)
 | .not a,sc,vs,e=>ok T N a sc vs (kA e)
 | .eJ _ l,sc,vs,e=>zi T N l sc vs (kL e)
 | .q a _ b,sc,vs,e=>fo (mk b (gp (kL e)))&&ok T N a sc vs (kA e)&&ok T N b sc vs (gp (kL e))
 | .uZ a _ b _ c,sc,vs,e=>fo (mk c (gp (kL e).tail))&&ok T N a sc vs (kA e)&&ok T N b sc vs (gp (kL e))&&ok T N c sc vs (gp (kL e).tail)
 | .f t a b,sc,vs,e=>ok T N t sc vs (kA e)&&ok T N a sc vs (kB e)&&ok T N b sc vs (kC e)
 | .bi b _ l,sc,vs,e=>Au b&&iF sc (Cx b)&&zi T N l sc vs (kL e)
 | .mb _ o l,sc,vs,e=>dX (mk o (kA (kA e)))&&decide ((uO l (kL e)).length<20)&&(kA e).pos.endLine==e.pos.line&&ok T N o sc vs (kA (kA e))&&zi T N l sc vs (kL e)
 | .fn a l,sc,vs,e=>T.fns.lookup (rf (kA e))==some a&&iF sc (rf (kA e))&&zi T N l sc vs (kL e)
 | .mi x C a o l,sc,vs,e=>T.Ar.lookup (C,x)==some a&&dX (mk o (kA (kA e)))&&decide ((uO l (kL e)).length<20)&&(kA e).pos.endLine==e.pos.line&&ok T N o sc vs (kA (kA e))&&zi T N l sc vs (kL e)
 | .cO o _,sc,vs,e=>dX (mk o (kA e))&&ok T N o sc vs (kA e)
 | .sub o i,sc,vs,e=>gT (mk i (kB e))&&ok T N o sc vs (kA e)&&ok T N i sc vs (kB e)
 | .gk _ o lo hi st,sc,vs,e=>ok T N o sc vs (kA e)&&D' lo (ok T N lo sc vs) (Co (kB e)).1&&D' hi (ok T N hi sc vs) (Co (kB e)).2.1&&D' st (ok T N st sc vs) (Co (kB e)).2.2
 | .tup l,sc,vs,e=>decide ((uO l (kL e)).length<20)&&zi T N l sc vs (kL e)
 | .lst _ l,sc,vs,e=>decide ((uO l (kL e)).length<20)&&zi T N l sc vs (kL e)
 | .comp _ i e0 src,sc,vs,e=>mP N sc (wg e) i (rf (kC e))&&fo (mk src (kB e))&&ok T N src sc vs (kB e)&&ok T N e0 {wg e with names:=jS sc (wg e).names} (uv vs sc (wg e).names i (rf (kC e))) (kA e)
 | .jc a,sc,vs,e=>ok T N a sc vs e
 | .int _,_,_,_=>true
 | .str _,_,_,_=>true
 | .au,_,_,_=>true
 | .bool _,_,_,_=>true
noncomputable def zi (T:Tb)(N:Nat):XL->Scope->List (Nat×Str)->List PySem.Expr->Bool
 | .n,_,_,_=>true
 | .c x r,sc,vs,es=>noStar (mk x (gp es))&&ok T N x sc vs (gp es)&&zi T N r sc vs es.tail
end
section
variable {G:Gc}{A:Around}{η:Hm}{E:Prop}{Z:Heap}{s:Shared}{n:Nat}
noncomputable def ip (G:Gc)(n:Nat)(p:WX×WC)(e:PySem.Expr)(f:Fm)(r:List Fm)(A:Around):Prop:=
 (∀E η Q,p.1 E η f.ρ Q->WV G A (f::r) (eval e f.env) η Q E)/\(∀E η Q,p.2 E η f.ρ Q->WB G A (f::r) (isTrue e f.env (eval e f.env)) η Q E)
theorem aS {v:WX}{e:PySem.Expr}{f:Fm}{r:List Fm}(he:isTrue e f.env (eval e f.env)=(do let v <-eval e f.env;standAt e.pos;holding [v] (truthy v)))
  (h:∀E η Q,v E η f.ρ Q->WV G A (f::r) (eval e f.env) η Q E):ip G n (dflt v) e f r A:=by
 refine ⟨h,λE η Q hq Z s S=>isTrue_plain ?_ he⟩
 refine (h E η _ hq).run S λZ' η' X v s' hz S' rx q=>?_
 exact weaken hz (tq S' rx q λb t q=>⟨Z',η',hz,S'.tok t,q⟩) λξ ξ x=>x
noncomputable def j8 (G:Gc)(n:Nat)(ps:List (WX×WC))(es:List PySem.Expr)(f:Fm)(r:List Fm)(A:Around):Prop:=
 match ps,es with
 | [],[]=>True
 | p::ps,e::es=>noStar e=true/\ip G n p e f r A/\j8 G n ps es f r A
 | _,_=>False
theorem eO {e:PySem.Expr}{es:List PySem.Expr}{env:Env}(h:noStar e=true):starEach (e::es) env=(false,eval e env)::starEach es env:=by
 cases e<;>first|rfl|cases h
theorem gy {pos:Pos}{t:Sem Value}{l:List (Bool×Sem Value)}:backTo pos ((false,t)::l)=(false,t)::backTo pos l:=by
 unfold backTo;refine rW List.map_cons ?_;rfl
theorem mc {pos:Pos}{f:Fm}{r:List Fm}:∀{ps:List (WX×WC)} {es:List PySem.Expr} {η:Hm} {Z:Heap} {s:Shared} {Q:List V->Hm->Prop} {R:List Value->Shared->Prop},j8 G n ps es f r A->ki ps E η f.ρ Q->Sx G Z η (f::r) s->
  (∀Z' η' l vs s',Z.StaysIn Z'->Sx G Z' η' (f::r) s'->ar G.w.params Z' l vs->vs.length=es.length->Q l η'->R vs s')->wpAny (model G.prog G.w) A (spliced (backTo pos (starEach es f.env))) R (PX G Z (f::r) E) s:=by
 intro ps;induction ps with
 | nil=>
  intro es η Z s Q R h hq S k
  cases es with
  | nil=>exact Calls.spliced_nil (k Z η [] [] s (StaysIn.refl Z) S rfl rfl hq)
  | cons=>exact h.elim
 | cons p ps ih=>
  intro es η Z s Q R h hq S k
  cases es with
  | nil=>exact h.elim
  | cons e es=>
  obtain ⟨h0,h1,h2⟩:=h
  refine rW (eO h0) (rW gy ?_)
  refine Calls.spliced_cons ((h1.1 E η _ hq).run S λZ1 η1 X v s1 hz S1 rx q1=>?_)
  refine weaken hz (ih (R:=λvs s₂=>R (v::vs) s₂) h2 q1 S1 λZ2 η2 l vs s2 hz2 S2 rl hl q2=>?_) λξ ξ x=>x
  exact k Z2 η2 (X::l) (v::vs) s2 (StaysIn.trans hz hz2) S2 (by exact ⟨v,vs,rfl,rx.mono hz2,rl⟩) (by exact rW List.length_cons (rW List.length_cons (rW hl rfl))) q2
theorem fH {f:Fm}{r:List Fm}:∀{ps:List (WX×WC)} {es:List PySem.Expr} {pos:Pos},j8 G n ps es f r A->(backTo pos (starEach es f.env)).any (·.1)=false
 | [],[],_,_=>rfl
 | p::ps,e::es,pos,h=>by
  obtain ⟨h0,h1,h2⟩:=h
  refine rW (eO h0) (rW gy (rW List.any_cons ?_))
  exact fH h2
 | [],e::es,_,h=>h.elim
 | p::ps,[],_,h=>h.elim
theorem jP {f:Fm}{r:List Fm}{ps:List (WX×WC)}{es:List PySem.Expr}{pos:Pos}{fv:Value}{fvs:List Value}{X0:List V}{Q:V->Hm->Prop}{Q0:List V->Hm->Prop}(hs:j8 G n ps es f r A)(S:Sx G Z η (f::r) s)
  (hk:(∃id,fv= .builtin id)\/(∃T,fv= .type T)\/∃a,fv= .ref a/\keepIn G.K (.ref a)=true) (h0:ar G.w.params Z X0 fvs)
  (hq:ki ps E η f.ρ Q0) (hQ:∀l η',Q0 l η'->∀Z' s' vals,Sx G Z' η' (f::r) s'->ar G.w.params Z' (X0++l) vals->wpAny (model G.prog G.w) A (call fv vals) (PV G Z' (f::r) Q) (PX G Z' (f::r) E) s'):
  wpAny (model G.prog G.w) A (callWith pos fv fvs (backTo pos (starEach es f.env)) []) (PV G Z (f::r) Q) (PX G Z (f::r) E) s:=by
 have main:∀P:Heap->Prop,(∀Z' η' s',Sx G Z' η' (f::r) s'->P s'.heap)->wpAny (model G.prog G.w) A (evalArgs fv true (backTo pos (starEach es f.env)) []) (λa s₁=>P s₁.heap/\a.kw= []/\wpAny (model G.prog G.w) A (call fv (fvs++a.pos) a.kw) (PV G Z (f::r) Q) (PX G Z (f::r) E) s₁) (PX G Z (f::r) E) s:=by
  intro P hP
  have fin:∀Z' η' l vs s',Z.StaysIn Z'->Sx G Z' η' (f::r) s'->ar G.w.params Z' l vs->Q0 l η'->
    P s'.heap/\([]:List (Str×Value))= []/\wpAny (model G.prog G.w) A (call fv (fvs++vs) []) (PV G Z (f::r) Q) (PX G Z (f::r) E) s':=λZ' η' l vs s' hz S' rl q=>
   ⟨hP _ _ _ S',rfl,weaken hz (hQ l η' q Z' s' _ S' ((h0.mono hz).append rl)) λξ ξ x=>x.weak hz⟩
  cases es with
  | nil=>
   cases ps with
   | nil=>exact evalArgs_nil3 (fin Z η [] [] s (StaysIn.refl Z) S rfl hq)
   | cons p ps=>exact hs.elim
  | cons e es=>
   cases ps with
   | nil=>exact hs.elim
   | cons p ps=>
    have h0:=hs.1
    refine rW (eO h0) (rW gy ?_)
    refine Calls.evalArgs_plain ?_
    refine rV gy (rV (eO h0) ?_)
    exact mc hs hq S λZ' η' l vs s' hz S' rl ξ q=>fin Z' η' l vs s' hz S' rl q
 have hp:=fH (pos:=pos) hs
 clear hQ;rcases hk with ⟨id,rfl⟩|⟨T,rfl⟩|⟨a,rfl,hk⟩
 ·exact Calls.callWith_builtin hp (wpAny_mono (main (λξ=>True) λξ ξ ξ ξ=>trivial) (λa s' h=>h.2.2) λξ ξ x=>x)
 ·exact PySem.callWith_type hp (wpAny_mono (main (λξ=>True) λξ ξ ξ ξ=>trivial) (λa s' h=>h.2.2) λξ ξ x=>x)
 ·exact callWith_of (P:=λh=>G.K.In h) (by refine rW hp ?_;rfl) (keeps_K hk) (wpAny_mono (main (λh=>G.K.In h) λZ' η' s' S'=>S'.bs.k.keeps S'.st.z) (λa s' h=>⟨h.1,h.2.2⟩) λξ ξ x=>x)
end
section
set_option backward.match.sparseCases true
section
variable {G:Gc}{A:Around}{η:Hm}{E:Prop}{Z:Heap}{s:Shared}{n:Nat}{f:Fm}{r:List Fm}
theorem gA.small {fs:List Fm}(h:gA A fs n):A.units<cLine:=by
 have h5:=h.units
 have:A.units<9900:=by exact lA h5
 exact this
theorem s_bool {fs:List Fm}{b:Bool}{R:Bool->Shared->Prop}(S:Sx G Z η fs s)(q:∀t,R b {s with toks:=t}):wpAny (model G.prog G.w) A (truthy (.bool b)) R (PX G Z fs E) s:=
 tq (fk:=false) (P:=λc=>c=b) S (show Rel G.w.params Z (.bool b) (.bool b) from fQ) rfl λc t e=>by subst e;exact q t
theorem vZ {a b:WX×WC}{o:CmpOp}{l e:PySem.Expr}{pos:Pos}(hA:gA A (f::r) n)(he:fo e=true)(ha:ip G n a l f r A)(hb:ip G n b e f r A):
  (∀E η Q,a.1 E η f.ρ (λX η1=>b.1 E η1 f.ρ λY η2=>ow false o X Y η2 λc=>Q (.bool c) η2)->WV G A (f::r) (eval (.Compare l [o] [e] pos) f.env) η Q E)/\
  (∀E η Q,a.1 E η f.ρ (λX η1=>b.1 E η1 f.ρ λY η2=>ow true o X Y η2 λc=>Q c η2)->WB G A (f::r) (isTrue (.Compare l [o] [e] pos) f.env (eval (.Compare l [o] [e] pos) f.env)) η Q E):=by
 have hm:behindInMarks o e=false:=by cases e<;>first|rfl|cases he
 refine ⟨λE η Q hq Z s S=>wpAny_Compare1 ?_ hm,λE η Q hq Z s S=>wpAny_isTrue_Compare1 ?_ hm⟩
 ·refine (ha.1 _ _ _ hq).run S λZ1 η1 X v s1 hz1 S1 rx hq=>weaken hz1 ?_ λξ ξ x=>x
  refine (hb.1 _ _ _ hq).run S1 λZ2 η2 Y u s2 hz2 S2 ry q=>weaken (StaysIn.trans hz1 hz2) ?_ λξ ξ x=>x
  exact tu hA.small S2 (rx.mono hz2) ry q λc q=>⟨Z2,η2, .bool c,StaysIn.trans hz1 hz2,S2,fQ,q⟩
 ·refine (ha.1 _ _ _ hq).run S λZ1 η1 X v s1 hz1 S1 rx hq=>weaken hz1 ?_ λξ ξ x=>x
  refine (hb.1 _ _ _ hq).run S1 λZ2 η2 Y u s2 hz2 S2 ry q=>weaken (StaysIn.trans hz1 hz2) ?_ λξ ξ x=>x
  refine tu hA.small S2 (rx.mono hz2) ry q λc q=>?_
  exact weaken (StaysIn.trans hz1 hz2) (s_bool S2 λt=>⟨Z2,η2,StaysIn.trans hz1 hz2,S2.tok t,q⟩) λξ ξ x=>x
theorem v7 {a b c:WX×WC}{o o':CmpOp}{l e e2:PySem.Expr}{pos:Pos}(hA:gA A (f::r) n)(he:fo e2=true)(ha:ip G n a l f r A)(hb:ip G n b e f r A)(hc:ip G n c e2 f r A):
  (∀E η Q,a.1 E η f.ρ (λX η1=>b.1 E η1 f.ρ λY η2=>ow true o X Y η2 λt=>if t then c.1 E η2 f.ρ (λW η3=>ow true o' Y W η3 λu=>Q u η3) else Q false η2)->
   WB G A (f::r) (isTrue (.Compare l [o,o'] [e,e2] pos) f.env (eval (.Compare l [o,o'] [e,e2] pos) f.env)) η Q E):=by
 have hm:lastMarks [o,o'] [e,e2]=false:=by cases e2<;>first|rfl|cases he
 refine λE η Q hq Z s S=>isTrue_chain ?_ hm
 refine (ha.1 _ _ _ hq).run S λZ1 η1 X v s1 hz1 S1 rx hq=>?_
 refine test_link (weaken hz1 ((hb.1 _ _ _ hq).run S1 λZ2 η2 Y u s2 hz2 S2 ry q=>weaken (StaysIn.trans hz1 hz2) ?_ λξ ξ x=>x) λξ ξ x=>x)
 refine tu hA.small S2 (rx.mono hz2) ry q λt q=>?_
 refine weaken (StaysIn.trans hz1 hz2) (s_bool S2 λtk=>?_) λξ ξ x=>x
 have hz:=StaysIn.trans hz1 hz2
 cases t with
 | false=>exact ⟨Z2,η2,hz,S2.tok tk,by simpa using q⟩
 | true=>
  simp only [if_true] at q ⊢
  refine test_last (weaken hz ((hc.1 _ _ _ q).run (s:={s2 with toks:=tk}) (S2.tok tk) λZ3 η3 W w s3 hz3 S3 rw q=>?_) λξ ξ x=>x)
  refine weaken (StaysIn.trans hz hz3) (tu hA.small S3 (ry.mono hz3) rw q λu' q=>?_) λξ ξ x=>x
  refine weaken (StaysIn.trans hz hz3) ?_ λξ ξ x=>x
  exact s_bool S3 λtk=>⟨Z3,η3,StaysIn.trans hz hz3,S3.tok tk,q⟩
theorem yO {t a b:WX×WC}{e1 e2 e3:PySem.Expr}{pos:Pos}(ht:ip G n t e1 f r A)(ha:ip G n a e2 f r A)(hb:ip G n b e3 f r A):
  ip G n (λE η ρ Q=>t.2 E η ρ λc η'=>if c then a.1 E η' ρ Q else b.1 E η' ρ Q,λE η ρ Q=>t.2 E η ρ λc η'=>if c then a.2 E η' ρ Q else b.2 E η' ρ Q) (.IfExp e1 e2 e3 pos) f r A:=by
 refine ⟨λE η Q hq Z s S=>wpAny_IfExp ?_,λE η Q hq Z s S=>isTrue_IfExp ?_⟩
 ·refine (ht.2 _ _ _ hq).run S λZ1 η1 c s1 hz1 S1 q=>?_
  cases c with
  | true=>simp only [if_true] at q ⊢;exact weaken hz1 ((ha.1 _ _ _ q) Z1 s1 S1) λξ ξ x=>x.weak hz1
  | false=>simp only [Bool.false_eq_true,if_false] at q ⊢;exact weaken hz1 ((hb.1 _ _ _ q) Z1 s1 S1) λξ ξ x=>x.weak hz1
 ·refine (ht.2 _ _ _ hq).run S λZ1 η1 c s1 hz1 S1 q=>?_
  have wk:∀{Q:Bool->Hm->Prop} {b:Bool} {s':Shared},PB G Z1 (f::r) Q b s'->PB G Z (f::r) Q b s':=λ⟨Z2,η2,a,b,c⟩=>⟨Z2,η2,StaysIn.trans hz1 a,b,c⟩
  cases c with
  | true=>simp only [if_true] at q ⊢;exact weaken hz1 ((ha.2 _ _ _ q) Z1 s1 S1) λξ ξ x=>wk x
  | false=>simp only [Bool.false_eq_true,if_false] at q ⊢;exact weaken hz1 ((hb.2 _ _ _ q) Z1 s1 S1) λξ ξ x=>wk x
theorem yM {a:WX×WC}{e:PySem.Expr}{pos:Pos}(ha:ip G n a e f r A):
  ip G n (λE η ρ Q=>a.1 E η ρ λX η'=>Cm false X η' λb=>Q (.bool !b) η',λE η ρ Q=>a.2 E η ρ λb η'=>Q (!b) η') (.UnaryOp .Not e pos) f r A:=by
 refine ⟨λE η Q hq Z s S=>wpAny_UnaryOp ?_,λE η Q hq Z s S=>isTrue_not ?_⟩
 ·refine (ha.1 _ _ _ hq).run S λZ1 η1 X v s1 hz1 S1 rx q=>not_of ?_
  exact weaken hz1 (tq S1 rx q λb t q=>⟨Z1,η1,_,hz1,S1.tok t,fQ,q⟩) λξ ξ x=>x
 ·exact (ha.2 _ _ _ hq).run S λZ1 η1 b s1 hz1 S1 q=>⟨Z1,η1,hz1,S1,q⟩
theorem v9 {c:Bool}{pos:Pos}:∀{ps:List (WX×WC)} {es:List PySem.Expr} {η:Hm} {Q:V->Hm->Prop},j8 G n ps es f r A->vd c ps E η f.ρ Q->
  WV G A (f::r) (boolOp pos (if c then .And else .Or) (evalEach es f.env)) η Q E:=by
 intro ps;induction ps with
 | nil=>intro es η Q _ hq;exact hq.elim
 | cons p ps ih=>
  intro es η Q h hq
  cases es with
  | nil=>exact h.elim
  | cons e es=>
  cases ps with
  | nil=>
   cases es with
   | nil=>exact h.2.1.1 _ _ _ hq
   | cons=>exact h.2.2.elim
  | cons p' ps=>
  cases es with
  | nil=>exact h.2.2.elim
  | cons e' es=>
  intro Z s S
  have hq:p.1 E η f.ρ λX η'=>Cm true X η' λt=>if t=c then vd c (p'::ps) E η' f.ρ Q else Q X η':=hq
  show wpAny _ _ (do
   let v <-eval e f.env
   standAt pos
   let t <-holding [v] (truthy v)
   match (if c then BoolOp.And else .Or),t with
   | .And,false| .Or,true=>pure v
   | _,_=>boolOp pos (if c then .And else .Or) (evalEach (e'::es) f.env)) _ _ _
  refine wpAny_bind ((h.2.1.1 _ _ _ hq).run S λZ1 η1 X v s1 hz1 S1 rx q=>wpAny_bind (wpAny_standAt (wpAny_bind (wpAny_holding ?_))))
  refine weaken hz1 (tq S1 rx q λt tk q=>?_) λξ ξ x=>x
  have hrec:vd c (p'::ps) E η1 f.ρ Q->wpAny (model G.prog G.w) A (boolOp pos (if c then .And else .Or) (evalEach (e'::es) f.env)) (PV G Z (f::r) Q) (PX G Z (f::r) E) {s1 with toks:=tk}:=λq=>
   weaken hz1 (ih h.2.2 q Z1 _ (S1.tok tk)) λξ ξ x=>PV.weak hz1 x
  have hval:Q X η1->wpAny (model G.prog G.w) A (pure v) (PV G Z (f::r) Q) (PX G Z (f::r) E) {s1 with toks:=tk}:=λq=>wpAny_pure ⟨Z1,η1,X,hz1,S1.tok tk,rx,q⟩
  clear hq;cases c<;>cases t<;>first|exact hrec (by simpa using q)|exact hval (by simpa using q)
theorem wa {c:Bool}:∀{ps:List (WX×WC)} {es:List PySem.Expr} {η:Hm} {Q:Bool->Hm->Prop},j8 G n ps es f r A->ve c ps E η f.ρ Q->
  WB G A (f::r) (allTrue (if c then .And else .Or) es f.env) η Q E:=by
 intro ps;induction ps with
 | nil=>
  intro es η Q h hq
  cases es with
  | cons=>exact h.elim
  | nil=>
  intro Z s S
  refine (?_:wpAny _ _ (pure ((if c then BoolOp.And else .Or)== .And)) _ _ _)
  refine wpAny_pure ⟨Z,η,StaysIn.refl Z,S,?_⟩
  cases c<;>exact hq
 | cons p ps ih=>
  intro es η Q h hq
  cases es with
  | nil=>exact h.elim
  | cons e es=>
  intro Z s S
  have hq:p.2 E η f.ρ (Gk c (ve c ps) E f.ρ Q):=hq
  show wpAny _ _ (do
   match (if c then BoolOp.And else .Or), <-isTrue e f.env (eval e f.env) with
   | .And,false=>pure false
   | .Or,true=>pure true
   | _,_=>allTrue (if c then .And else .Or) es f.env) _ _ _
  refine wpAny_bind ((h.2.1.2 _ _ _ hq).run S λZ1 η1 b s1 hz1 S1 q=>?_)
  have hrec:ve c ps E η1 f.ρ Q->wpAny (model G.prog G.w) A (allTrue (if c then .And else .Or) es f.env) (PB G Z (f::r) Q) (PX G Z (f::r) E) s1:=λq=>
   weaken hz1 (ih h.2.2 q Z1 _ S1) λξ ξ ⟨Z2,η2,a,b,c⟩=>⟨Z2,η2,StaysIn.trans hz1 a,b,c⟩
  have hval:∀b,Q b η1->wpAny (model G.prog G.w) A (pure b) (PB G Z (f::r) Q) (PX G Z (f::r) E) s1:=λb q=>wpAny_pure ⟨Z1,η1,hz1,S1,q⟩
  clear hq;cases c<;>cases b<;>first|exact hrec (q)|exact hval _ (q)
theorem yP {c:Bool}{ps:List (WX×WC)}{es:List PySem.Expr}{pos:Pos}(h:j8 G n ps es f r A):ip G n (vd c ps,ve c ps) (.BoolOp (if c then .And else .Or) es pos) f r A:=
 ⟨λE η Q hq=>v9 h hq,λE η Q hq Z s S=>wpAny_isTrue_BoolOp (wa h hq Z s S)⟩
theorem CV {p:WX×WC}{x:X}{e:Option PySem.Expr}(h:match e with|none=>x= .au|some e=>ip G n p e f r A)(hp:x= .au->p=dflt λξ η ξ Q=>Q .none η):
  ∀E η Q,p.1 E η f.ρ Q->WV G A (f::r) (evalPart e f.env) η Q E:=λE η Q hq=>by
 cases e with
 | none=>
  rw [hp h] at hq
  exact λZ s S=>wpAny_pure (pv S gF hq)
 | some e=>exact h.1 E η Q hq
theorem mu {o:PySem.Expr}{nm:Str}{env:Env}(h:dX o=true):attributeBase o nm env (eval o env)=eval o env:=by
 cases o<;>first|rfl|cases h
theorem kr {o:PySem.Expr}{nm:Str}{apos pos:Pos}{es:List PySem.Expr}{env:Env}(hb:dX o=true)(hl:decide (es.length<20)=true)(hp:(apos.endLine==pos.line)=true)(hst:(backTo pos (starEach es env)).any (·.1)=false):
  eval (.Call (.Attribute o nm apos) es [] pos) env=(do
   let ov <-eval o env
   standAt apos.atName
   let (f,first) <-holding [ov] (getMethod ov nm (do return (<-importBound o env).getD true))
   callWith pos f first (backTo pos (starEach es env)) []):=by
 have hf:methodCallForm (es.length+([]:List Keyword).length) (backTo pos (starEach es env)) (backToKw pos (keywordEach [] env))=true:=by
  unfold methodCallForm
  rw [decide_eq_true_eq] at hl
  have h1:(backTo pos (starEach es env)).all (λx=> !x.1)=true:=by
   rw [List.all_eq_true]
   intro x hx
   rw [List.any_eq_false] at hst
   simpa using hst x hx
  simp only [h1,Bool.true_and]
  refine (?_:((decide (es.length+0+0<30))=true))
  refine rW decide_eq_true_eq ?_;exact fb ‹_› (by rfl)
 have e1:eval (.Call (.Attribute o nm apos) es [] pos) env=(do
   let ov <-attributeBase o nm env (eval o env)
   standAt apos.atName
   methodCall o nm apos pos env ov (es.length+([]:List Keyword).length) (backTo pos (starEach es env)) (backToKw pos (keywordEach [] env))):=rfl
 refine rW e1 (rW (mu hb) ?_)
 unfold methodCall
 refine rW hf ?_
 have e2:methodCallPos true o env apos pos=pure pos:=by
  unfold methodCallPos
  refine rW hp ?_;rfl
 refine rW e2 ?_
 rfl
theorem Bc {b:Bi}{po:WX×WC}{o:PySem.Expr}{nm:Str}{apos pos:Pos}{ps:List (WX×WC)}{es:List PySem.Expr}(hA:gA A (f::r) n)(hn:nm=vC b)(hb:dX o=true)(hl:decide (es.length<20)=true)(hp:(apos.endLine==pos.line)=true)
  (ho:ip G n po o f r A) (hs:j8 G n ps es f r A):
  ip G n (dflt λE η ρ Q=>po.1 E η ρ λX η1=>EW b X η1 (ki ps E η1 ρ λvs η2=>Ac G.K b false (X::vs) η2 Q)) (.Call (.Attribute o nm apos) es [] pos) f r A:=by
 subst hn
 refine aS rfl λE η Q hq Z s S=>MethodCall_ ?_ (kr hb hl hp (fH hs))
 refine (ho.1 _ _ _ hq).run S λZ1 η1 X v s1 hz1 S1 rx hk=>?_
 have hbv:∃id,b.val= .builtin id:=by
  clear hq;cases b<;>first|exact ⟨_,rfl⟩|exact hk.elim
 refine Bh S1 rx hk λhq=>?_
 exact weaken hz1 (jP (X0:= [X]) hs S1 (.inl hbv) (ar.one rx) hq λl η' q Z' s' vals S' rl=>C8 hA.handled S' rl q) λξ ξ x=>PV.weak hz1 x
theorem Bb {x:Str}{C fa:Addr}{po:WX×WC}{o:PySem.Expr}{apos pos:Pos}{ps:List (WX×WC)}{es:List PySem.Expr}(hA:gA A (f::r) n)(hb:dX o=true)(hl:decide (es.length<20)=true)(hp:(apos.endLine==pos.line)=true)
  (hm:G.Ar.lookup (C,x)=some fa) (ho:ip G n po o f r A) (hs:j8 G n ps es f r A):
  ip G n (dflt λE η ρ Q=>po.1 E η ρ λX η1=>(∃ks vs,eI η1 X=some (C,ks,vs)/\x∉ks)/\ki ps E η1 ρ λvs η2=>ah G n (.ref fa) (X::vs) η2 Q E) (.Call (.Attribute o x apos) es [] pos) f r A:=by
 refine aS rfl λE η Q hq Z s S=>MethodCall_ ?_ (kr hb hl hp (fH hs))
 refine (ho.1 _ _ _ hq).run S λZ1 η1 X v s1 hz1 S1 rx ⟨⟨ks,vs,h1,h2⟩,hq⟩=>?_
 refine C6 S1 rx hm h1 h2 ?_
 exact weaken hz1 (jP (X0:= [X]) hs S1 (.inr (.inr ⟨fa,rfl,(S1.bs.DE.mt C x fa hm).1⟩)) (ar.one rx) hq λl η' q Z' s' vals S' rl=>q.run hA S' rl) λξ ξ x=>PV.weak hz1 x
theorem Cr {env:Env}{sc':Scope}:(relabel sc' env).names=jS env.scope sc'.names:=rfl
theorem xS {sc':Scope}{i:Nat}{x:Str}(h:mP f.ρ.length f.env.scope sc' i x=true):mZ f sc' i x (uv f.vars f.env.scope sc'.names i x):=by
 unfold mP at h
 simp only [Bool.and_eq_true,beq_iff_eq,List.all_eq_true,Bool.or_eq_true,bne_iff_ne,ne_eq,decide_eq_true_eq] at h
 obtain ⟨⟨⟨⟨⟨h1,h2⟩,h3⟩,h4⟩,h5⟩,h6⟩:=h
 refine ⟨h1,h2,λz hz e=>(h3 z hz).resolve_left (λq=>q e),h4,λz hz e=>(h5 z hz).resolve_left (λq=>q e),List.mem_cons_self,λp hp=>?_,h6⟩
 unfold uv at hp
 rcases List.mem_cons.mp hp with rfl|hp
 ·exact .inl rfl
 ·obtain ⟨m1,m2⟩:=List.mem_filter.mp hp
  simp only [Bool.and_eq_true,beq_iff_eq,bne_iff_ne,ne_eq] at m2
  exact .inr ⟨m1,m2.1.1.1,m2.1.1.2,m2.1.2,m2.2⟩
theorem xQ {sc':Scope}{i:Nat}{x:Str}{vs:List (Nat×Str)}(C:mZ f sc' i x vs){P:Params}{Z h:Heap}(F:iZ P Z h f):∃cl,ei f.env.cells sc'.names []=some cl:=
 xP λy hy=>F.Fz y (C.free _ hy rfl)
theorem md {it:PySem.Expr}(h:fo it=true){env:Env}:∀x,foldedSetIterable it env x=pure x:=λx=>by
 cases it<;>first|rfl|cases h
theorem vY {m:Bool}{i:Nat}{x:Str}{px pos:Pos}{pe psrc:WX×WC}{elt it:PySem.Expr}{sc':Scope}(hA:gA A (f::r) n)(hc:mP f.ρ.length f.env.scope sc' i x=true)(hi:fo it=true)
  (hsrc:ip G n psrc it f r A)
  (he:∀g:Fm,g.env.scope={sc' with names:=jS f.env.scope sc'.names}->g.vars=uv f.vars f.env.scope sc'.names i x->g.ρ.length=f.ρ.length->g.real=false->ip G n pe elt g (f::r) A):
  ip G n (dflt λE η ρ Q=>psrc.1 E η ρ λX η1=>yl X λitems=>cX (λY η Q=>pe.1 False η (ρ.set i (some Y)) Q) items [] η1 λl η2=>eA m l η2 Q) (.ListComp elt [⟨.Name x px,it,[],0⟩] sc' pos) f r A:=by
 have C:=xS hc
 refine aS rfl λE η Q hq Z s S=>?_
 obtain ⟨cl,hcl⟩:=xQ C (S.st.f f List.mem_cons_self)
 refine AS (m:=m) hA.handled C hcl (md hi) (body:=λY η Q=>pe.1 False η (f.ρ.set i (some Y)) Q) (λL Y η Q hb g g1 g2 g3 g4=>?_) (hsrc.1 _ _ _ hq) Z s S
 have hS:=he g (by refine rW g1 ?_;rfl) g2 (by exact rW g3 (rW List.length_set rfl)) g4
 exact hS.1 False η Q (by refine rW g3 ?_;exact hb)
end
end
inductive AI (K:Frag)(C:Addr):Prop
 | mk (nm q:Str) (N:Addr) (bs bm:List Value) (hd:Bool) (sn:List Str) (sub:List Value) (ab:Bool) (col:Option Bool) (dd:Option Addr) (k0 k1 k2 k3 k5:Option Value)
  (h:K.lookup C=some (excClassObj nm q C N bs bm hd sn sub ab col dd k0 k1 k2 k3 k5 "Exception.__new__")) (b:bm.contains (.type "BaseException")=true) (k:keepIn K (.ref C)=true)
noncomputable def AH (G:Gc):Prop:=
 ∀{n:Nat} {A:Around} {fs:List Fm} {η:Hm} {Z:Heap} {s:Shared} {x:Str} {v:Value},gA A fs (n+3)->Sx G Z η fs s->Rel G.w.params Z (.str x) v->
  wpAny (model G.prog G.w) A (call (.ref G.kF) [v]) (λr s'=>∃Z' e d,Z.StaysIn Z'/\r= .ref e/\Sx G Z' (upd nul e (.exc G.kF d)) fs s') (λξ ξ=>False) s
structure Gl (G:Gc):Prop where
 bi:∀b,Au b=true->G.gt.lookup (Cx b)=some (.con b.val)
 gl:∀p∈xB,G.gt.lookup p.1=some p.2
 kF:G.gt.lookup (Str.ofString "Die")=some (V.con (.ref G.kF))
 BV:AI G.K G.kF
 Dn:AH G
section
variable {G:Gc}{n:Nat}(hG:Gl G)
theorem gA.pseudo {A:Around}{g:Fm}{fs:List Fm}(h:gA A fs n)(hg:g.real=false):gA A (g::fs) n:=
 ⟨h.handled,by refine rW (aJ ..) (rW hg ?_);exact h.frames,h.guards,h.depth,h.units⟩
theorem Bw {x:X}(h:As x=true):wp G n x=dflt λξ η ξ Q=>Q .none η:=by
 cases x<;>first|rfl|cases h
theorem j4 {sc:Scope}{y:Str}(h:iF sc y=true):sc.names.lookup y=some .globalImplicit/\(y==("__debug__":Str))=false:=by
 unfold iF at h
 simpa using h
theorem iN {A:Around}{f:Fm}{r:List Fm}{y:Str}{pos p:Pos}{ps:List (WX×WC)}{es:List PySem.Expr}{fv:Value}{Q0:List V->Hm->Prop}{E:Prop}{η:Hm}{Q:V->Hm->Prop}(hg:iF f.env.scope y=true)(hs:j8 G n ps es f r A)
  (hk:∀Z,Bs G Z->(∃id,fv= .builtin id)\/(∃T,fv= .type T)\/∃a,fv= .ref a/\keepIn G.K (.ref a)=true) (hl:G.gt.lookup y=some (.con fv))
  (hq:ki ps E η f.ρ Q0) (hQ:∀l η',Q0 l η'->∀Z' s' vals,Sx G Z' η' (f::r) s'->ar G.w.params Z' l vals->wpAny (model G.prog G.w) A (call fv vals) (PV G Z' (f::r) Q) (PX G Z' (f::r) E) s'):
  WV G A (f::r) (eval (.Call (.Name y p) es [] pos) f.env) η Q E:=λZ s S=>by
 obtain ⟨hk1,hd⟩:=j4 hg
 refine wpAny_Call_NameR ((Ab (Q:=λX η'=>X= .con fv/\η'=η) hl hk1 hd ⟨rfl,rfl⟩).run S λZ1 η1 X v s1 hz1 S1 rx ⟨e1,e2⟩=>?_)
 clear S hl;subst e1 e2
 obtain rfl:=o9 rx
 exact weaken hz1 (jP (X0:= []) hs S1 (hk _ S1.bs) rfl hq λl η' q Z' s' vals S' rl=>hQ l η' q Z' s' vals S' (by simpa using rl)) λξ ξ x=>PV.weak hz1 x
theorem a2 {a b:Bool}(h:(a&&b)=true):a=true/\b=true:=Bool.and_eq_true_iff.mp h
variable {A:Around}{f:Fm}{r:List Fm}
theorem yQ {m:Bool}{o:Operator}{a b:WX×WC}{e1 e2:PySem.Expr}{pos:Pos}(ha:ip G n a e1 f r A)(hb:ip G n b e2 f r A):
  ip G n (dflt λE η ρ Q=>a.1 E η ρ λX η1=>b.1 E η1 ρ λY η2=>AX m o X Y η2 Q) (.BinOp e1 o e2 pos) f r A:=by
 refine aS rfl λE η Q hq Z s S=>wpAny_BinOp ?_
 refine (ha.1 _ _ _ hq).run S λZ1 η1 X v s1 hz1 S1 rx hq=>weaken hz1 ?_ λξ ξ x=>x
 exact (hb.1 _ _ _ hq).run S1 λZ2 η2 Y u s2 hz2 S2 ry q=>weaken (StaysIn.trans hz1 hz2) (C7 S2 (rx.mono hz2) ry q) λξ ξ x=>PV.weak (StaysIn.trans hz1 hz2) x
theorem yN {a:WX×WC}{e:PySem.Expr}{pos:Pos}(ha:ip G n a e f r A):
  ip G n (dflt λE η ρ Q=>a.1 E η ρ λX η1=>eh X λi=>Q (.int (-i)) η1) (.UnaryOp .USub e pos) f r A:=by
 refine aS rfl λE η Q hq Z s S=>wpAny_UnaryOp ?_
 refine (ha.1 _ _ _ hq).run S λZ1 η1 X v s1 hz1 S1 rx q=>?_
 obtain ⟨i,t,rfl,q⟩:=aE q rx
 exact PyProof.Rows.neg_int ⟨Z1,η1,_,hz1,S1.tok _,bh,q⟩
theorem yR {o:WX×WC}{x:Str}{e:PySem.Expr}{pos:Pos}(h1:dX e=true)(ho:ip G n o e f r A):
  ip G n (dflt λE η ρ Q=>o.1 E η ρ λX η1=>vE (eu G.dP X x η1) λY=>Q Y η1) (.Attribute e x pos) f r A:=by
 refine aS rfl λE η Q hq Z s S=>Attribute_any_ ?_ ?_
 ·refine (ho.1 _ _ _ hq).run S λZ1 η1 X v s1 hz1 S1 rx ⟨Y,hy,q⟩=>?_
  exact weaken hz1 (Ak S1 rx hy q) λξ ξ x=>PV.weak hz1 x
 ·show (do
   let o <-attributeBase e x f.env (eval e f.env)
   standAt pos.atName
   let r <-holding [o] (getAttr o x true)
   letTemporaryGo e o r
   pure r)=_
  exact rW (mu h1) rfl
theorem yJ {o i:WX×WC}{e1 e2:PySem.Expr}{pos:Pos}(hp:gT e2=true)(ho:ip G n o e1 f r A)(hi:ip G n i e2 f r A):
  ip G n (dflt λE η ρ Q=>o.1 E η ρ λX η1=>i.1 E η1 ρ λY η2=>rq X Y η2 λW=>Q W η2) (.Subscript e1 e2 pos) f r A:=by
 refine aS rfl λE η Q hq Z s S=>Subscript_ ?_
 refine (ho.1 _ _ _ hq).run S λZ1 η1 X v s1 hz1 S1 rx hq=>weaken hz1 ?_ λξ ξ x=>x
 refine (hi.1 _ _ _ hq).run S1 λZ2 η2 Y u s2 hz2 S2 ry q=>?_
 exact weaken (StaysIn.trans hz1 hz2) (C3 S2 (rx.mono hz2) ry q λξ q=>q) λξ ξ x=>PV.weak (StaysIn.trans hz1 hz2) x
theorem yL {m:Bool}{o lo hi st:WX×WC}{e:PySem.Expr}{l' h' t':Option PySem.Expr}{pos p':Pos}(ho:ip G n o e f r A)(hlo:∀E η Q,lo.1 E η f.ρ Q->WV G A (f::r) (evalPart l' f.env) η Q E)
  (hhi:∀E η Q,hi.1 E η f.ρ Q->WV G A (f::r) (evalPart h' f.env) η Q E) (hst:∀E η Q,st.1 E η f.ρ Q->WV G A (f::r) (evalPart t' f.env) η Q E):
  ip G n (dflt λE η ρ Q=>o.1 E η ρ λX η1=>lo.1 E η1 ρ λL η2=>hi.1 E η2 ρ λH η3=>st.1 E η3 ρ λT η4=>AV m X L H T η4 Q) (.Subscript e (.Slice l' h' t' p') pos) f r A:=by
 refine aS rfl λE η Q hq Z s S=>Subscript_ ?_
 refine (ho.1 _ _ _ hq).run S λZ1 η1 X v s1 hz1 S1 rx hq=>wpAny_Slice (weaken hz1 ?_ λξ ξ x=>x)
 refine (hlo _ _ _ hq).run S1 λZ2 η2 L vl s2 hz2 S2 rl hq=>weaken (StaysIn.trans hz1 hz2) ?_ λξ ξ x=>x
 refine (hhi _ _ _ hq).run S2 λZ3 η3 H vh s3 hz3 S3 rh hq=>weaken (StaysIn.trans (StaysIn.trans hz1 hz2) hz3) ?_ λξ ξ x=>x
 refine (hst _ _ _ hq).run S3 λZ4 η4 T vt s4 hz4 S4 rt q=>?_
 have hz:=StaysIn.trans (StaysIn.trans (StaysIn.trans hz1 hz2) hz3) hz4
 exact weaken hz (C4 S4 (rx.mono (StaysIn.trans (StaysIn.trans hz2 hz3) hz4)) (rl.mono (StaysIn.trans hz3 hz4)) (rh.mono hz4) rt q) λξ ξ x=>PV.weak hz x
theorem oM {x:X}{c:PySem.Expr->Bool}(hc:∀e,c e=true->ip G n (wp G n x) (mk x e) f r A):∀o:Option PySem.Expr,D' x c o=true->∀E η Q,(wp G n x).1 E η f.ρ Q->WV G A (f::r) (evalPart (o.map (mk x)) f.env) η Q E
 | none,h,E,η,Q,hq=>by
  rw [Bw h] at hq
  exact λZ s S=>wpAny_pure (pv S gF hq)
 | some e,h,E,η,Q,hq=>(hc e h).1 E η Q hq
theorem Dq {α:Type}{l:List α}(h:decide (l.length<20)=true){k:Nat}(e:k=l.length):k<=sizeLine:=by
 have:=of_decide_eq_true h
 refine rW sizeLine_eq ?_;(subst_vars;lia)
noncomputable def SX (G:Gc)(n:Nat)(x:X):Prop:=∀{e:PySem.Expr} {f:Fm} {r:List Fm} {A:Around},ok ⟨G.fns,G.Ar⟩ f.ρ.length x f.env.scope f.vars e=true->gA A (f::r) n->ip G n (wp G n x) (mk x e) f r A
noncomputable def Hq (G:Gc)(n:Nat)(l:XL):Prop:=∀{es:List PySem.Expr} {f:Fm} {r:List Fm} {A:Around},zi ⟨G.fns,G.Ar⟩ f.ρ.length l f.env.scope f.vars es=true->gA A (f::r) n->j8 G n (yh G n l) (uO l es) f r A
include hG in
mutual
theorem snd:(x:X)->SX G n x
 | .int i=>λh hA=>aS rfl λE η Q hq=>CJ hq
 | .str i=>λh hA=>aS rfl λE η Q hq=>Aa hq
 | .au=>λh hA=>aS rfl λE η Q hq=>AQ hq
 | .bool i=>λh hA=>aS rfl λE η Q hq=>AU hq
 | .l i=>λh hA=>by
  obtain ⟨h1,h2⟩:=a2 h
  refine aS rfl λE η Q hq=>?_
  obtain ⟨X,hx,hq⟩:=kT hq
  exact pY (List.contains_iff_mem.mp h1) hx (by simpa using h2) hq
 | .fm k=>λh hA=>by
  obtain ⟨h1,h2⟩:=a2 h
  refine aS rfl λE η Q hq=>?_
  obtain ⟨p,hp,hq⟩:=iX hq
  rw [hp,Option.any_some] at h1
  obtain ⟨k1,k2⟩:=j4 h2
  exact Ab (eq_of_beq h1▸hG.gl p (List.mem_of_getElem? hp)) k1 k2 hq
 | .bin m o a b=>λh hA=>yQ (snd a (a2 h).1 hA) (snd b (a2 h).2 hA)
 | .neg a=>λh hA=>yN (snd a h hA)
 | .not a=>λh hA=>yM (snd a h hA)
 | .eJ c l=>λh hA=>yP (qm l h hA)
 | .q a o b=>λh hA=>vZ hA (a2 (a2 h).1).1 (snd a (a2 (a2 h).1).2 hA) (snd b (a2 h).2 hA)
 | .uZ a o1 b o2 c=>λh hA=>⟨λE η Q hq=>hq.elim,v7 hA (a2 (a2 (a2 h).1).1).1 (snd a (a2 (a2 (a2 h).1).1).2 hA) (snd b (a2 (a2 h).1).2 hA) (snd c (a2 h).2 hA)⟩
 | .f t a b=>λh hA=>yO (snd t (a2 (a2 h).1).1 hA) (snd a (a2 (a2 h).1).2 hA) (snd b (a2 h).2 hA)
 | .bi b m l=>λh hA=>by
  obtain ⟨h0,h2⟩:=a2 h
  clear h;obtain ⟨h3,h1⟩:=a2 h0
  refine aS rfl λE η Q hq Z s S=>?_
  refine iN h1 (qm l h2 hA) (fv:=b.val) (λξ ξ=>?_) (hG.bi b h3) hq (λl η' q Z' s' vals S' rl=>C8 hA.handled S' rl q) Z s S
  cases b<;>first|exact .inl ⟨_,rfl⟩|exact .inr (.inl ⟨_,rfl⟩)
 | .mb b o l=>λh hA=>Bc hA rfl (a2 (a2 (a2 (a2 h).1).1).1).1 (a2 (a2 (a2 (a2 h).1).1).1).2 (a2 (a2 (a2 h).1).1).2 (snd o (a2 (a2 h).1).2 hA) (qm l (a2 h).2 hA)
 | .fn a l=>λh hA=>by
  obtain ⟨h0,h2⟩:=a2 h
  obtain ⟨h3,h1⟩:=a2 h0
  refine aS rfl λE η Q hq Z s S=>?_
  obtain ⟨k1,k2⟩:=S.bs.DE.fn _ _ (eq_of_beq h3)
  exact iN h1 (qm l h2 hA) (λξ ξ=> .inr (.inr ⟨a,rfl,k2⟩)) k1 hq (λl η' q Z' s' vals S' rl=>q.run hA S' rl) Z s S
 | .mi x C a o l=>λh hA=>Bb hA (a2 (a2 (a2 (a2 (a2 h).1).1).1).1).2 (a2 (a2 (a2 (a2 h).1).1).1).2 (a2 (a2 (a2 h).1).1).2 (eq_of_beq (a2 (a2 (a2 (a2 (a2 h).1).1).1).1).1) (snd o (a2 (a2 h).1).2 hA) (qm l (a2 h).2 hA)
 | .cO o x=>λh hA=>yR (a2 h).1 (snd o (a2 h).2 hA)
 | .sub o i=>λh hA=>yJ (a2 (a2 h).1).1 (snd o (a2 (a2 h).1).2 hA) (snd i (a2 h).2 hA)
 | .gk m o lo hi st=>λh hA=>yL (snd o (a2 (a2 (a2 h).1).1).1 hA) (oM (λξ h=>snd lo h hA) _ (a2 (a2 (a2 h).1).1).2) (oM (λξ h=>snd hi h hA) _ (a2 (a2 h).1).2) (oM (λξ h=>snd st h hA) _ (a2 h).2)
 | .tup l=>λh hA=>by
  obtain ⟨h1,h2⟩:=a2 h
  refine aS rfl λE η Q hq Z s S=>wpAny_Tuple_spliced ?_
  exact mc (qm l h2 hA) hq S λZ1 η1 l vs s1 hz1 S1 rl hl q=>⟨Dq h1 hl,PV.weak hz1 (o6 (n:=0) (t:=s1.toks) S1 (by simpa using rl) q)⟩
 | .lst m l=>λh hA=>by
  obtain ⟨h1,h2⟩:=a2 h
  refine aS rfl λE η Q hq Z s S=>wpAny_List_spliced ?_
  exact mc (qm l h2 hA) hq S λZ1 η1 l vs s1 hz1 S1 rl hl q=>⟨Dq h1 hl,PV.weak hz1 (o7 (n:=0) (t:=s1.toks) S1 (by simpa using rl) q)⟩
 | .comp m i e0 src=>λh hA=>vY hA (a2 (a2 (a2 h).1).1).1 (a2 (a2 (a2 h).1).1).2 (snd src (a2 (a2 h).1).2 hA) λg g1 g2 g3 g4=>snd e0 (by refine rW g1 (rW g2 (rW g3 ?_));exact (a2 h).2) (hA.pseudo g4)
 | .jc a=>λh hA=>⟨λE η Q hq Z s S=>((snd a h hA).1 _ _ _ hq).run S λZ1 η1 X v s1 hz1 S1 rx q=>PV.weak hz1 (Aj S1 rx q),λξ ξ ξ hq=>hq.elim⟩
theorem qm:(l:XL)->Hq G n l
 | .n=>λh hA=>trivial
 | .c x l=>λh hA=>⟨(a2 (a2 h).1).1,snd x (a2 (a2 h).1).2 hA,qm l (a2 h).2 hA⟩
end
end
set_option genCtorIdx false in
mutual
inductive S where
 | a (i:Nat) (e:X)
 | nK (i:Nat) (m:Bool) (j:Nat) (e src:X)
 | fD (js:List Nat) (e:X)
 | eC (o:X) (x:Str) (e:X)
 | we (o i e:X)
 | ew (i:Nat) (o:Operator) (e:X)
 | gg (b:X) (x:Str) (o:Operator) (e:X)
 | sQ (b i:X) (o:Operator) (e:X)
 | ret (e:X)
 | rN
 | expr (e:X)
 | f (c:X) (a b:SL)
 | pR (c:X) (b:SL)
 | dQ (js:List Nat) (tup:Bool) (src:X) (b:SL)
 | brk
 | cont
 | Dh
 | Bm (e:X)
 | tryD (b:SL)
 | bad
inductive SL where
 | n
 | c (s:S) (r:SL)
 | jc (i:Nat) (r:SL)
end
noncomputable abbrev yq:=Prop->Hm->Ro->Kp->Prop
noncomputable def jw:List Nat->List V->Ro->Option Ro
 | [],l,ρ=>(match l with
  | []=>some ρ
  | _::_=>none)
 | j::js,l,ρ=>(match l with
  | []=>none
  | X::l=>jw js l (ρ.set j (some X)))
noncomputable def m9 (js:List Nat)(tup:Bool)(X:V)(ρ:Ro):Option Ro:=
 match tup with
 | false=>(match js with
  | []=>none
  | j::r=>(match r with
   | []=>some (ρ.set j (some X))
   | _::_=>none))
 | true=>(match X with
  | .tup l=>jw js l ρ
  | .lst l=>jw js l ρ
  | _=>none)
noncomputable def rQ (E:Prop)(n:Nat)(X:V):Prop:=E/\(∃x,X= .str x)/\3<=n
@[reducible] noncomputable def Dx (w:yq)(E:Prop)(K:Kp):Kp:=⟨λη ρ=>w E η ρ K,K.br,K.ct,K.rt⟩
section
variable (E:Prop)(ρ:Ro)(K:Kp)
@[reducible] noncomputable def BM (i:Nat)(X:V)(η:Hm):Prop:=K.nx η (ρ.set i (some X))
@[reducible] noncomputable def Fo (i:Nat)(m:Bool)(l:List V)(η:Hm):Prop:=eA m l η (BM ρ K i)
@[reducible] noncomputable def Fp (i:Nat)(m:Bool)(j:Nat)(e:WX×WC)(X:V)(η:Hm):Prop:=yl X λitems=>cX (Gj ρ e j) items [] η (Fo ρ K i m)
@[reducible] noncomputable def EX (js:List Nat)(X:V)(η:Hm):Prop:=xX (m9 js true X ρ) λρ1=>K.nx η ρ1
@[reducible] noncomputable def E4 (η:Hm):Prop:=K.nx η ρ
@[reducible] noncomputable def E1 (t:List (Addr×Str))(x:Str)(Y X:V)(η:Hm):Prop:=jq t X x Y η (E4 ρ K)
@[reducible] noncomputable def E0 (t:List (Addr×Str))(o:WX×WC)(x:Str)(Y:V)(η:Hm):Prop:=o.1 E η ρ (E1 ρ K t x Y)
@[reducible] noncomputable def E2 (Y X I:V)(η:Hm):Prop:=ru X I Y η (E4 ρ K)
@[reducible] noncomputable def E3 (i:WX×WC)(Y X:V)(η:Hm):Prop:=i.1 E η ρ (E2 ρ K Y X)
@[reducible] noncomputable def GI (o i:WX×WC)(Y:V)(η:Hm):Prop:=o.1 E η ρ (E3 E ρ K i Y)
@[reducible] noncomputable def GV (i:Nat)(o:Operator)(X Y:V)(η:Hm):Prop:=lO o X Y η (BM ρ K i)
@[reducible] noncomputable def Fq (t:List (Addr×Str))(x:Str)(B W:V)(η:Hm):Prop:=jq t B x W η (E4 ρ K)
@[reducible] noncomputable def Fs (t:List (Addr×Str))(x:Str)(o:Operator)(B X Y:V)(η:Hm):Prop:=lO o X Y η (Fq ρ K t x B)
@[reducible] noncomputable def Ft (t:List (Addr×Str))(x:Str)(o:Operator)(e:WX×WC)(B:V)(η:Hm)(X:V):Prop:=e.1 E η ρ (Fs ρ K t x o B X)
@[reducible] noncomputable def GW (t:List (Addr×Str))(x:Str)(o:Operator)(e:WX×WC)(B:V)(η:Hm):Prop:=vE (eu t B x η) (Ft E ρ K t x o e B η)
@[reducible] noncomputable def GJ (X:V)(η:Hm):Prop:=K.rt X η
@[reducible] noncomputable def kEx (_:V)(η:Hm):Prop:=K.nx η ρ
@[reducible] noncomputable def Fe (tg:V->Ro->Option Ro)(b:Hm->Ro->Kp->Prop)(X:V)(η:Hm):Prop:=yl X λitems=>fX tg b K.nx K.rt items η ρ
@[reducible] noncomputable def Fd (w:yq)(i:Nat)(Y:V)(η:Hm):Prop:=w E η (ρ.set i (some Y)) K
end
mutual
noncomputable def wS (G:Gc)(n:Nat):S->yq
 | .a i e=>λE η ρ K=>(wp G n e).1 E η ρ (BM ρ K i)
 | .nK i m j e src=>λE η ρ K=>(wp G n src).1 E η ρ (Fp ρ K i m j (wp G n e))
 | .fD js e=>λE η ρ K=>(wp G n e).1 E η ρ (EX ρ K js)
 | .eC o x e=>λE η ρ K=>(wp G n e).1 E η ρ (E0 E ρ K G.dP (wp G n o) x)
 | .we o i e=>λE η ρ K=>(wp G n e).1 E η ρ (GI E ρ K (wp G n o) (wp G n i))
 | .ew i o e=>λE η ρ K=>gv ρ i λX=>(wp G n e).1 E η ρ (GV ρ K i o X)
 | .gg b x o e=>λE η ρ K=>(wp G n b).1 E η ρ (GW E ρ K G.dP x o (wp G n e))
 | .sQ b i o e=>λE η ρ K=>(wp G n b).1 E η ρ λB η1=>(wp G n i).1 E η1 ρ λI η2=>wK B λa=>eh I λk=>∃l X,η2 a=some (.list l)/\jo l k=some X/\(wp G n e).1 E η2 ρ λY η3=>lO o X Y η3 λW η4=>ru (.ref a) (.int k) W η4 λη5=>K.nx η5 ρ
 | .ret e=>λE η ρ K=>(wp G n e).1 E η ρ (GJ K)
 | .rN=>λξ η ξ K=>K.rt .none η
 | .expr e=>λE η ρ K=>(wp G n e).1 E η ρ (kEx ρ K)
 | .f c a b=>λE η ρ K=>(wp G n c).2 E η ρ (Fb E ρ (aQ G n a) (aQ G n b) K)
 | .pR c b=>λE η ρ K=>yx ((wp G n c).2 E) (aQ G n b E) K η ρ
 | .dQ js t src b=>λE η ρ K=>(wp G n src).1 E η ρ (Fe ρ K (m9 js t) (aQ G n b E))
 | .brk=>λξ η ρ K=>K.br η ρ
 | .cont=>λξ η ρ K=>K.ct η ρ
 | .Dh=>λξ η ρ K=>K.nx η ρ
 | .Bm e=>λE η ρ ξ=>(wp G n e).1 E η ρ λX ξ=>rQ E n X
 | .tryD b=>λξ η ρ K=>aQ G n b (K.rt .none nul) η ρ K
 | .bad=>λξ ξ ξ ξ=>False
noncomputable def aQ (G:Gc)(n:Nat):SL->yq
 | .n=>λξ η ρ K=>K.nx η ρ
 | .c s r=>λE η ρ K=>match r with
  | .n=>wS G n s E η ρ K
  | _=>wS G n s E η ρ (Dx (aQ G n r) E K)
 | .jc i r=>λE η ρ K=>gv ρ i λX=>m7 X η (Fd E ρ K (aQ G n r) i)
end
noncomputable def storeOk (sc:Scope)(y:Str):Bool:=sc.names.lookup y==some .local||sc.names.lookup y==some .cell
noncomputable def sd:List Nat->List PySem.Expr->List PySem.Expr
 | [],_=> []
 | _::js,es=>wZ (gp es)::sd js es.tail
noncomputable def okN (N:Nat)(sc:Scope)(vs:List (Nat×Str)):List Nat->List PySem.Expr->Bool
 | [],_=>true
 | j::js,es=>vs.contains (j,rf (gp es))&&storeOk sc (rf (gp es))&&decide (j<N)&&okN N sc vs js es.tail
noncomputable def fT (e:PySem.Expr):Bool:=Nat.ble e.ctorIdx 7||Nat.ble 11 e.ctorIdx
noncomputable def noTuple (e:PySem.Expr):Bool:= !Nat.beq e.ctorIdx 25
noncomputable def pH:List ExceptHandler->PySem.Expr×List Stmt×Pos
 | ⟨v,_,b,p⟩::_=>(v.getD (gp []),b,p)
 | []=>(gp [],[],⟨0,0,0,0⟩)
noncomputable def pS:Stmt->List PySem.Expr×List Stmt×List Stmt×Pos×Pos
 | .Return v p=>([v.getD (gp [])],[],[],p,p)
 | .Assign l v p=>(v::l,[],[],p,p)
 | .AugAssign t _ v p=>([v,t],[],[],p,p)
 | .For t i b _ p=>([i,t],b,[],p,p)
 | .While t b _ p=>([t],b,[],p,p)
 | .If t b o p=>([t],b,o,p,p)
 | .Raise v _ p=>([v.getD (gp [])],[],[],p,p)
 | .Try b l _ _ p=>([(pH l).1],b,(pH l).2.1,p,(pH l).2.2)
 | .Expr v p=>([v],[],[],p,p)
 | .Pass p=>([],[],[],p,p)
 | .Break p=>([],[],[],p,p)
 | .Continue p=>([],[],[],p,p)
 | _=>([],[],[],⟨0,0,0,0⟩,⟨0,0,0,0⟩)
noncomputable def sT (s:Stmt):PySem.Expr:=gp (pS s).1.tail
noncomputable def sV (s:Stmt):PySem.Expr:=gp (pS s).1
noncomputable def sB (s:Stmt):List Stmt:=(pS s).2.1
noncomputable def sO (s:Stmt):List Stmt:=(pS s).2.2.1
noncomputable def sP (s:Stmt):Pos:=(pS s).2.2.2.1
noncomputable def hP (s:Stmt):Pos:=(pS s).2.2.2.2
noncomputable def j9:List Stmt->Stmt
 | s::_=>s
 | []=> .Pass ⟨0,0,0,0⟩
mutual
noncomputable def Gg:S->Stmt->Stmt
 | .a _ e,t=> .Assign [wZ (sT t)] (mk e (sV t)) (sP t)
 | .nK _ m j e src,t=> .Assign [wZ (sT t)] (mk (.comp m j e src) (sV t)) (sP t)
 | .fD js e,t=> .Assign [.Tuple (sd js (kL (sT t))) (knd (sT t)) (sT t).pos] (mk e (sV t)) (sP t)
 | .eC o x e,t=> .Assign [.Attribute (mk o (kA (sT t))) x (sT t).pos] (mk e (sV t)) (sP t)
 | .we o i e,t=> .Assign [.Subscript (mk o (kA (sT t))) (mk i (kB (sT t))) (sT t).pos] (mk e (sV t)) (sP t)
 | .ew _ o e,t=> .AugAssign (wZ (sT t)) o (mk e (sV t)) (sP t)
 | .gg b x o e,t=> .AugAssign (.Attribute (mk b (kA (sT t))) x (sT t).pos) o (mk e (sV t)) (sP t)
 | .sQ b i o e,t=> .AugAssign (.Subscript (mk b (kA (sT t))) (mk i (kB (sT t))) (sT t).pos) o (mk e (sV t)) (sP t)
 | .ret e,t=> .Return (some (mk e (sV t))) (sP t)
 | .rN,t=> .Return none (sP t)
 | .expr e,t=> .Expr (mk e (sV t)) (sP t)
 | .f c a b,t=> .If (mk c (sV t)) (jZ a (sB t)) (jZ b (sO t)) (sP t)
 | .pR c b,t=> .While (mk c (sV t)) (jZ b (sB t)) [] (sP t)
 | .dQ js tp src b,t=> .For (if tp then .Tuple (sd js (kL (sT t))) (knd (sT t)) (sT t).pos else wZ (sT t)) (mk src (sV t)) (jZ b (sB t)) [] (sP t)
 | .brk,t=> .Break (sP t)
 | .cont,t=> .Continue (sP t)
 | .Dh,t=> .Pass (sP t)
 | .Bm e,t=> .Raise (some (.Call (.Name "Die" (kA (sV t)).pos) [mk e (gp (kL (sV t)))] [] (sV t).pos)) none (sP t)
 | .tryD b,t=> .Try (jZ b (sB t)) [⟨some (.Name "Die" (sV t).pos),none,[.Return (some (mk .au (sV (j9 (sO t))))) (sP (j9 (sO t)))],hP t⟩] [] [] (sP t)
 | .bad,t=>t
noncomputable def jZ:SL->List Stmt->List Stmt
 | .n,_=> []
 | .c s r,ts=>Gg s (j9 ts)::jZ r ts.tail
 | .jc _ r,ts=>jZ r ts
end
mutual
noncomputable def Gd (T:Tb)(N:Nat)(sc:Scope)(vs:List (Nat×Str)):S->Stmt->Bool
 | .a i e,t=>okN N sc vs [i] [sT t]&&(fT (mk e (sV t))||sc.names.lookup (rf (sT t))==some .cell)&&ok T N e sc vs (sV t)
 | .nK i m j e src,t=>sc.names.lookup (rf (sT t))==some .local&&(sT t).pos.line==(sV t).pos.line&& !((wg (sV t)).names.any λz=>z.1==rf (sT t)&&(z.2== .local||z.2== .cell))&&okN N sc vs [i] [sT t]&&ok T N (.comp m j e src) sc vs (sV t)
 | .fD js e,t=>okN N sc vs js (kL (sT t))&&fT (mk e (sV t))&&noTuple (mk e (sV t))&&ok T N e sc vs (sV t)
 | .eC o _ e,t=>fT (mk e (sV t))&&ok T N e sc vs (sV t)&&ok T N o sc vs (kA (sT t))
 | .we o i e,t=>fT (mk e (sV t))&&gT (mk i (kB (sT t)))&&ok T N e sc vs (sV t)&&ok T N o sc vs (kA (sT t))&&ok T N i sc vs (kB (sT t))
 | .ew i _ e,t=>okN N sc vs [i] [sT t]&& !(rf (sT t)==("__debug__":Str))&&ok T N e sc vs (sV t)
 | .gg b _ _ e,t=>ok T N b sc vs (kA (sT t))&&ok T N e sc vs (sV t)
 | .sQ b i _ e,t=>gT (mk i (kB (sT t)))&&ok T N b sc vs (kA (sT t))&&ok T N i sc vs (kB (sT t))&&ok T N e sc vs (sV t)
 | .ret e,t=>ok T N e sc vs (sV t)
 | .rN,_=>true
 | .expr e,t=>fT (mk e (sV t))&&ok T N e sc vs (sV t)
 | .f c a b,t=>ok T N c sc vs (sV t)&&kl T N sc vs a (sB t)&&kl T N sc vs b (sO t)
 | .pR c b,t=>ok T N c sc vs (sV t)&&kl T N sc vs b (sB t)
 | .dQ js tp src b,t=>(if tp then okN N sc vs js (kL (sT t)) else okN N sc vs js [sT t]&&js.length==1)&&fo (mk src (sV t))&&ok T N src sc vs (sV t)&&kl T N sc vs b (sB t)
 | .brk,_=>true
 | .cont,_=>true
 | .Dh,_=>true
 | .Bm e,t=>iF sc "Die"&&noStar (mk e (gp (kL (sV t))))&&ok T N e sc vs (gp (kL (sV t)))
 | .tryD b,t=>iF sc "Die"&&kl T N sc vs b (sB t)
 | .bad,_=>true
noncomputable def kl (T:Tb)(N:Nat)(sc:Scope)(vs:List (Nat×Str)):SL->List Stmt->Bool
 | .n,_=>true
 | .c s r,ts=>Gd T N sc vs s (j9 ts)&&kl T N sc vs r ts.tail
 | .jc i r,ts=>decide (i<N)&&kl T N sc vs r ts
end
section
variable {G:Gc}{A:Around}{η:Hm}{E:Prop}{Z:Heap}{s:Shared}{n:Nat}{f:Fm}{r:List Fm}
noncomputable def fg (G:Gc)(n:Nat)(w:yq)(t:Env->Sem Flow)(f:Fm)(r:List Fm)(A:Around):Prop:=
 ∀E η ρ K,w E η ρ K->ρ.length=f.ρ.length->WS G A f r t η ρ K E
noncomputable def g0 (G:Gc)(n:Nat)(p:WX×WC)(e:PySem.Expr)(f:Fm)(r:List Fm)(A:Around):Prop:=
 ∀ρ:Ro,ρ.length=f.ρ.length->ip G n p e {f with ρ:=ρ} r A
theorem gA.ro {A:Around}{ρ:Ro}(h:gA A (f::r) n):gA A ({f with ρ:=ρ}::r) n:=⟨h.handled,by rw [aJ] at*;exact (aJ f r)▸h.frames,h.guards,h.depth,h.units⟩
theorem gA.ex {A:Around}{ex:List (Addr×Obj)}(h:gA A (f::r) n):gA A ({f with extra:=ex}::r) n:=⟨h.handled,by rw [aJ] at*;exact (aJ f r)▸h.frames,h.guards,h.depth,h.units⟩
theorem zC {sc:Scope}{y:Str}{P:Params}{Z h:Heap}(hr:f.real=true)(F:iZ P Z h f)(hs:f.env.scope=sc)(h:storeOk sc y=true):t8 f y:=by
 unfold storeOk at h
 simp only [Bool.or_eq_true,beq_iff_eq] at h
 rcases h with h|h
 ·exact .inl (by unfold Env.kindOf;refine rW hs ?_;exact h)
 ·have hk:f.env.kindOf y=some .cell:=by unfold Env.kindOf;refine rW hs ?_;exact h
  exact .inr ⟨hr,hk,F.Fz y hk⟩
structure CA (f:Fm)(j:Nat)(x:Str):Prop where
 m:(j,x)∈f.vars
 s:storeOk f.env.scope x=true
 l:j<f.ρ.length
theorem iU {j:Nat}{js:List Nat}{es:List PySem.Expr}(h:okN f.ρ.length f.env.scope f.vars (j::js) es=true):CA f j (rf (gp es))/\okN f.ρ.length f.env.scope f.vars js es.tail=true:=by
 obtain ⟨h1,h2⟩:=a2 h
 obtain ⟨h1,h3⟩:=a2 h1
 obtain ⟨h1,h4⟩:=a2 h1
 exact ⟨⟨List.contains_iff_mem.mp h1,h4,of_decide_eq_true h3⟩,h2⟩
theorem lF {i:Nat}{x:Str}{X:V}{v:Value}{ρ:Ro}{R:Unit->Shared->Prop}{E':Value->Shared->Prop}(hr:f.real=true)(h:CA f i x)(hl:ρ.length=f.ρ.length)(S:Sx G Z η ({f with ρ:=ρ}::r) s)(rx:Rel G.w.params Z X v)
  (k:∀s',Sx G Z η ({f with ρ:=ρ.set i (some X)}::r) s'->R () s'):wpAny (model G.prog G.w) A (storeName f.env x v) R E' s:=
 tr (f:={f with ρ:=ρ}) (i:=i) (X:=X) S h.m (zC (f:={f with ρ:=ρ}) hr (S.st.f _ List.mem_cons_self) rfl h.s) (by refine (?_:i<ρ.length);refine rW hl ?_;exact h.l) rx k
theorem y0 {js:List Nat}:∀{es:List PySem.Expr} {l:List V} {vals:List Value} {f:Fm} {ρ1:Ro} {s:Shared} {R:Unit->Shared->Prop} {E':Value->Shared->Prop},okN f.ρ.length f.env.scope f.vars js es=true->f.real=true->
  jw js l f.ρ=some ρ1->Sx G Z η (f::r) s->ar G.w.params Z l vals->(∀s',Sx G Z η ({f with ρ:=ρ1}::r) s'->R () s')->
  wpAny (model G.prog G.w) A (assignInOrder ((assignEach (sd js es) f.env).map (·.2)) vals) R E' s:=by
 induction js with
 | nil=>
  intro es l vals f ρ1 s R E' h hr hq S rl k
  cases l with
  | nil=>
   obtain rfl:_= []:=rl
   cases hq
   exact wpAny_pure (k s S)
  | cons=>cases hq
 | cons j js ih=>
  intro es l vals f ρ1 s R E' h hr hq S rl k
  obtain ⟨h1,h4⟩:=iU h
  cases l with
  | nil=>cases hq
  | cons X l=>
   obtain ⟨v,ws,rfl,r1,r2⟩:=rl
   refine (?_:wpAny _ _ (do holding ws (assign (wZ (gp es)) f.env v);assignInOrder ((assignEach (sd js es.tail) f.env).map (·.2)) ws) _ _ _)
   refine wpAny_bind (wpAny_holding (wpAny_assign_Name (lF (ρ:=f.ρ) hr h1 rfl S r1 λs' S'=>?_)))
   exact ih (f:={f with ρ:=f.ρ.set j (some X)}) (by refine (?_:okN (f.ρ.set j (some X)).length f.env.scope f.vars js es.tail=true);refine rW List.length_set ?_;exact h4) hr hq S' r2 k
theorem jv:∀{js:List Nat} {l:List V} {ρ ρ1:Ro},jw js l ρ=some ρ1->ρ1.length=ρ.length/\js.length=l.length:=by
 intro js
 induction js with
 | nil=>
  intro l ρ ρ1 h
  cases l with
  | nil=>cases h;exact ⟨rfl,rfl⟩
  | cons=>cases h
 | cons j js ih=>
  intro l ρ ρ1 h
  cases l with
  | nil=>cases h
  | cons X l=>
   obtain ⟨a,b⟩:=ih (l:=l) (ρ:=ρ.set j (some X)) h
   exact ⟨by exact rW a (rW List.length_set rfl),by exact rW List.length_cons (rW List.length_cons (rW b rfl))⟩
theorem r9 {env:Env}{js:List Nat}:∀{es:List PySem.Expr},(assignEach (sd js es) env).length=js.length/\(assignEach (sd js es) env).findIdx? (·.1)=none:=by
 induction js with
 | nil=>intro es;exact ⟨rfl,rfl⟩
 | cons j js ih=>
  intro es
  obtain ⟨a,b⟩:=ih (es:=es.tail)
  have e:assignEach (sd (j::js) es) env=(false,assign (wZ (gp es)) env)::assignEach (sd js es.tail) env:=rfl
  refine rW e ?_
  exact ⟨by exact rW List.length_cons (rW List.length_cons (rW a rfl)),by simp [List.findIdx?_cons,b]⟩
theorem uk {items:List V}{I:Addr}{T:Nat->Heap->Prop}(W:Wk G A Z items I T){E':Value->Shared->Prop}:∀(n j:Nat) (s:Shared) (R:List Value->Shared->Prop),j+n=items.length->T j s.heap->
  (∀vs h' tk,ar G.w.params Z (items.drop j) vs->T items.length h'->(∀b o,b≠I->s.heap.get? b=some o->h'.get? b=some o)->R vs {s with heap:=h',toks:=tk})->wpAny (model G.prog G.w) A (draw (.ref I) n) R E' s
 | 0,j,s,R,hj,hT,k=>by
  obtain rfl:j=items.length:=hj
  refine wpAny_pure (k [] s.heap s.toks (by refine rW List.drop_length ?_;rfl) hT λξ ξ ξ e=>e)
 | n+1,j,s,R,hj,hT,k=>by
  have hlt:j<items.length:=by exact lA (eL hj)
  refine (?_:wpAny _ _ (pyNext (.ref I)>>=_) R _ s)
  refine wpAny_bind (W.item j s _ _ items[j] (List.getElem?_eq_getElem hlt) hT λv h1 tk rv hT1 k1=>?_)
  refine wpAny_bind (wpAny_holding (uk W n (j+1) _ _ (by exact qA hj) hT1 λvs h2 tk2 rl hT2 k2=>wpAny_pure ?_))
  refine k (v::vs) h2 tk2 ?_ hT2 λb o hb e=>k2 b o hb (k1 b o hb e)
  refine rW (List.drop_eq_getElem_cons hlt) ?_
  exact ⟨v,vs,rfl,rv,rl⟩
theorem qp {js:List Nat}{es:List PySem.Expr}{k0:Nat}{pos:Pos}{X:V}{l:List V}{v:Value}{ρ ρ1:Ro}{R:Unit->Shared->Prop}{E':Value->Shared->Prop}(hA:A.handled=none)(h:okN f.ρ.length f.env.scope f.vars js es=true)(hr:f.real=true)(hl':ρ.length=f.ρ.length)
  (hX:X= .tup l\/X= .lst l) (hq:jw js l ρ=some ρ1) (S:Sx G Z η ({f with ρ:=ρ}::r) s) (rx:Rel G.w.params Z X v) (k:∀s',Sx G Z η ({f with ρ:=ρ1}::r) s'->R () s'):
  wpAny (model G.prog G.w) A (assign (.Tuple (sd js es) k0 pos) f.env v) R E' s:=by
 obtain ⟨n1,n2⟩:=r9 (env:=f.env) (js:=js) (es:=es)
 have hi:itemsOf X=some l:=by rcases hX with rfl|rfl<;>rfl
 have hn:∀{R:Bool->Shared->Prop},R false s->wpAny (model G.prog G.w) A (notIterableAtAll v) R E' s:=λq=>by
  unfold notIterableAtAll
  rcases hX with rfl|rfl
  ·obtain ⟨a,items,rfl,ht, -⟩:=tup_is S rx
   exact wpAny_bind (wpAny_specialOf ht.typeIs PySem.F.slot_tuple_iter.lookup (wpAny_pure q))
  ·obtain ⟨a,items,rfl,ht, -⟩:=lst_is (l:=l) S rx rfl
   exact wpAny_bind (wpAny_specialOf ht.typeIs PySem.F.slot_list_iter.lookup (wpAny_pure q))
 refine rW (arm_assign_Tuple ..) ?_
 refine wpAny_bind (wpAny_standAt ?_)
 unfold unpack
 refine rW n1 (rW n2 (rW ((jv hq).2) ?_))
 refine wpAny_bind (wpAny_holding ?_)
 unfold unpackItems
 refine wpAny_bind (hn ?_)
 simp only [Bool.false_eq_true,if_false]
 refine wpAny_bind (wpAny_holding (rJ hA S rx hi λT oI W hst hoI=>?_))
 refine wpAny_bind (wpAny_holding (uk W l.length 0 _ _ (Nat.zero_add _) hst λvs h1 tk rl hT k1=>?_))
 rw [List.drop_zero] at rl
 rw [if_neg (by refine rW rl.length ?_;exact Nat.lt_irrefl _)]
 refine wpAny_bind (wpAny_holding (W.done _ _ _ hT λh2 tk2 k2=>?_))
 simp only [Option.isSome_none,Bool.false_eq_true,if_false]
 refine wpAny_pure ?_
 have S':Sx G Z η ({f with ρ:=ρ}::r) {s with heap:=h2,toks:=tk2}:=Sx.keep S λb o e=>k2 b o (Nat.ne_of_lt (Heap.lt_size e)) (k1 b o (Nat.ne_of_lt (Heap.lt_size e)) (Heap.get?_push_of_some _ e))
 exact y0 (f:={f with ρ:=ρ}) (by refine (?_:okN ρ.length f.env.scope f.vars js es=true);refine rW hl' ?_;exact h) hr hq S' rl k
theorem p5 {js:List Nat}{X:V}{ρ ρ1:Ro}(h:m9 js true X ρ=some ρ1):∃l,(X= .tup l\/X= .lst l)/\jw js l ρ=some ρ1:=by
 cases X<;>first|exact ⟨_, .inl rfl,h⟩|exact ⟨_, .inr rfl,h⟩|cases h
theorem Cn {js:List Nat}{X:V}{ρ ρ1:Ro}(h:m9 js false X ρ=some ρ1):∃j,js= [j]/\ρ1=ρ.set j (some X):=by
 cases js with
 | nil=>cases h
 | cons j js=>
  cases js with
  | nil=>cases h;exact ⟨j,rfl,rfl⟩
  | cons=>cases h
theorem fE {v:PySem.Expr}{t:Option PySem.Expr}{line:Nat}{env:Env}(h:fT v=true):swapsWith v t line env=pure false:=by
 cases v<;>first|rfl|cases h
theorem rB {v:PySem.Expr}{x:Str}{p:Pos}{line:Nat}{env:Env}(h:env.scope.names.lookup x=some .cell):swapsWith v (some (.Name x p)) line env=pure false:=by
 have hk:(env.kindOf x==some .local)=false:=by unfold Env.kindOf;refine rW h ?_;rfl
 cases v<;>first|rfl|(unfold swapsWith;simp [hk])
theorem DR {i:Nat}{pe:WX×WC}{x:Str}{p pos:Pos}{v:PySem.Expr}(hr:f.real=true)(hn:CA f i x)(hc:(fT v||f.env.scope.names.lookup x==some .cell)=true)(he:g0 G n pe v f r A):
  fg G n (λE η ρ K=>pe.1 E η ρ λX η1=>K.nx η1 (ρ.set i (some X))) (exec (.Assign [.Name x p] v pos)) f r A:=λE η ρ K hq hl Z s S=>by
 have hs:swapsWith v (some (.Name x p)) pos.line f.env=pure false:=by
  rw [Bool.or_eq_true] at hc
  rcases hc with hc|hc
  ·exact fE hc
  ·exact rB (eq_of_beq hc)
 refine wpAny_Assign_Name (((he ρ hl).1 _ _ _ hq).run S λZ1 η1 X u s1 hz1 S1 rx q=>?_) hs
 exact lF hr hn hl S1 rx λs2 S2=>⟨Z1,η1,ρ.set i (some X),hz1,by simp,S2,q⟩
theorem B2 {po pe:WX×WC}{x:Str}{p pos:Pos}{o' v:PySem.Expr}(hc:fT v=true)(he:g0 G n pe v f r A)(ho:g0 G n po o' f r A):
  fg G n (λE η ρ K=>pe.1 E η ρ λY η1=>po.1 E η1 ρ λX η2=>jq G.dP X x Y η2 λη3=>K.nx η3 ρ) (exec (.Assign [.Attribute o' x p] v pos)) f r A:=λE η ρ K hq hl Z s S=>by
 refine plainObj_wpAny_Assign_Attribute (((he ρ hl).1 _ _ _ hq).run S λZ1 η1 Y u s1 hz1 S1 ry hq=>weaken hz1 ?_ λξ ξ x=>x) (fE hc)
 refine ((ho ρ hl).1 _ _ _ hq).run S1 λZ2 η2 X w s2 hz2 S2 rx q=>?_
 exact Ah S2 rx (ry.mono hz2) q λη3 s3 S3 q=>⟨Z2,η3,ρ,StaysIn.trans hz1 hz2,rfl,S3,q⟩
theorem B1 {po pi pe:WX×WC}{p pos:Pos}{o' i' v:PySem.Expr}(hc:fT v=true)(he:g0 G n pe v f r A)(ho:g0 G n po o' f r A)(hi:g0 G n pi i' f r A):
  fg G n (λE η ρ K=>pe.1 E η ρ λY η1=>po.1 E η1 ρ λX η2=>pi.1 E η2 ρ λI η3=>ru X I Y η3 λη4=>K.nx η4 ρ) (exec (.Assign [.Subscript o' i' p] v pos)) f r A:=λE η ρ K hq hl Z s S=>by
 refine wpAny_Assign_Subscript (((he ρ hl).1 _ _ _ hq).run S λZ1 η1 Y u s1 hz1 S1 ry hq=>weaken hz1 ?_ λξ ξ x=>x) (fE hc)
 refine ((ho ρ hl).1 _ _ _ hq).run S1 λZ2 η2 X w s2 hz2 S2 rx hq=>weaken (StaysIn.trans hz1 hz2) ?_ λξ ξ x=>x
 refine ((hi ρ hl).1 _ _ _ hq).run S2 λZ3 η3 I w s3 hz3 S3 ri q=>?_
 exact Ai S3 (rx.mono hz3) ri (ry.mono (StaysIn.trans hz2 hz3)) q λη4 s4 S4 q=>⟨Z3,η4,ρ,StaysIn.trans (StaysIn.trans hz1 hz2) hz3,rfl,S4,q⟩
theorem B0 {js:List Nat}{pe:WX×WC}{ts:List PySem.Expr}{k0:Nat}{p pos:Pos}{v:PySem.Expr}(hA:gA A (f::r) n)(hr:f.real=true)(hn:okN f.ρ.length f.env.scope f.vars js ts=true)(hc:fT v=true)(ht:noTuple v=true)(he:g0 G n pe v f r A):
  fg G n (λE η ρ K=>pe.1 E η ρ λX η1=>xX (m9 js true X ρ) λρ1=>K.nx η1 ρ1) (exec (.Assign [.Tuple (sd js ts) k0 p] v pos)) f r A:=λE η ρ K hq hl Z s S=>by
 have hw:swappedStores [.Tuple (sd js ts) k0 p] v f.env=pure none:=by clear he hc;cases v<;>first|rfl|cases ht
 refine wpAny_Assign_stores (((he ρ hl).1 _ _ _ hq).run S λZ1 η1 X u s1 hz1 S1 rx q=>?_) (show swapsWith v (some (.Tuple (sd js ts) k0 p)) pos.line f.env=pure false from fE hc) hw
 obtain ⟨ρ1,ht1,q'⟩:=iX q
 obtain ⟨l,hX,ht1⟩:=p5 ht1
 refine (?_:wpAny _ _ (assignAll u [assign (.Tuple (sd js ts) k0 p) f.env]) _ _ _)
 exact qp hA.handled hn hr hl hX ht1 S1 rx λs2 S2=>⟨Z1,η1,ρ1,hz1,(jv ht1).1,S2,q'⟩
theorem B4 {i:Nat}{o:Operator}{pe:WX×WC}{x:Str}{p pos:Pos}{v:PySem.Expr}(hr:f.real=true)(hn:CA f i x)(he:g0 G n pe v f r A):
  fg G n (λE η ρ K=>gv ρ i λX=>pe.1 E η ρ λY η1=>lO o X Y η1 λW η2=>K.nx η2 (ρ.set i (some W))) (exec (.AugAssign (.Name x p) o v pos)) f r A:=λE η ρ K hq hl Z s S=>by
 obtain ⟨X,hX,hq⟩:=kT hq
 have F:=S.st.f _ List.mem_cons_self
 refine wpAny_AugAssign_Name ?_
 obtain ⟨m,hns,hv⟩:=F.ns
 have main:∀v0,Rel G.w.params Z X v0->wpAny (model G.prog G.w) A (eval v f.env) (λv s₂=>wpAny (model G.prog G.w) A (inplaceOp o v0 v) (λw s₃=>wpAny (model G.prog G.w) A (storeName f.env x w) (λξ=>PF G Z {f with ρ:=ρ} r K .next) (PX G Z ({f with ρ:=ρ}::r) E) s₃) (PX G Z ({f with ρ:=ρ}::r) E) s₂) (PX G Z ({f with ρ:=ρ}::r) E) s:=λv0 r0=>by
  refine ((he ρ hl).1 _ _ _ hq).run S λZ1 η1 Y u s1 hz1 S1 ry q=>weaken hz1 (wpAny_mono (wi (E:=E) S1 (r0.mono hz1) ry q) (λw s2 h2=>?_) λξ ξ x=>x) λξ ξ x=>x
  obtain ⟨Z2,η2,W,hz2,S2,rw,q⟩:=h2
  exact lF hr hn hl S2 rw λs3 S3=>⟨Z2,η2,ρ.set i (some W),StaysIn.trans hz1 hz2,by simp,S3,q⟩
 rcases hv i x X hn.m hX with ⟨hk,v0,e0,r0⟩|⟨hk,c,v0,hc,hcell,r0⟩
 ·exact wpAny_loadName_local F.kind hk hns e0 (main v0 r0)
 ·exact wpAny_loadName_cell F.kind hk hc hcell (main v0 r0)
theorem B6 {o:Operator}{pb pe:WX×WC}{x:Str}{p pos:Pos}{b' v:PySem.Expr}(hb:g0 G n pb b' f r A)(he:g0 G n pe v f r A):
  fg G n (λE η ρ K=>pb.1 E η ρ λB η1=>vE (eu G.dP B x η1) λX=>pe.1 E η1 ρ λY η2=>lO o X Y η2 λW η3=>jq G.dP B x W η3 λη4=>K.nx η4 ρ) (exec (.AugAssign (.Attribute b' x p) o v pos)) f r A:=λE η ρ K hq hl Z s S=>by
 refine wpAny_AugAssign_AttributeAny (((hb ρ hl).1 _ _ _ hq).run S λZ1 η1 B vb s1 hz1 S1 rb ⟨X,hX,hq⟩=>weaken hz1 (wpAny_mono (Ak (E:=E) S1 rb hX (Q:=λY η=>Y=X/\η=η1) ⟨rfl,rfl⟩) (λv1 s2 h2=>?_) λξ ξ x=>x) λξ ξ x=>x)
 clear hX S1;obtain ⟨Z2,η2,X',hz2,S2,rx,rfl,rfl⟩:=h2
 have hz:=StaysIn.trans hz1 hz2
 refine weaken hz (((he ρ hl).1 _ _ _ hq).run S2 λZ3 η3 Y v2 s3 hz3 S3 ry q=>?_) λξ ξ x=>x
 have hz':=StaysIn.trans hz hz3
 refine weaken hz' (wpAny_mono (wi (E:=E) S3 (rx.mono hz3) ry q) (λw s4 h4=>?_) λξ ξ x=>x) λξ ξ x=>x
 obtain ⟨Z4,η4,W,hz4,S4,rw,q⟩:=h4
 exact Ah S4 (rb.mono (StaysIn.trans (StaysIn.trans hz2 hz3) hz4)) rw q λη5 s5 S5 q=>⟨Z4,η5,ρ,StaysIn.trans hz' hz4,rfl,S5,q⟩
theorem vn {i:PySem.Expr}(h:gT i=true):∀ov iv new,augStore i ov iv new=(do holding [new,ov,iv] (setItem ov iv new);release [new,ov,iv] [];pure .next):=by
 intro ov iv new
 cases i<;>first|rfl|cases h
theorem B5 {o:Operator}{pb pi pe:WX×WC}{p pos:Pos}{b' i' v:PySem.Expr}(hp:gT i'=true)(hb:g0 G n pb b' f r A)(hi:g0 G n pi i' f r A)(he:g0 G n pe v f r A):
  fg G n (λE η ρ K=>pb.1 E η ρ λB η1=>pi.1 E η1 ρ λI η2=>wK B λa=>eh I λk=>∃l X,η2 a=some (.list l)/\jo l k=some X/\pe.1 E η2 ρ λY η3=>lO o X Y η3 λW η4=>ru (.ref a) (.int k) W η4 λη5=>K.nx η5 ρ) (exec (.AugAssign (.Subscript b' i' p) o v pos)) f r A:=λE η ρ K hq hl Z s S=>by
 refine wpAny_AugAssign_SubscriptAny (((hb ρ hl).1 _ _ _ hq).run S λZ1 η1 B vb s1 hz1 S1 rb hq=>weaken hz1 (((hi ρ hl).1 _ _ _ hq).run S1 λZ2 η2 I vi s2 hz2 S2 ri hq=>?_) λξ ξ x=>x) (vn hp)
 have hz:=StaysIn.trans hz1 hz2
 obtain ⟨a,rfl,hq⟩:=kO hq rb
 obtain ⟨k,t,rfl,l,X,hL,hX,hq⟩:=aE hq ri
 obtain ⟨items,nn,h1,h2⟩:=(S2.st.e _ _ hL).2
 obtain ⟨hf,hX⟩:=pM hX
 obtain ⟨v1,hv,rx⟩:=pL h2 hX
 refine kU (iV h1) hf (by simpa using hv) ?_
 refine weaken hz (((he ρ hl).1 _ _ _ hq).run S2 λZ3 η3 Y v2 s3 hz3 S3 ry q=>?_) λξ ξ x=>x
 have hz':=StaysIn.trans hz hz3
 refine weaken hz' (wpAny_mono (wi (E:=E) S3 (rx.mono hz3) ry q) (λw s4 h4=>?_) λξ ξ x=>x) λξ ξ x=>x
 obtain ⟨Z4,η4,W,hz4,S4,rw,q⟩:=h4
 exact Ai S4 iR bh rw q λη5 s5 S5 q=>⟨Z4,η5,ρ,StaysIn.trans hz' hz4,rfl,S5,q⟩
theorem DN {pe:WX×WC}{v:PySem.Expr}{pos:Pos}(he:g0 G n pe v f r A):
  fg G n (λE η ρ K=>pe.1 E η ρ λX η1=>K.rt X η1) (exec (.Return (some v) pos)) f r A:=λE η ρ K hq hl Z s S=>
 wpAny_Return_some (((he ρ hl).1 _ _ _ hq).run S λZ1 η1 X u s1 hz1 S1 rx q=>⟨Z1,η1,ρ,hz1,rfl,S1,X,rx,q⟩)
theorem B3 {pe:WX×WC}{v:PySem.Expr}{pos:Pos}(hk:f.env.scope.kind= .function)(hc:fT v=true)(he:g0 G n pe v f r A):
  fg G n (λE η ρ K=>pe.1 E η ρ λξ η1=>K.nx η1 ρ) (exec (.Expr v pos)) f r A:=λE η ρ K hq hl Z s S=>
 wpAny_Expr_any (((he ρ hl).1 _ _ _ hq).run S λZ1 η1 X u s1 hz1 S1 rx q=>⟨Z1,η1,ρ,hz1,rfl,S1,q⟩) (by unfold interactive;refine rW hk ?_;rfl) (fE hc)
theorem PF.weak {Z Z':Heap}{ρ ρ':Ro}{K:Kp}{fl:Flow}{s:Shared}(k:Z.StaysIn Z')(hl:ρ'.length=ρ.length)(h:PF G Z' {f with ρ:=ρ'} r K fl s):PF G Z {f with ρ:=ρ} r K fl s:=by
 obtain ⟨Z2,η2,ρ2,a,b,c,d⟩:=h
 exact ⟨Z2,η2,ρ2,StaysIn.trans k a,b.trans hl,c,d⟩
theorem DP {pc:WX×WC}{t:PySem.Expr}{w1 w2:yq}{b1 b2:List Stmt}{pos:Pos}(hc:g0 G n pc t f r A)(h1:fg G n w1 (execs b1) f r A)(h2:fg G n w2 (execs b2) f r A):
  fg G n (λE η ρ K=>pc.2 E η ρ λt η1=>if t then w1 E η1 ρ K else w2 E η1 ρ K) (exec (.If t b1 b2 pos)) f r A:=λE η ρ K hq hl Z s S=>by
 refine wpAny_If (((hc ρ hl).2 _ _ _ hq).run S λZ1 η1 b s1 hz1 S1 q=>?_)
 cases b with
 | true=>exact weaken hz1 (h1 E η1 ρ K q hl Z1 s1 S1) λfl s x=>PF.weak hz1 rfl x
 | false=>exact weaken hz1 (h2 E η1 ρ K q hl Z1 s1 S1) λfl s x=>PF.weak hz1 rfl x
theorem DK {pc:WX×WC}{t:PySem.Expr}{w:yq}{b:List Stmt}{pos:Pos}(hA:gA A (f::r) n)(hr:f.real=true)(hc:g0 G n pc t f r A)(hb:fg G n w (execs b) f r A):
  fg G n (λE η ρ K=>yx (λη ρ Q=>pc.2 E η ρ Q) (λη ρ K=>w E η ρ K) K η ρ) (exec (.While t b [] pos)) f r A:=λE η ρ K hq hl=>
 yz hr hA.frames (λη ρ Q hq hl=>(hc ρ hl).2 _ _ _ hq) (λη ρ K hq hl=>hb E η ρ K hq hl) hl hq
theorem Az {js:List Nat}{tup:Bool}{ps:WX×WC}{tg it:PySem.Expr}{w:yq}{b:List Stmt}{pos:Pos}(hA:gA A (f::r) n)(hr:f.real=true)
  (ht:∀ex X ρ ρ',m9 js tup X ρ=some ρ'->ρ.length=f.ρ.length->ρ'.length=ρ.length/\∀Z η s v (R:Unit->Shared->Prop) E',Sx G Z η ({f with ρ:=ρ,extra:=ex}::r) s->Rel G.w.params Z X v->(∀s',Sx G Z η ({f with ρ:=ρ',extra:=ex}::r) s'->R () s')->wpAny (model G.prog G.w) A (assign tg f.env v) R E' s)
  (hi:fo it=true) (hs:g0 G n ps it f r A) (hb:∀ex,fg G n w (execs b) {f with extra:=ex} r A):
  fg G n (λE η ρ K=>ps.1 E η ρ λX η1=>yl X λitems=>fX (m9 js tup) (λη ρ K=>w E η ρ K) K.nx K.rt items η1 ρ) (exec (.For tg it b [] pos)) f r A:=λE η ρ K hq hl=>
 CK hA.handled hr hA.frames (md hi) ht (λex η ρ K hq hl=>hb ex E η ρ K hq hl) ((hs ρ hl).1 _ _ _ hq) hl
theorem A4 {j:Nat}{x:Str}{p:Pos}(hr:f.real=true)(hn:CA f j x):∀ex X ρ ρ',m9 [j] false X ρ=some ρ'->ρ.length=f.ρ.length->ρ'.length=ρ.length/\∀Z η s v (R:Unit->Shared->Prop) E',Sx G Z η ({f with ρ:=ρ,extra:=ex}::r) s->Rel G.w.params Z X v->(∀s',Sx G Z η ({f with ρ:=ρ',extra:=ex}::r) s'->R () s')->wpAny (model G.prog G.w) A (assign (.Name x p) f.env v) R E' s:=λex X ρ ρ' hT hlρ=>by
 cases hT
 exact ⟨by simp,λZ η s v R E' S rx k=>wpAny_assign_Name (lF (f:={f with extra:=ex}) hr ⟨hn.m,hn.s,hn.l⟩ hlρ S rx k)⟩
theorem A3 {js:List Nat}{ts:List PySem.Expr}{k0:Nat}{p:Pos}(hA:A.handled=none)(hr:f.real=true)(hn:okN f.ρ.length f.env.scope f.vars js ts=true):∀ex X ρ ρ',m9 js true X ρ=some ρ'->ρ.length=f.ρ.length->ρ'.length=ρ.length/\∀Z η s v (R:Unit->Shared->Prop) E',Sx G Z η ({f with ρ:=ρ,extra:=ex}::r) s->Rel G.w.params Z X v->(∀s',Sx G Z η ({f with ρ:=ρ',extra:=ex}::r) s'->R () s')->wpAny (model G.prog G.w) A (assign (.Tuple (sd js ts) k0 p) f.env v) R E' s:=λex X ρ ρ' hT hlρ=>by
 obtain ⟨l,hX,hT⟩:=p5 hT
 exact ⟨(jv hT).1,λZ η s v R E' S rx k=>qp (f:={f with extra:=ex}) hA hn hr hlρ hX hT S rx k⟩
variable (hG:Gl G)
include hG
noncomputable abbrev tb (G:Gc):Tb:=⟨G.fns,G.Ar⟩
theorem ex {x:X}{e:PySem.Expr}(hA:gA A (f::r) n)(h:ok (tb G) f.ρ.length x f.env.scope f.vars e=true):g0 G n (wp G n x) (mk x e) f r A:=λρ hl=>
 snd hG x (by refine (?_:ok (tb G) ρ.length x f.env.scope f.vars e=true);refine rW hl ?_;exact h) hA.ro
theorem B7 {i j:Nat}{m:Bool}{e src:X}{v0:PySem.Expr}{x:Str}{p sp:Pos}(hA:gA A (f::r) n)(hr:f.real=true)(hk:f.env.scope.names.lookup x=some .local)(h1:(!((wg v0).names.any λz=>z.1==x&&(z.2== .local||z.2== .cell)))=true)(h2:(p.line==v0.pos.line)=true)(hkind:f.env.scope.kind= .function)
  (hn:CA f i x) (h:ok (tb G) f.ρ.length (.comp m j e src) f.env.scope f.vars v0=true):
  fg G n (λE η ρ K=>(wp G n src).1 E η ρ λX η1=>yl X λitems=>cX (λY η Q=>(wp G n e).1 False η (ρ.set j (some Y)) Q) items [] η1 λl η2=>eA m l η2 λY η3=>K.nx η3 (ρ.set i (some Y)))
   (exec (.Assign [.Name x p] (mk (.comp m j e src) v0) sp)) f r A:=λE η ρ K hq hl Z s S=>by
 obtain ⟨h5',h6⟩:=a2 h
 obtain ⟨h5',h5⟩:=a2 h5'
 obtain ⟨h3,h4⟩:=a2 h5'
 have C:=xS (f:={f with ρ:=ρ}) (by refine (?_:mP ρ.length f.env.scope _ _ _=true);rw [hl];exact h3)
 obtain ⟨cl,hcl⟩:=xQ C (S.st.f _ List.mem_cons_self)
 have hsw:swapsWith (mk (.comp m j e src) v0) (some (.Name x p)) sp.line f.env=pure true:=by
  have hb:f.env.blockKind= .function:=by unfold Env.blockKind;refine rW hkind ?_;rfl
  have hk':f.env.kindOf x=some .local:=hk
  refine (?_:(pure (f.env.blockKind== .function&&f.env.kindOf x==some .local&&p.line==v0.pos.line&& !((wg v0).names.any λ(n,k)=>n==x&&(k== .local||k== .cell))):Sem Bool)=pure true)
  refine rW hb (rW hk' (rW h2 ?_))
  refine rW (show (!((wg v0).names.any λ(n,k)=>n==x&&(k== .local||k== .cell)))=true from h1) ?_
  rfl
 refine rp (f:={f with ρ:=ρ}) (m:=m) hA.handled C hcl (md h4) (body:=λY η Q=>(wp G n e).1 False η (ρ.set j (some Y)) Q) hsw hn.m (.inl hk) (by refine (?_:i<ρ.length);refine rW hl ?_;exact hn.l) (λL Y η Q hb g g1 g2 g3 g4=>?_) ((ex hG hA h5 ρ hl).1 _ _ _ hq) S
  λZ' η' X s' hz S' q=>⟨Z',η',ρ.set i (some X),hz,by simp,S',q⟩
 have hS:=snd hG e (e:=kA v0) (f:=g) (r:={f with ρ:=ρ}::r) (A:=A) (n:=n) (by
  have e0:g.env.scope={wg v0 with names:=jS f.env.scope (wg v0).names}:=by refine rW g1 ?_;rfl
  refine rW e0 (rW g2 (rW g3 (rW List.length_set ?_)))
  refine (?_:ok (tb G) ρ.length e _ _ (kA v0)=true)
  refine rW hl ?_;exact h6) ((hA.ro (ρ:=ρ)).pseudo g4)
 exact hS.1 False η Q (by refine rW g3 ?_;exact hb)
end
section
variable {G:Gc}{n:Nat}(hG:Gl G)
include hG
omit hG in
theorem BU:∀{fs:List Fm} (_:(fs.flatMap Fm.own).Nodup) {f g:Fm} (_:f∈fs) (_:g∈fs) {p:Addr×Obj} (_:p∈f.extra),p.1≠g.env.locals:=by
 intro L_
 induction L_ with
 | nil=>
  intro _ _ _ hf _ _ _
  exact nomatch hf
 | cons x fs ih=>
  intro nd f g hf hg p hp
  rw [List.flatMap_cons,List.nodup_append] at nd
  have he:∀{f:Fm},p∈f.extra->p.1∈f.own:=λh=>List.mem_append_right _ (List.mem_map_of_mem h)
  rcases List.mem_cons.mp hf with rfl|hf'<;>rcases List.mem_cons.mp hg with rfl|hg'
  ·exact λz=>(List.nodup_append.mp nd.1).2.2 _ gu _ (List.mem_map_of_mem hp) z.symm
  ·exact nd.2.2 _ (he hp) _ (List.mem_flatMap.mpr ⟨g,hg',eF⟩)
  ·exact λz=>nd.2.2 _ eF _ (List.mem_flatMap.mpr ⟨f,hf',he hp⟩) z.symm
  ·exact ih nd.2.1 hf' hg' hp
omit hG in
theorem Bp {Z:Heap}{fs:List Fm}{s:Shared}{E:Prop}{e:Addr}{d:Option Addr}(S:Sx G Z (upd nul e (.exc G.kF d)) fs s)(hE:E):PX G Z fs E (.ref e) s:=by
 have ee:upd nul e (.exc G.kF d) e=some (.exc G.kF d):=if_pos rfl
 obtain ⟨ze,o,vs,a0,ho,hc,_,hd,h0,h1⟩:=S.st.e e _ ee
 have own_e:∀{a},a∈fs.flatMap Fm.own->a≠e:=λha z=>by
  have:=(S.st.own _ ha).2
  rw [z,ee] at this;cases this
 let p:Addr->Prop:=λb=>b≠e/\∀g∈fs,b≠g.env.locals
 have hp:∀b,p b->(restrict s.heap p).get? b=s.heap.get? b:=λb h=>by refine rW (bq ..) ?_;exact if_pos h
 have hn:∀b,¬p b->(restrict s.heap p).get? b=none:=λb h=>by refine rW (bq ..) ?_;exact if_neg h
 refine ⟨hE,Z,restrict s.heap p,fs,e,StaysIn.refl Z, .inl rfl,rfl,S.move (t:=s.toks) ⟨S.st.z,λa x q=>(by cases q),S.st.f,λa ha=>⟨(S.st.own a ha).1,rfl⟩,S.st.nd,S.st.cl⟩,λb ob hb=>?_,λf hf q hq=>?_,λb ob hb=>?_,hn e λh=>h.1 rfl,?_, .inl ⟨o,vs,a0,ho,hc,hd,h0,h1⟩⟩
 ·rw [hp b ⟨λz=>(by rw [z,ze] at hb;cases hb),λg hg z=>?_⟩]
  ·exact S.st.z _ _ hb
  ·rw [z,(S.st.own _ (S.st.eH hg (.inl rfl))).1] at hb;cases hb
 ·refine rW (hp _ ⟨own_e (S.st.eH hf (.inr (.inr (List.mem_map_of_mem hq)))),λg hg=>BU S.st.nd hf hg hq⟩) ?_
  exact (S.st.f f hf).ext q hq
 ·rw [bq] at hb
  split at hb
  ·exact hb
  ·cases hb
 ·have F:=S.st.f
  have:∀l:List Fm,(∀g∈l,g∈fs)->s.heap.FunFrames (restrict s.heap p) (aT l):=λl=>by
   induction l with
   | nil=>exact λξ=>trivial
   | cons g l ih=>
    intro hl
    have i:=ih λx hx=>hl x (List.mem_cons_of_mem _ hx)
    have hg:=hl g List.mem_cons_self
    refine rW (aJ ..) ?_
    cases hr:g.real with
    | false=>exact i
    | true=>
     obtain ⟨m,⟨o,es,ep,ho,hd,_⟩,_⟩:=(F g hg).ns
     refine ⟨λz=>(by have:=(F g hg).kind;rw [this] at z;cases z),⟨_,o,(F g hg).frame hr,hn _ λh=>h.2 g hg rfl,ho,λvs z=>(by rw [hd] at z;cases z)⟩,i⟩
  exact this fs λξ h=>h
omit hG in
theorem rP {A:Around}{M:Model}{E:Value->Shared->Prop}{K:Frag}{C:Addr}{env:Env}{s:Shared}{x:Sem Value}{Q:Flow->Shared->Prop}(D:AI K C)(hh:A.handled=none)
  (h:wpAny M A x (λv s₁=>∃e oe vs,v= .ref e/\K.In s₁.heap/\s₁.heap.get? e=some oe/\oe.cls= .ref C/\oe.data= .fields vs/\vs[1]?=some .none/\E (.ref e) s₁) E s):
  wpAny M A (raiseStmt env (some x) none) Q E s:=by
 obtain ⟨nm,q,N,bs,bm,hdc,sn,sub,ab,col,dd,k0,k1,k2,k3,k5,hk,hbase,_⟩:=D
 have hcB:(Value.ref C::bm).contains (.type "BaseException")=true:=by exact rW List.contains_cons (rW hbase (rW (Bool.or_true ..) rfl))
 unfold raiseStmt
 refine wpAny_bind (wpAny_mono h (λv s₁ h₁=>?_) λξ ξ x=>x)
 obtain ⟨e,⟨cls,dict,data,slots⟩,vs,rfl,hK,he,hc,hd,h1,hE⟩:=h₁
 dsimp only at hc hd
 subst hc hd
 have hC:=hK _ _ hk
 obtain ⟨hp,g,d,tk,os⟩:=s₁
 repeat (first|with_reducible refine wpAny_loadPart_at he ?_|with_reducible refine wpAny_loadPart_at hC ?_|(with_reducible refine wpAny_isSubtype_exc hC ?_;refine rW hcB ?_)|wp_step)
 refine rW h1 ?_
 repeat wp_step
 exact wpAny_raiseNew_none hh hE
theorem DO {A:Around}{f:Fm}{r:List Fm}{pe:WX×WC}{v:PySem.Expr}{p p2 pos:Pos}(hA:gA A (f::r) n)(hg:iF f.env.scope "Die"=true)(hv:noStar v=true)(he:g0 G n pe v f r A):
  fg G n (λE η ρ ξ=>pe.1 E η ρ λX ξ=>rQ E n X) (exec (.Raise (some (.Call (.Name "Die" p) [v] [] p2)) none pos)) f r A:=λE η ρ K hq hl Z s S=>by
 refine rW (arm_exec_Raise ..) ?_
 refine wpAny_bind (wpAny_standAt (rP hG.BV hA.handled ?_))
 have hs:j8 G n [pe] [v] {f with ρ:=ρ} r A:=⟨hv,he ρ hl,trivial⟩
 have w:=iN (f:={f with ρ:=ρ}) (ps:= [pe]) (E:=E) (η:=η) (pos:=p2) (p:=p) (Q0:=λl ξ=>match l with| [X]=>rQ E n X|_=>False) (Q:=λY η'=>E/\∃e d,Y= .ref e/\η'=upd nul e (.exc G.kF d)) hg hs
  (λξ ξ=> .inr (.inr ⟨_,rfl,by obtain ⟨_,_,_,_,_,_,_,_,_,_,_,_,_,_,_,_,_,_,k⟩:=hG.BV;exact k⟩)) hG.kF hq λl η' q Z' s' vals S' rl=>by
   match l,q with
   | [X],q=>
    obtain ⟨hE,⟨x,rfl⟩,hn⟩:=q
    obtain ⟨v0,_,rfl,rv,rfl⟩:=rl
    have hA':gA A (f::r) (n-3+3):=(Nat.sub_add_cancel hn).symm▸hA
    refine wpAny_mono (hG.Dn hA'.ro S' rv) (λw s1 ⟨Z1,e,d,hz,hw,S1⟩=>?_) λξ ξ z=>z.elim
    exact ⟨Z1,_, .ref e,hz,S1,hw▸iR,hE,e,d,rfl,rfl⟩
 refine wpAny_bind (wpAny_mono (w Z s S) (λv s1 ⟨Z1,η1,X,hz,S1,rx,hE,e,d,h1,h2⟩=>wpAny_bind (wpAny_standAt (wpAny_pure ?_))) λξ ξ x=>x)
 subst h1 h2
 obtain rfl:=fR rx
 obtain ⟨_,o,vs,a0,ho,hc,_,hd,_,h1⟩:=S1.st.e e _ (if_pos rfl)
 exact ⟨e,o,vs,rfl,S1.bs.k.keeps S1.st.z,ho,hc,hd,h1,(Bp S1 hE).weak hz⟩
omit hG in
theorem xC {A:Around}{E':Value->Shared->Prop}{R:Value->Shared->Prop}{Z:Heap}{η:Hm}{f:Fm}{r:List Fm}{s:Shared}{x:Str}{pos:Pos}{X:V}(S:Sx G Z η (f::r) s)(hg:G.gt.lookup x=some X)(hk:f.env.kindOf x=some .globalImplicit)(hd:(x==("__debug__":Str))=false)
  (k:∀v,Rel G.w.params Z X v->R v s):wpAny (model G.prog G.w) A (eval (.Name x pos) f.env) R E' s:=by
 have F:=S.st.f f List.mem_cons_self
 obtain ⟨mg,mb,a,b,c⟩:=S.bs.glob
 obtain ⟨v,e,rl⟩:=c x X hg
 have a':=a.keeps S.st.z
 have b':=b.keeps S.st.z
 refine Calls.Name_function_global F.kind hk ?_ hd
 rcases e with e|⟨e0,e⟩
 ·exact Calls.loadGlobal_global (F.glob▸a') e (k v rl)
 ·exact Calls.loadGlobal_builtin (F.glob▸a') e0 (F.blt▸b') e (k v rl)
omit hG in
theorem St.blank {P:Params}{Z h:Heap}{η:Hm}{f:Fm}{r:List Fm}{k:Nat}(S:St P Z η (f::r) h):St P Z η ({f with ρ:=List.replicate k none}::r) h:=by
 refine ⟨S.z,S.e,λg hg=>?_,S.own,S.nd,S.cl⟩
 rcases List.mem_cons.mp hg with rfl|hg
 ·obtain ⟨⟨m,hn,hv⟩,u2,u3,u4,u5,u6,u7,u8,u9⟩:=S.f f List.mem_cons_self
  refine ⟨⟨m,hn,λi y W hj hw=>?_⟩,u2,u3,u4,u5,u6,u7,u8,u9⟩
  obtain ⟨hi,hw⟩:=List.getElem?_eq_some_iff.mp hw
  rw [List.getElem_replicate] at hw;cases hw
 ·exact S.f g (List.mem_cons_of_mem _ hg)
theorem DM {A:Around}{f:Fm}{r:List Fm}{w1:yq}{b:List Stmt}{c:PySem.Expr}{p p2 p3 pos:Pos}(hA:gA A (f::r) n)(hr:f.real=true)(hg:iF f.env.scope "Die"=true)(h1:fg G n w1 (execs b) f r A):
  fg G n (λξ η ρ K=>w1 (K.rt .none nul) η ρ K) (exec (.Try b [⟨some (.Name "Die" p),none,[.Return (some (mk .au c)) p3],p2⟩] [] [] pos)) f r A:=λE η ρ K hq hl Z s S=>by
 refine wpAny_Try_except (wpAny_mono (h1 (K.rt .none nul) η ρ K hq hl Z s S) (λfl s1 x=>?_) λe s1 x=>?_)
 ·cases fl with
  | next=>exact wpAny_execs_nil x
  | brk=>exact x
  | cont=>exact x
  | ret v=>exact x
 ·refine wpAny_mono (vG (f:={f with ρ:=ρ}) hr (hA.ro (ρ:=ρ)).frames x) (λξ s2 y=>?_) λξ ξ z=>z.elim
  clear x;obtain ⟨hE,Z',B,fs',a,hz,ht,rfl,S2,zB,ext,hB,ha,hF,a0,hT⟩:=y
  obtain ⟨ρ',rfl⟩:=bV ht
  refine wpAny_setFlight_noneW hB hF hT λh3 k1 k2 k3 k4=>?_
  have S3:=S2.move (t:=s2.toks) (S2.st.mw zB k1 ext (λb o hb hn=>⟨o.slots,k4 b o hb hn⟩))
  obtain ⟨hk1,hd⟩:=j4 hg
  refine wpAny_handleBy_cons (codeAny_handlers_test (xC (f:={f with ρ:=ρ'}) S3 hG.kF hk1 hd λv rv=>?_)) (by intro q;cases q)
  obtain rfl:=o9 rv
  have F3:Heap.FlyingW B (aT ({f with ρ:=ρ}::r)) a (.ref G.kF) a0 h3:=⟨k1,ha,k2,k3⟩
  obtain ⟨ob,hob,hobc⟩:=F3.there
  obtain ⟨nm,q,N,bs,bm,hdc,sn,sub,ab,col,dd,q0,q1,q2,q3,q5,hk,hbase,_⟩:=hG.BV
  refine wpAny_excMatches_sub_self (S3.bs.k.keeps S3.st.z _ _ hk) hob hobc hbase (codeAny_handlers_suite ?_)
  refine lands_againW F3 λh6 F6 sm=>?_
  have S6:=S3.move (t:=s2.toks) (S3.st.mw zB F6.1 ext sm)
  refine wpAny_execs_cons (wpAny_Return_none (env:=f.env) ?_)
  exact ⟨Z',nul,_,hz,List.length_replicate,S6.move (t:=s2.toks) (S6.st.blank (k:=ρ.length)), .none,gF,hE⟩
omit hG in
theorem DQ {A:Around}{f:Fm}{r:List Fm}{i:Nat}{w:yq}{b:List Stmt}(h:fg G n w (execs b) f r A):
  fg G n (λE η ρ K=>gv ρ i λX=>m7 X η λY η1=>w E η1 (ρ.set i (some Y)) K) (execs b) f r A:=λE η ρ K hq hl Z s S=>by
 obtain ⟨X,hX,hq⟩:=kT hq
 have hi:i<ρ.length:=(List.getElem?_eq_some_iff.mp hX).1
 cases X with
 | ref a=>
  obtain ⟨Z1,η1,Y,hz,S1,ry,q⟩:=Aj (vx:= .ref a) (Q:=λY η1=>w E η1 (ρ.set i (some Y)) K) S iR hq
  have F:=S1.st.f _ List.mem_cons_self
  have S2:Sx G Z1 η1 ({f with ρ:=ρ.set i (some Y)}::r) s:=by
   refine ⟨⟨S1.st.z,S1.st.e,λg hg=>?_,S1.st.own,S1.st.nd,S1.st.cl⟩,S1.bs,S1.gens,S1.os⟩
   clear q hq;rcases List.mem_cons.mp hg with rfl|hg
   ·obtain ⟨⟨m,hn,hv⟩,u2,u3,u4,u5,u6,u7,u8,u9⟩:=F
    refine ⟨⟨m,hn,λj y W hj hw=>?_⟩,u2,u3,u4,u5,u6,u7,u8,u9⟩
    have hw':(ρ.set i (some Y))[j]?=some (some W):=hw
    by_cases q:j=i
    ·clear hw hg hq;subst q
     rw [List.getElem?_set_self hi] at hw'
     simp only [Option.some.injEq] at hw';subst hw'
     rcases hv j y (.ref a) hj hX with ⟨h1,v,h2,h3⟩|⟨h1,c,v,h2,h3,h4⟩
     ·obtain rfl:=fR h3;exact .inl ⟨h1,_,h2,ry⟩
     ·obtain rfl:=fR h4;exact .inr ⟨h1,c,_,h2,h3,ry⟩
    ·rw [List.getElem?_set_ne (λz=>q z.symm)] at hw'
     exact hv j y W hj hw'
   ·exact S1.st.f g (List.mem_cons_of_mem _ hg)
  refine wpAny_mono (h E η1 _ K q (by refine rW List.length_set ?_;exact hl) Z1 s S2) (λfl s' x=>PF.weak hz (by simp) x) λξ ξ x=>(PX.mf (ρ:=ρ) x).weak hz
 | _=>exact hq.elim
noncomputable def SS (G:Gc)(n:Nat)(w:S):Prop:=∀{t:Stmt} {f:Fm} {r:List Fm} {A:Around},Gd (tb G) f.ρ.length f.env.scope f.vars w t=true->gA A (f::r) n->f.real=true->f.env.scope.kind= .function->fg G n (wS G n w) (exec (Gg w t)) f r A
noncomputable def Hr (G:Gc)(n:Nat)(w:SL):Prop:=∀{ts:List Stmt} {f:Fm} {r:List Fm} {A:Around},kl (tb G) f.ρ.length f.env.scope f.vars w ts=true->gA A (f::r) n->f.real=true->f.env.scope.kind= .function->fg G n (aQ G n w) (execs (jZ w ts)) f r A
set_option tactic.hygienic true in
mutual
theorem EB:(w:S)->SS G n w
 | .a i e=>λh hA hr hk=>DR hr (iU (a2 (a2 h).1).1).1 (a2 (a2 h).1).2 (ex hG hA (a2 h).2)
 | .nK i m j e src=>λh hA hr hk=>B7 hG hA hr (eq_of_beq (a2 (a2 (a2 (a2 h).1).1).1).1) (a2 (a2 (a2 h).1).1).2 (a2 (a2 (a2 (a2 h).1).1).1).2 hk (iU (a2 (a2 h).1).2).1 (a2 h).2
 | .fD js e=>λh hA hr hk=>B0 hA hr (a2 (a2 (a2 h).1).1).1 (a2 (a2 (a2 h).1).1).2 (a2 (a2 h).1).2 (ex hG hA (a2 h).2)
 | .eC o x e=>λh hA hr hk=>B2 (a2 (a2 h).1).1 (ex hG hA (a2 (a2 h).1).2) (ex hG hA (a2 h).2)
 | .we o i e=>λh hA hr hk=>B1 (a2 (a2 (a2 (a2 h).1).1).1).1 (ex hG hA (a2 (a2 (a2 h).1).1).2) (ex hG hA (a2 (a2 h).1).2) (ex hG hA (a2 h).2)
 | .ew i o e=>λh hA hr hk=>B4 hr (iU (a2 (a2 h).1).1).1 (ex hG hA (a2 h).2)
 | .gg b x o e=>λh hA hr hk=>B6 (ex hG hA (a2 h).1) (ex hG hA (a2 h).2)
 | .sQ b i o e=>λh hA hr hk=>B5 (a2 (a2 (a2 h).1).1).1 (ex hG hA (a2 (a2 (a2 h).1).1).2) (ex hG hA (a2 (a2 h).1).2) (ex hG hA (a2 h).2)
 | .ret e=>λh hA hr hk=>DN (ex hG hA h)
 | .rN=>λh hA hr hk=>λE η ρ K hq hl Z s S=>wpAny_Return_none ⟨Z,η,ρ,StaysIn.refl Z,rfl,S, .none,gF,hq⟩
 | .expr e=>λh hA hr hk=>B3 hk (a2 h).1 (ex hG hA (a2 h).2)
 | .f c a b=>λh hA hr hk=>DP (ex hG hA (a2 (a2 h).1).1) (jQ a (a2 (a2 h).1).2 hA hr hk) (jQ b (a2 h).2 hA hr hk)
 | .pR c b=>λh hA hr hk=>DK hA hr (ex hG hA (a2 h).1) (w:=λE η ρ K=>aQ G n b E η ρ K) (jQ b (a2 h).2 hA hr hk)
 | .dQ js tp src b=>λh hA hr hk=>by
  rename_i t f r A
  obtain ⟨h,h4⟩:=a2 h
  obtain ⟨h,h3⟩:=a2 h
  obtain ⟨h1,h2⟩:=a2 h
  have hb:∀ex,fg G n (aQ G n b) (execs (jZ b (sB t))) {f with extra:=ex} r A:=λex=>jQ b (f:={f with extra:=ex}) h4 hA.ex hr hk
  cases tp with
  | false=>
   obtain ⟨h1,h5⟩:=a2 h1
   match js,h5,h1 with
   | [j],_,h1=>exact Az hA hr (A4 hr (iU h1).1) h2 (ex hG hA h3) (w:=λE η ρ K=>aQ G n b E η ρ K) hb
  | true=>exact Az hA hr (A3 hA.handled hr h1) h2 (ex hG hA h3) (w:=λE η ρ K=>aQ G n b E η ρ K) hb
 | .brk=>λh hA hr hk=>λE η ρ K hq hl Z s S=>wpAny_Break ⟨Z,η,ρ,StaysIn.refl Z,rfl,S,hq⟩
 | .cont=>λh hA hr hk=>λE η ρ K hq hl Z s S=>wpAny_Continue ⟨Z,η,ρ,StaysIn.refl Z,rfl,S,hq⟩
 | .Dh=>λh hA hr hk=>λE η ρ K hq hl Z s S=>wpAny_Pass ⟨Z,η,ρ,StaysIn.refl Z,rfl,S,hq⟩
 | .Bm e=>λh hA hr hk=>DO hG hA (a2 (a2 h).1).1 (a2 (a2 h).1).2 (ex hG hA (a2 h).2)
 | .tryD b=>λh hA hr hk=>DM hG hA hr (a2 h).1 (w1:=λE η ρ K=>aQ G n b E η ρ K) (jQ b (a2 h).2 hA hr hk)
 | .bad=>λh hA hr hk=>λE η ρ K hq=>hq.elim
theorem jQ:(w:SL)->Hr G n w
 | .n=>λh hA hr hk=>λE η ρ K hq hl Z s S=>wpAny_execs_nil ⟨Z,η,ρ,StaysIn.refl Z,rfl,S,hq⟩
 | .c w l=>λh hA hr hk=>by
  have h1:=EB w (a2 h).1 hA hr hk
  have h2:=jQ l (a2 h).2 hA hr hk
  refine λE η ρ K hq hl Z s S=>wpAny_execs_cons (wpAny_mono (h1 E η ρ (Dx (aQ G n l) E K) (by clear h2 h;cases l<;>exact hq) hl Z s S) (λfl s1 x=>?_) λξ ξ x=>x)
  obtain ⟨Z1,η1,ρ1,hz1,hl1,S1,q⟩:=x
  cases fl with
  | next=>exact wpAny_mono (h2 E η1 ρ1 K q (hl1.trans hl) Z1 s1 S1) (λfl s' x=>PF.weak hz1 hl1 x) λξ ξ x=>(PX.mf (ρ:=ρ) x).weak hz1
  | brk=>exact ⟨Z1,η1,ρ1,hz1,hl1,S1,q⟩
  | cont=>exact ⟨Z1,η1,ρ1,hz1,hl1,S1,q⟩
  | ret v=>exact ⟨Z1,η1,ρ1,hz1,hl1,S1,q⟩
 | .jc i l=>λh hA hr hk=>DQ (w:=λE η ρ K=>aQ G n l E η ρ K) (jQ l (a2 h).2 hA hr hk)
end
end
structure Row where
 a:Addr
 sl:SL
 vars:List (Nat×Str)
 ps:List Str
 N:Nat
noncomputable def nI:Nat->List Str->List (Nat×Str)
 | _,[]=> []
 | n,x::r=>(n,x)::nI (n+1) r
noncomputable abbrev bU (a:Addr)(v:List Str)(k N:Nat)(s:SL):Row:=⟨a,s,nI 0 v,v.take k,N⟩
noncomputable def nj:Row:=bU cH ["n","width"] 2 2 (.c (.ew 0 .Mod (.bin false .LShift (.int 1) (.l 1))) (.c (.f (.bin false .RShift (.l 0) (.bin false .Sub (.l 1) (.int 1))) (.c (.ew 0 .Sub (.bin false .LShift (.int 1) (.l 1))) .n) .n) (.c (.ret (.l 0)) .n)))
noncomputable def jm:Row:=bU dH ["text","at","end","first"] 1 4 (.c (.a 1 (.int 0)) (.c (.pR (.eJ true (.c (.q (.l 1) .Lt (.bi .len false (.c (.l 0) .n))) (.c (.q (.sub (.l 0) (.l 1)) .In (.fm 4)) .n))) (.c (.ew 1 .Add (.int 1)) .n)) (.c (.a 2 (.l 1)) (.c (.f (.eJ false (.c (.q (.gk false (.l 0) (.l 2) (.bin false .Add (.l 2) (.int 1)) .au) .Eq (.str "+")) (.c (.q (.gk false (.l 0) (.l 2) (.bin false .Add (.l 2) (.int 1)) .au) .Eq (.str "-")) .n))) (.c (.ew 2 .Add (.int 1)) .n) .n) (.c (.a 3 (.l 2)) (.c (.pR (.eJ true (.c (.q (.l 2) .Lt (.bi .len false (.c (.l 0) .n))) (.c (.q (.sub (.l 0) (.l 2)) .In (.fm 2)) .n))) (.c (.ew 2 .Add (.int 1)) .n)) (.c (.f (.q (.l 2) .Eq (.l 3)) (.c (.ret (.tup (.c (.l 1) (.c (.l 1) .n)))) .n) .n) (.c (.ret (.tup (.c (.l 1) (.c (.l 2) .n)))) .n))))))))
noncomputable def d9:Row:=bU c8 ["text","width","at","end","n","sign"] 2 6 (.c (.fD [2,3] (.fn dH (.c (.l 0) .n))) (.c (.a 4 (.int 0)) (.c (.dQ [5] false (.gk false (.l 0) (.l 2) (.l 3) .au) (.c (.f (.q (.l 5) .In (.fm 2)) (.c (.a 4 (.bin false .Mod (.bin false .Add (.bin false .Mult (.l 4) (.int 10)) (.mb .find (.fm 2) (.c (.l 5) .n))) (.bin false .LShift (.int 1) (.l 1)))) .n) .n) .n)) (.c (.f (.eJ true (.c (.q (.l 2) .Lt (.l 3)) (.c (.q (.sub (.l 0) (.l 2)) .Eq (.str "-")) .n))) (.c (.a 4 (.neg (.l 4))) .n) .n) (.c (.ret (.fn cH (.c (.l 4) (.c (.l 1) .n)))) .n)))))
noncomputable def bW:Row:=bU bG ["n","text"] 1 2 (.c (.f (.q (.l 0) .Lt (.int 0)) (.c (.ret (.bin false .Add (.str "-") (.fn bG (.c (.neg (.l 0)) .n)))) .n) .n) (.c (.a 1 (.sub (.fm 2) (.bin false .Mod (.l 0) (.int 10)))) (.c (.pR (.q (.l 0) .Gt (.int 9)) (.c (.ew 0 .FloorDiv (.int 10)) (.c (.a 1 (.bin false .Add (.sub (.fm 2) (.bin false .Mod (.l 0) (.int 10))) (.l 1))) .n))) (.c (.ret (.l 1)) .n))))
noncomputable def uG:Row:=bU fx ["value"] 1 1 (.c (.f (.q (.l 0) .Is .au) (.c (.ret (.str "")) .n) .n) (.c (.f (.bi .isin false (.c (.l 0) (.c (.fm 14) .n))) (.c (.ret (.fn bG (.c (.l 0) .n))) .n) .n) (.c (.f (.bi .isin false (.c (.l 0) (.c (.fm 16) .n))) (.c .bad .n) .n) (.c (.ret (.l 0)) .n))))
noncomputable def qu:Row:=bU dY ["value","limits"] 2 2 (.c (.f (.q (.l 0) .Is .au) (.c (.ret (.int 0)) .n) .n) (.c (.f (.bi .isin false (.c (.l 0) (.c (.fm 14) .n))) (.c (.ret (.l 0)) .n) .n) (.c (.f (.bi .isin false (.c (.l 0) (.c (.fm 16) .n))) (.c (.ret (.cO (.cO (.l 0) "target") "number")) .n) .n) (.c (.ret (.fn c8 (.c (.l 0) (.c (.cO (.l 1) "width") .n)))) .n))))
noncomputable def iy:Row:=bU cC ["n","size","is_big","row","k"] 3 5 (.c (.a 3 (.lst true .n)) (.c (.dQ [4] false (.bi .bp false (.c (.l 1) .n)) (.c (.expr (.mb .append (.l 3) (.c (.bin false .BitAnd (.bin false .RShift (.l 0) (.bin false .Mult (.int 8) (.l 4))) (.int 255)) .n))) .n)) (.c (.f (.l 2) (.c (.expr (.mb .reverse (.l 3) .n)) .n) .n) (.c (.ret (.jc (.l 3))) .n))))
noncomputable def dO:Row:=bU cE ["row","is_big","is_signed","found","ordered","octet"] 3 6 (.c (.a 3 (.int 0)) (.c (.a 4 (.f (.l 1) (.l 0) (.gk false (.l 0) .au .au (.neg (.int 1))))) (.c (.dQ [5] false (.l 4) (.c (.a 3 (.bin false .Add (.bin false .Mult (.l 3) (.int 256)) (.l 5))) .n)) (.c (.f (.eJ true (.c (.l 2) (.c (.q (.l 4) .NotEq (.lst false .n)) (.c (.q (.sub (.l 4) (.int 0)) .Gt (.int 127)) .n)))) (.c (.ew 3 .Sub (.bin false .LShift (.int 1) (.bin false .Mult (.int 8) (.bi .len false (.c (.l 0) .n))))) .n) .n) (.c (.ret (.l 3)) .n)))))
noncomputable def gE:Row:=bU dC ["codes","count","is_big","row","k"] 3 5 (.c (.a 3 (.bin true .Mult (.lst false (.c (.int 0) .n)) (.bin false .FloorDiv (.bin false .Add (.l 1) (.int 7)) (.int 8)))) (.c (.dQ [4] false (.bi .bp false (.c (.bi .min false (.c (.l 1) (.c (.bi .len false (.c (.l 0) .n)) .n))) .n)) (.c (.f (.bin false .BitAnd (.sub (.l 0) (.l 4)) (.int 1)) (.c (.sQ (.l 3) (.bin false .FloorDiv (.l 4) (.int 8)) .BitOr (.f (.l 2) (.bin false .RShift (.int 128) (.bin false .Mod (.l 4) (.int 8))) (.bin false .LShift (.int 1) (.bin false .Mod (.l 4) (.int 8))))) .n) .n) .n)) (.c (.ret (.jc (.l 3))) .n)))
noncomputable def eS:Row:=bU dJ ["row","count","is_big","signs","k","bit"] 3 6 (.c (.a 3 (.lst true .n)) (.c (.dQ [4] false (.bi .bp false (.c (.l 1) .n)) (.c (.a 5 (.bin false .BitAnd (.bin false .RShift (.sub (.l 0) (.bin false .FloorDiv (.l 4) (.int 8))) (.f (.l 2) (.bin false .Sub (.int 7) (.bin false .Mod (.l 4) (.int 8))) (.bin false .Mod (.l 4) (.int 8)))) (.int 1))) (.c (.expr (.mb .append (.l 3) (.c (.sub (.str "01") (.l 5)) .n))) .n))) (.c (.ret (.mb .join (.str "") (.c (.l 3) .n))) .n)))
noncomputable def qz:Row:=bU eZ ["code"] 1 1 (.c (.f (.eJ false (.c (.uZ (.int 65) .LtE (.l 0) .LtE (.int 90)) (.c (.uZ (.int 97) .LtE (.l 0) .LtE (.int 122)) .n))) (.c (.ret (.bin false .BitAnd (.bin false .Add (.l 0) (.int 9)) (.int 15))) .n) .n) (.c (.ret (.bin false .BitAnd (.l 0) (.int 15))) .n))
noncomputable def eE:Row:=bU b8 ["codes","count","is_big","row","k","is_high"] 3 6 (.c (.a 3 (.bin true .Mult (.lst false (.c (.int 0) .n)) (.bin false .FloorDiv (.bin false .Add (.l 1) (.int 1)) (.int 2)))) (.c (.dQ [4] false (.bi .bp false (.c (.bi .min false (.c (.l 1) (.c (.bi .len false (.c (.l 0) .n)) .n))) .n)) (.c (.a 5 (.q (.q (.bin false .Mod (.l 4) (.int 2)) .Eq (.int 0)) .Eq (.l 2))) (.c (.sQ (.l 3) (.bin false .FloorDiv (.l 4) (.int 2)) .BitOr (.bin false .LShift (.fn eZ (.c (.sub (.l 0) (.l 4)) .n)) (.f (.l 5) (.int 4) (.int 0)))) .n))) (.c (.ret (.jc (.l 3))) .n)))
noncomputable def gS:Row:=bU cb ["row","count","is_big","signs","k","is_high"] 3 6 (.c (.a 3 (.lst true .n)) (.c (.dQ [4] false (.bi .bp false (.c (.l 1) .n)) (.c (.a 5 (.q (.q (.bin false .Mod (.l 4) (.int 2)) .Eq (.int 0)) .Eq (.l 2))) (.c (.expr (.mb .append (.l 3) (.c (.sub (.str "0123456789abcdef") (.bin false .BitAnd (.bin false .RShift (.sub (.l 0) (.bin false .FloorDiv (.l 4) (.int 2))) (.f (.l 5) (.int 4) (.int 0))) (.int 15))) .n))) .n))) (.c (.ret (.mb .join (.str "") (.c (.l 3) .n))) .n)))
noncomputable def oW:Row:=bU dj ["letter","has_bang"] 2 2 (.c (.f (.eJ true (.c (.l 1) (.c (.q (.l 0) .In (.str "lL")) .n))) (.c (.ret (.int 8)) .n) .n) (.c (.ret (.sub (.fm 5) (.l 0))) .n))
noncomputable def rS:Row:=bU f9 ["letter","has_bang"] 2 2 (.c (.f (.q (.l 0) .In (.str "nNvV")) (.c (.ret (.l 1)) .n) .n) (.c (.ret (.q (.l 0) .In (.str "cslqij"))) .n))
noncomputable def mn:Row:=bU cf ["letter","order"] 2 2 (.c (.ret (.eJ false (.c (.q (.l 0) .In (.str "nN")) (.c (.q (.l 1) .Eq (.str ">")) .n)))) .n)
noncomputable def gd:Row:=bU aP ["self","text"] 2 2 (.c (.eC (.l 0) "text" (.l 1)) (.c (.eC (.l 0) "at" (.int 0)) .n))
noncomputable def iH:Row:=bU ae ["self"] 1 1 (.c (.ret (.gk false (.cO (.l 0) "text") (.cO (.l 0) "at") (.bin false .Add (.cO (.l 0) "at") (.int 1)) .au)) .n)
noncomputable def bo:Row:=bU aA ["self"] 1 1 (.c (.pR (.eJ true (.c (.q (.mi "peek" aa ae (.l 0) .n) .NotEq (.str "")) (.c (.q (.mi "peek" aa ae (.l 0) .n) .In (.bin false .Add (.fm 10) (.str "#"))) .n))) (.c (.f (.q (.mi "peek" aa ae (.l 0) .n) .NotEq (.str "#")) (.c (.gg (.l 0) "at" .Add (.int 1)) (.c .cont .n)) .n) (.c (.pR (.eJ true (.c (.q (.mi "peek" aa ae (.l 0) .n) .NotEq (.str "")) (.c (.q (.mi "peek" aa ae (.l 0) .n) .NotEq (.str "\n")) .n))) (.c (.gg (.l 0) "at" .Add (.int 1)) .n)) .n))) .n)
noncomputable def fM:Row:=bU b9 ["reader","begun","figures"] 1 3 (.c (.a 1 (.cO (.l 0) "at")) (.c (.pR (.eJ true (.c (.q (.mi "peek" aa ae (.l 0) .n) .NotEq (.str "")) (.c (.q (.mi "peek" aa ae (.l 0) .n) .In (.fm 3)) .n))) (.c (.gg (.l 0) "at" .Add (.int 1)) .n)) (.c (.a 2 (.gk false (.cO (.l 0) "text") (.l 1) (.cO (.l 0) "at") .au)) (.c (.f (.q (.bi .len false (.c (.l 2) .n)) .Gt (.fm 12)) (.c .bad .n) .n) (.c (.ret (.bi .rA false (.c (.l 2) .n))) .n)))))
noncomputable def jl:Row:=bU dE ["reader","begun","number"] 1 3 (.c (.gg (.l 0) "at" .Add (.int 1)) (.c (.a 1 (.cO (.l 0) "at")) (.c (.f (.eJ true (.c (.q (.mi "peek" aa ae (.l 0) .n) .NotEq (.str "")) (.c (.q (.mi "peek" aa ae (.l 0) .n) .In (.fm 3)) .n))) (.c (.a 2 (.fn b9 (.c (.l 0) .n))) (.c (.f (.q (.mi "peek" aa ae (.l 0) .n) .NotEq (.str "]")) (.c .bad .n) .n) (.c (.gg (.l 0) "at" .Add (.int 1)) (.c (.ret (.l 2)) .n)))) .n) (.c (.pR (.q (.mi "peek" aa ae (.l 0) .n) .NotEq (.str "]")) (.c (.f (.eJ false (.c (.q (.mi "peek" aa ae (.l 0) .n) .Eq (.str "")) (.c (.q (.mi "peek" aa ae (.l 0) .n) .Eq (.str "[")) .n))) (.c .bad .n) .n) (.c (.gg (.l 0) "at" .Add (.int 1)) .n))) (.c (.gg (.l 0) "at" .Add (.int 1)) (.c .bad .n))))))
noncomputable def nv:Row:=bU dD ["reader","sign"] 1 2 (.c (.a 1 (.mi "peek" aa ae (.l 0) .n)) (.c (.f (.q (.l 1) .Eq (.str "*")) (.c (.gg (.l 0) "at" .Add (.int 1)) (.c (.ret (.fm 0)) .n)) .n) (.c (.f (.q (.l 1) .Eq (.str "[")) (.c (.ret (.fn dE (.c (.l 0) .n))) .n) .n) (.c (.f (.eJ true (.c (.q (.l 1) .NotEq (.str "")) (.c (.q (.l 1) .In (.fm 3)) .n))) (.c (.ret (.fn b9 (.c (.l 0) .n))) .n) .n) (.c (.ret (.fm 1)) .n)))))
noncomputable def hV:Row:=bU ej ["reader","letter","order","has_bang","sign"] 2 5 (.c (.a 2 (.str "")) (.c (.a 3 (.bool false)) (.c (.pR (.eJ true (.c (.q (.mi "peek" aa ae (.l 0) .n) .NotEq (.str "")) (.c (.q (.mi "peek" aa ae (.l 0) .n) .In (.str "!<>")) .n))) (.c (.a 4 (.mi "peek" aa ae (.l 0) .n)) (.c (.gg (.l 0) "at" .Add (.int 1)) (.c (.f (.q (.l 4) .Eq (.str "!")) (.c (.f (.q (.l 1) .NotIn (.fm 8)) (.c .bad .n) .n) (.c (.a 3 (.bool true)) .n)) (.c (.f (.eJ true (.c (.q (.l 1) .NotEq (.str "(")) (.c (.q (.l 1) .NotIn (.fm 7)) .n))) (.c .bad .n) (.c (.f (.q (.l 2) .NotIn (.tup (.c (.str "") (.c (.l 4) .n)))) (.c .bad .n) (.c (.a 2 (.l 4)) .n)) .n)) .n)) .n)))) (.c (.ret (.tup (.c (.l 2) (.c (.l 3) .n)))) .n))))
noncomputable def fO:Row:=bU cp ["items","order","found","letter","own","has_bang","count","inner"] 2 8 (.c (.f (.q (.l 1) .Eq (.str "")) (.c (.ret (.l 0)) .n) .n) (.c (.a 2 (.lst true .n)) (.c (.dQ [3,4,5,6,7] true (.l 0) (.c (.f (.q (.l 3) .In (.str "(/")) (.c (.a 7 (.fn cp (.c (.l 7) (.c (.l 1) .n)))) .n) (.c (.f (.q (.l 3) .In (.fm 7)) (.c (.f (.q (.l 4) .NotIn (.tup (.c (.str "") (.c (.l 1) .n)))) (.c .bad .n) .n) (.c (.a 4 (.l 1)) .n)) .n) .n)) (.c (.expr (.mb .append (.l 2) (.c (.tup (.c (.l 3) (.c (.l 4) (.c (.l 5) (.c (.l 6) (.c (.l 7) .n)))))) .n))) .n))) (.c (.ret (.jc (.l 2))) .n))))
noncomputable def rR:Row:=bU eK ["reader","depth","letter","inner","order","has_bang","count"] 2 7 (.c (.a 2 (.mi "peek" aa ae (.l 0) .n)) (.c (.gg (.l 0) "at" .Add (.int 1)) (.c (.a 3 .au) (.c (.f (.q (.l 2) .Eq (.str "(")) (.c (.f (.q (.l 1) .GtE (.fm 11)) (.c .bad .n) .n) (.c (.a 3 (.fn df (.c (.l 0) (.c (.bin false .Add (.l 1) (.int 1)) .n)))) .n)) (.c (.f (.q (.l 2) .NotIn (.fm 6)) (.c .bad .n) .n) .n)) (.c (.fD [4,5] (.fn ej (.c (.l 0) (.c (.l 2) .n)))) (.c (.a 6 (.fn dD (.c (.l 0) .n))) (.c (.f (.eJ true (.c (.q (.l 6) .Eq (.fm 0)) (.c (.q (.l 2) .In (.str "xX@")) .n))) (.c .bad .n) .n) (.c (.f (.q (.l 2) .Eq (.str "(")) (.c (.ret (.tup (.c (.str "(") (.c (.str "") (.c (.bool false) (.c (.l 6) (.c (.fn cp (.c (.l 3) (.c (.l 4) .n))) .n))))))) .n) .n) (.c (.ret (.tup (.c (.l 2) (.c (.l 4) (.c (.l 5) (.c (.l 6) (.c .au .n))))))) .n)))))))))
noncomputable def uH:Row:=bU eM ["reader"] 1 1 (.c (.expr (.mi "skip" aa aA (.l 0) .n)) (.c (.pR (.q (.mi "peek" aa ae (.l 0) .n) .Eq (.str ",")) (.c (.gg (.l 0) "at" .Add (.int 1)) (.c (.expr (.mi "skip" aa aA (.l 0) .n)) .n))) .n))
noncomputable def iS:Row:=bU c5 ["reader","depth","length","counted"] 3 4 (.c (.gg (.l 0) "at" .Add (.int 1)) (.c (.f (.q (.sub (.l 2) (.int 0)) .In (.bin false .Add (.str "(") (.fm 9))) (.c .bad .n) .n) (.c (.f (.eJ true (.c (.q (.mi "peek" aa ae (.l 0) .n) .NotEq (.str "")) (.c (.q (.mi "peek" aa ae (.l 0) .n) .In (.bin false .Add (.fm 3) (.str "*["))) .n))) (.c .bad .n) .n) (.c (.expr (.fn eM (.c (.l 0) .n))) (.c (.f (.q (.mi "peek" aa ae (.l 0) .n) .In (.tup (.c (.str "") (.c (.str ")") .n)))) (.c .bad .n) .n) (.c (.a 3 (.fn eK (.c (.l 0) (.c (.l 1) .n)))) (.c (.f (.q (.sub (.l 3) (.int 0)) .In (.fm 9)) (.c .bad .n) .n) (.c (.ret (.tup (.c (.str "/") (.c (.str "") (.c (.bool false) (.c (.fm 1) (.c (.lst false (.c (.l 2) (.c (.l 3) .n))) .n))))))) .n))))))))
noncomputable def d8:Row:=bU df ["reader","depth","items","item"] 2 4 (.c (.a 2 (.lst true .n)) (.c (.expr (.fn eM (.c (.l 0) .n))) (.c (.pR (.q (.mi "peek" aa ae (.l 0) .n) .NotIn (.tup (.c (.str "") (.c (.str ")") .n)))) (.c (.a 3 (.fn eK (.c (.l 0) (.c (.l 1) .n)))) (.c (.expr (.mi "skip" aa aA (.l 0) .n)) (.c (.f (.q (.mi "peek" aa ae (.l 0) .n) .Eq (.str "/")) (.c (.a 3 (.fn c5 (.c (.l 0) (.c (.l 1) (.c (.l 3) .n))))) .n) .n) (.c (.expr (.fn eM (.c (.l 0) .n))) (.c (.expr (.mb .append (.l 2) (.c (.l 3) .n))) .n)))))) (.c (.f (.q (.q (.mi "peek" aa ae (.l 0) .n) .Eq (.str ")")) .NotEq (.q (.l 1) .Gt (.int 0))) (.c .bad .n) .n) (.c (.f (.q (.l 1) .Gt (.int 0)) (.c (.gg (.l 0) "at" .Add (.int 1)) .n) .n) (.c (.ret (.jc (.l 2))) .n))))))
noncomputable def kj:Row:=bU aF ["text"] 1 1 (.c (.ret (.fn df (.c (.fn aa (.c (.l 0) .n)) (.c (.int 0) .n)))) .n)
noncomputable def y9:Row:=bU ja ["at","letter","has_bang","many"] 4 4 (.c (.f (.not (.l 2)) (.c (.ret (.f (.q (.l 1) .Eq (.str "x")) (.bin false .Add (.l 0) (.l 3)) (.bin false .Sub (.l 0) (.l 3)))) .n) .n) (.c (.f (.q (.l 3) .Eq (.int 0)) (.c (.ret (.l 0)) .n) .n) (.c (.f (.q (.l 1) .Eq (.str "x")) (.c (.ret (.bin false .Add (.l 0) (.bin false .Mod (.neg (.l 0)) (.l 3)))) .n) .n) (.c (.ret (.bin false .Sub (.l 0) (.bin false .Mod (.l 0) (.l 3)))) .n))))
noncomputable def jU:Row:=bU bR ["self","values","limits"] 3 3 (.c (.eC (.l 0) "out" (.lst true .n)) (.c (.eC (.l 0) "values" (.bi .jI false (.c (.l 1) .n))) (.c (.eC (.l 0) "at" (.int 0)) (.c (.eC (.l 0) "starts" (.lst true (.c (.int 0) .n))) (.c (.eC (.l 0) "limits" (.l 2)) (.c (.eC (.l 0) "steps" (.int 0)) (.c (.eC (.l 0) "length" .au) .n)))))))
noncomputable def nk:Row:=bU bc ["packer"] 1 1 (.c (.ret (.bin false .Sub (.bi .len false (.c (.cO (.l 0) "values") .n)) (.cO (.l 0) "at"))) .n)
noncomputable def oS:Row:=bU dh ["packer"] 1 1 (.c (.f (.q (.cO (.l 0) "length") .IsNot .au) (.c (.ret (.cO (.l 0) "length")) .n) .n) (.c (.f (.q (.cO (.l 0) "at") .GtE (.bi .len false (.c (.cO (.l 0) "values") .n))) (.c (.ret (.str "")) .n) .n) (.c (.gg (.l 0) "at" .Add (.int 1)) (.c (.ret (.sub (.cO (.l 0) "values") (.bin false .Sub (.cO (.l 0) "at") (.int 1)))) .n))))
noncomputable def nB:Row:=bU dI ["packer"] 1 1 (.c (.ret (.fn dY (.c (.fn dh (.c (.l 0) .n)) (.c (.cO (.l 0) "limits") .n)))) .n)
noncomputable def oU:Row:=bU di ["packer"] 1 2 (.c (.ret (.comp false 1 (.bin false .BitAnd (.bi .ord false (.c (.l 1) .n)) (.int 255)) (.fn fx (.c (.fn dh (.c (.l 0) .n)) .n)))) .n)
noncomputable def oV:Row:=bU bu ["packer","row"] 2 2 (.c (.f (.q (.bin false .Add (.bi .len false (.c (.cO (.l 0) "out") .n)) (.bi .len false (.c (.l 1) .n))) .Gt (.cO (.cO (.l 0) "limits") "text")) (.c .bad .n) .n) (.c (.expr (.mb .extend (.cO (.l 0) "out") (.c (.l 1) .n))) .n))
noncomputable def nC:Row:=bU cI ["packer","many"] 2 2 (.c (.f (.q (.l 1) .Gt (.cO (.cO (.l 0) "limits") "text")) (.c .bad .n) .n) (.c (.expr (.fn bu (.c (.l 0) (.c (.bin false .Mult (.lst false (.c (.int 0) .n)) (.l 1)) .n)))) .n))
noncomputable def nD:Row:=bU cJ ["packer","place","letter"] 3 3 (.c (.f (.q (.l 1) .Lt (.int 0)) (.c .bad .n) .n) (.c (.f (.q (.l 1) .Lt (.bi .len false (.c (.cO (.l 0) "out") .n))) (.c .bad .n) (.c (.expr (.fn cI (.c (.l 0) (.c (.bin false .Sub (.l 1) (.bi .len false (.c (.cO (.l 0) "out") .n))) .n)))) .n)) .n))
noncomputable def lp:Row:=bU aL ["item","star"] 2 2 (.c (.f (.q (.sub (.l 0) (.int 3)) .Eq (.fm 0)) (.c (.ret (.l 1)) .n) .n) (.c (.ret (.f (.q (.sub (.l 0) (.int 3)) .Eq (.fm 1)) (.int 1) (.sub (.l 0) (.int 3)))) .n))
noncomputable def kM:Row:=bU eX ["packer","item","codes","size","kept"] 2 5 (.c (.a 2 (.fn di (.c (.l 0) .n))) (.c (.a 3 (.fn aL (.c (.l 1) (.c (.bin false .Add (.bi .len false (.c (.l 2) .n)) (.q (.sub (.l 1) (.int 0)) .Eq (.str "Z"))) .n)))) (.c (.f (.q (.l 3) .Gt (.cO (.cO (.l 0) "limits") "text")) (.c .bad .n) .n) (.c (.a 4 (.gk false (.l 2) .au (.l 3) .au)) (.c (.f (.q (.sub (.l 1) (.int 0)) .Eq (.str "Z")) (.c (.a 4 (.gk false (.l 2) .au (.bi .max false (.c (.bin false .Sub (.l 3) (.int 1)) (.c (.int 0) .n))) .au)) .n) .n) (.c (.expr (.fn bu (.c (.l 0) (.c (.bin false .Add (.l 4) (.bin false .Mult (.lst false (.c (.f (.q (.sub (.l 1) (.int 0)) .Eq (.str "A")) (.int 32) (.int 0)) .n)) (.bin false .Sub (.l 3) (.bi .len false (.c (.l 4) .n))))) .n)))) .n))))))
noncomputable def nz:Row:=bU dG ["packer","item","codes","size"] 2 4 (.c (.a 2 (.fn di (.c (.l 0) .n))) (.c (.a 3 (.fn aL (.c (.l 1) (.c (.bi .len false (.c (.l 2) .n)) .n)))) (.c (.f (.q (.l 3) .Gt (.bin false .Mult (.int 8) (.cO (.cO (.l 0) "limits") "text"))) (.c .bad .n) .n) (.c (.f (.q (.sub (.l 1) (.int 0)) .In (.str "bB")) (.c (.expr (.fn bu (.c (.l 0) (.c (.fn dC (.c (.l 2) (.c (.l 3) (.c (.q (.sub (.l 1) (.int 0)) .Eq (.str "B")) .n)))) .n)))) .n) (.c (.expr (.fn bu (.c (.l 0) (.c (.fn b8 (.c (.l 2) (.c (.l 3) (.c (.q (.sub (.l 1) (.int 0)) .Eq (.str "H")) .n)))) .n)))) .n)) .n))))
noncomputable def ml:Row:=bU c0 ["packer","item","letter","order","has_bang","count","inner","number"] 2 8 (.c (.fD [2,3,4,5,6] (.l 1)) (.c (.a 7 (.fn dI (.c (.l 0) .n))) (.c (.f (.q (.l 2) .Eq (.str "w")) (.c .bad .n) .n) (.c (.f (.q (.l 2) .Eq (.str "U")) (.c .bad .n) .n) (.c (.ret (.fn cC (.c (.l 7) (.c (.fn dj (.c (.l 2) (.c (.l 4) .n))) (.c (.fn cf (.c (.l 2) (.c (.l 3) .n))) .n))))) .n)))))
noncomputable def iT:Row:=bU c6 ["packer","item","turn"] 2 3 (.c (.dQ [2] false (.bi .bp false (.c (.fn aL (.c (.l 1) (.c (.fn bc (.c (.l 0) .n)) .n))) .n)) (.c (.expr (.fn cq (.c (.l 0) .n))) (.c (.expr (.fn bu (.c (.l 0) (.c (.fn c0 (.c (.l 0) (.c (.l 1) .n))) .n)))) .n))) .n)
noncomputable def qw:Row:=bU eY ["packer","item","letter","order","has_bang","count","inner","many"] 2 8 (.c (.fD [2,3,4,5,6] (.l 1)) (.c (.a 7 (.fn aL (.c (.l 1) (.c (.int 0) .n)))) (.c (.f (.q (.l 2) .Eq (.str "@")) (.c (.expr (.fn cJ (.c (.l 0) (.c (.bin false .Add (.sub (.cO (.l 0) "starts") (.neg (.int 1))) (.l 7)) (.c (.l 2) .n))))) .n) (.c (.expr (.fn cJ (.c (.l 0) (.c (.fn ja (.c (.bi .len false (.c (.cO (.l 0) "out") .n)) (.c (.l 2) (.c (.l 4) (.c (.l 7) .n))))) (.c (.l 2) .n))))) .n)) .n)))
noncomputable def dc:Row:=bU eo ["packer","item","turn"] 2 3 (.c (.dQ [2] false (.bi .bp false (.c (.fn aL (.c (.l 1) (.c (.fn bc (.c (.l 0) .n)) .n))) .n)) (.c (.expr (.fn cq (.c (.l 0) .n))) (.c (.expr (.mb .append (.cO (.l 0) "starts") (.c (.bi .len false (.c (.cO (.l 0) "out") .n)) .n))) (.c (.expr (.fn dg (.c (.l 0) (.c (.sub (.l 1) (.int 4)) .n)))) (.c (.expr (.mb .pop (.cO (.l 0) "starts") .n)) (.c (.f (.eJ true (.c (.q (.sub (.l 1) (.int 3)) .Eq (.fm 0)) (.c (.q (.fn bc (.c (.l 0) .n)) .Eq (.int 0)) .n))) (.c .rN .n) .n) .n)))))) .n)
noncomputable def fN:Row:=bU c7 ["packer","item","length","counted","letter","order","has_bang","count","inner","value"] 2 10 (.c (.fD [2,3] (.sub (.l 1) (.int 4))) (.c (.fD [4,5,6,7,8] (.l 3)) (.c (.f (.q (.l 4) .In (.str "aAZ")) (.c (.f (.q (.l 7) .Lt (.int 0)) (.c (.a 9 (.f (.q (.fn bc (.c (.l 0) .n)) .Gt (.int 0)) (.sub (.cO (.l 0) "values") (.cO (.l 0) "at")) (.str ""))) (.c (.a 7 (.bin false .Add (.bi .len false (.c (.fn fx (.c (.l 9) .n)) .n)) (.q (.l 4) .Eq (.str "Z")))) .n)) .n) .n) (.c (.f (.eJ false (.c (.q (.l 7) .Lt (.int 0)) (.c (.q (.l 7) .Gt (.fn bc (.c (.l 0) .n))) .n))) (.c (.a 7 (.fn bc (.c (.l 0) .n))) .n) .n) .n)) (.c (.eC (.l 0) "length" (.l 7)) (.c (.expr (.fn bP (.c (.l 0) (.c (.l 2) .n)))) (.c (.eC (.l 0) "length" .au) (.c (.expr (.fn bP (.c (.l 0) (.c (.tup (.c (.l 4) (.c (.l 5) (.c (.l 6) (.c (.l 7) (.c (.l 8) .n)))))) .n)))) .n)))))))
noncomputable def oX:Row:=bU cq ["packer"] 1 1 (.c (.gg (.l 0) "steps" .Add (.int 1)) (.c (.f (.q (.cO (.l 0) "steps") .Gt (.cO (.cO (.l 0) "limits") "steps")) (.c .bad .n) .n) .n))
noncomputable def qx:Row:=bU bP ["packer","item","letter"] 2 3 (.c (.expr (.fn cq (.c (.l 0) .n))) (.c (.a 2 (.sub (.l 1) (.int 0))) (.c (.f (.q (.l 2) .Eq (.str "(")) (.c (.expr (.fn eo (.c (.l 0) (.c (.l 1) .n)))) .n) (.c (.f (.q (.l 2) .Eq (.str "/")) (.c (.expr (.fn c7 (.c (.l 0) (.c (.l 1) .n)))) .n) (.c (.f (.q (.l 2) .In (.str "aAZ")) (.c (.expr (.fn eX (.c (.l 0) (.c (.l 1) .n)))) .n) (.c (.f (.q (.l 2) .In (.str "bBhH")) (.c (.expr (.fn dG (.c (.l 0) (.c (.l 1) .n)))) .n) (.c (.f (.q (.l 2) .In (.str "xX@")) (.c (.expr (.fn eY (.c (.l 0) (.c (.l 1) .n)))) .n) (.c (.f (.q (.l 2) .Eq (.str ".")) (.c .bad .n) (.c (.f (.q (.l 2) .Eq (.str "u")) (.c .bad .n) (.c (.expr (.fn c6 (.c (.l 0) (.c (.l 1) .n)))) .n)) .n)) .n)) .n)) .n)) .n)) .n)) .n)))
noncomputable def jT:Row:=bU dg ["packer","items","item"] 2 3 (.c (.dQ [2] false (.l 1) (.c (.expr (.fn bP (.c (.l 0) (.c (.l 2) .n)))) .n)) .n)
noncomputable def ny:Row:=bU dF ["template","values","limits","packer"] 3 5 (.c (.a 3 (.fn a9 (.c (.l 1) (.c (.l 2) .n)))) (.c (.expr (.fn dg (.c (.l 3) (.c (.fn aF (.c (.l 0) .n)) .n)))) (.c (.ret (.mb .join (.str "") (.c (.comp false 4 (.bi .chr false (.c (.l 4) .n)) (.jc (.cO (.l 3) "out"))) .n))) .n)))
noncomputable def aw:Row:=bU ax ["self","width","depth","steps","text","items"] 6 6 (.c (.eC (.l 0) "width" (.l 1)) (.c (.eC (.l 0) "depth" (.l 2)) (.c (.eC (.l 0) "steps" (.l 3)) (.c (.eC (.l 0) "text" (.l 4)) (.c (.eC (.l 0) "items" (.l 5)) .n)))))
noncomputable def jb:Row:=bU bC ["self","data","limits"] 3 3 (.c (.eC (.l 0) "data" (.l 1)) (.c (.eC (.l 0) "at" (.int 0)) (.c (.eC (.l 0) "found" (.lst true .n)) (.c (.eC (.l 0) "starts" (.lst true (.c (.int 0) .n))) (.c (.eC (.l 0) "limits" (.l 2)) (.c (.eC (.l 0) "steps" (.int 0)) .n))))))
noncomputable def nA:Row:=bU bg ["unpacker"] 1 1 (.c (.ret (.bin false .Sub (.bi .len false (.c (.cO (.l 0) "data") .n)) (.cO (.l 0) "at"))) .n)
noncomputable def oR:Row:=bU bQ ["unpacker","value"] 2 2 (.c (.f (.q (.bi .len false (.c (.cO (.l 0) "found") .n)) .GtE (.cO (.cO (.l 0) "limits") "items")) (.c .bad .n) .n) (.c (.expr (.mb .append (.cO (.l 0) "found") (.c (.l 1) .n))) .n))
noncomputable def qy:Row:=bU cg ["unpacker"] 1 1 (.c (.gg (.l 0) "steps" .Add (.int 1)) (.c (.f (.q (.cO (.l 0) "steps") .Gt (.cO (.cO (.l 0) "limits") "steps")) (.c .bad .n) .n) .n))
noncomputable def qv:Row:=bU bO ["item","most"] 2 2 (.c (.f (.q (.sub (.l 0) (.int 3)) .Eq (.fm 0)) (.c (.ret (.l 1)) .n) .n) (.c (.ret (.bi .min false (.c (.f (.q (.sub (.l 0) (.int 3)) .Eq (.fm 1)) (.int 1) (.sub (.l 0) (.int 3))) (.c (.l 1) .n)))) .n))
noncomputable def nu:Row:=bU bf ["unpacker","many","row"] 2 3 (.c (.a 2 (.gk true (.cO (.l 0) "data") (.cO (.l 0) "at") (.bin false .Add (.cO (.l 0) "at") (.l 1)) .au)) (.c (.gg (.l 0) "at" .Add (.bi .len false (.c (.l 2) .n))) (.c (.ret (.l 2)) .n)))
noncomputable def nr:Row:=bU dB ["row"] 1 2 (.c (.ret (.mb .join (.str "") (.c (.comp false 1 (.bi .chr false (.c (.l 1) .n)) (.l 0)) .n))) .n)
noncomputable def gD:Row:=bU dz ["unpacker","item","row"] 2 3 (.c (.a 2 (.fn bf (.c (.l 0) (.c (.fn bO (.c (.l 1) (.c (.fn bg (.c (.l 0) .n)) .n))) .n)))) (.c (.f (.q (.sub (.l 1) (.int 0)) .Eq (.str "A")) (.c (.pR (.eJ true (.c (.q (.l 2) .NotEq (.lst false .n)) (.c (.q (.sub (.l 2) (.neg (.int 1))) .In (.fm 13)) .n))) (.c (.expr (.mb .pop (.l 2) .n)) .n)) .n) (.c (.f (.eJ true (.c (.q (.sub (.l 1) (.int 0)) .Eq (.str "Z")) (.c (.q (.int 0) .In (.l 2)) .n))) (.c (.f (.q (.sub (.l 1) (.int 3)) .Eq (.fm 0)) (.c (.gg (.l 0) "at" .Sub (.bin false .Sub (.bin false .Sub (.bi .len false (.c (.l 2) .n)) (.mb .index (.l 2) (.c (.int 0) .n))) (.int 1))) .n) .n) (.c (.a 2 (.gk true (.l 2) .au (.mb .index (.l 2) (.c (.int 0) .n)) .au)) .n)) .n) .n)) (.c (.expr (.fn bQ (.c (.l 0) (.c (.fn dB (.c (.jc (.l 2)) .n)) .n)))) .n)))
noncomputable def ll:Row:=bU cA ["unpacker","item","many"] 2 3 (.c (.f (.q (.sub (.l 1) (.int 0)) .In (.str "bB")) (.c (.a 2 (.fn bO (.c (.l 1) (.c (.bin false .Mult (.int 8) (.fn bg (.c (.l 0) .n))) .n)))) (.c (.expr (.fn bQ (.c (.l 0) (.c (.fn dJ (.c (.fn bf (.c (.l 0) (.c (.bin false .FloorDiv (.bin false .Add (.l 2) (.int 7)) (.int 8)) .n))) (.c (.l 2) (.c (.q (.sub (.l 1) (.int 0)) .Eq (.str "B")) .n)))) .n)))) .n)) (.c (.a 2 (.fn bO (.c (.l 1) (.c (.bin false .Mult (.int 2) (.fn bg (.c (.l 0) .n))) .n)))) (.c (.expr (.fn bQ (.c (.l 0) (.c (.fn cb (.c (.fn bf (.c (.l 0) (.c (.bin false .FloorDiv (.bin false .Add (.l 2) (.int 1)) (.int 2)) .n))) (.c (.l 2) (.c (.q (.sub (.l 1) (.int 0)) .Eq (.str "H")) .n)))) .n)))) .n))) .n)
noncomputable def iQ:Row:=bU cZ ["unpacker","item","letter","order","has_bang","count","inner","size","turn","row","number"] 2 11 (.c (.fD [2,3,4,5,6] (.l 1)) (.c (.a 7 (.fn dj (.c (.l 2) (.c (.l 4) .n)))) (.c (.dQ [8] false (.bi .bp false (.c (.fn bO (.c (.l 1) (.c (.bin false .FloorDiv (.fn bg (.c (.l 0) .n)) (.l 7)) .n))) .n)) (.c (.expr (.fn cg (.c (.l 0) .n))) (.c (.a 9 (.fn bf (.c (.l 0) (.c (.l 7) .n)))) (.jc 9 (.c (.a 10 (.fn cE (.c (.l 9) (.c (.fn cf (.c (.l 2) (.c (.l 3) .n))) (.c (.fn f9 (.c (.l 2) (.c (.l 4) .n))) .n))))) (.c (.expr (.fn bQ (.c (.l 0) (.c (.fn cH (.c (.l 10) (.c (.cO (.cO (.l 0) "limits") "width") .n))) .n)))) .n)))))) .n)))
noncomputable def jk:Row:=bU dA ["unpacker","item","letter","order","has_bang","count","inner","many","place"] 2 9 (.c (.fD [2,3,4,5,6] (.l 1)) (.c (.a 7 (.f (.q (.l 5) .Eq (.fm 1)) (.int 1) (.l 5))) (.c (.f (.q (.l 2) .Eq (.str "@")) (.c (.a 8 (.bin false .Add (.sub (.cO (.l 0) "starts") (.neg (.int 1))) (.l 7))) .n) (.c (.a 8 (.fn ja (.c (.cO (.l 0) "at") (.c (.l 2) (.c (.l 4) (.c (.l 7) .n)))))) .n)) (.c (.f (.eJ false (.c (.q (.l 8) .Lt (.int 0)) (.c (.q (.l 8) .Gt (.bi .len false (.c (.cO (.l 0) "data") .n))) .n))) (.c (.Bm (.bin false .Add (.bin false .Add (.str "'") (.l 2)) (.str "' outside of string in unpack"))) .n) .n) (.c (.eC (.l 0) "at" (.l 8)) .n)))))
noncomputable def bZ:Row:=bU cY ["unpacker","item","letter","order","has_bang","count","inner","turns","turn"] 2 9 (.c (.fD [2,3,4,5,6] (.l 1)) (.c (.a 7 (.f (.q (.l 5) .Eq (.fm 0)) (.bi .len false (.c (.cO (.l 0) "data") .n)) (.f (.q (.l 5) .Eq (.fm 1)) (.int 1) (.l 5)))) (.c (.dQ [8] false (.bi .bp false (.c (.l 7) .n)) (.c (.f (.eJ true (.c (.q (.l 5) .Eq (.fm 0)) (.c (.q (.fn bg (.c (.l 0) .n)) .Eq (.int 0)) .n))) (.c .rN .n) .n) (.c (.expr (.fn cg (.c (.l 0) .n))) (.c (.expr (.mb .append (.cO (.l 0) "starts") (.c (.cO (.l 0) "at") .n))) (.c (.expr (.fn bx (.c (.l 0) (.c (.l 6) .n)))) (.c (.expr (.mb .pop (.cO (.l 0) "starts") .n)) .n)))))) .n)))
noncomputable def gR:Row:=bU b0 ["unpacker","item","begun","length","counted","is_beyond","letter","order","has_bang","count","inner","many"] 3 12 (.c (.fD [3,4] (.sub (.l 1) (.int 4))) (.c (.a 5 (.q (.fn bg (.c (.l 0) .n)) .Eq (.int 0))) (.c (.expr (.fn cg (.c (.l 0) .n))) (.c (.expr (.fn bE (.c (.l 0) (.c (.l 3) .n)))) (.c (.f (.q (.bi .len false (.c (.cO (.l 0) "found") .n)) .Eq (.l 2)) (.c (.ret (.bool false)) .n) .n) (.c (.fD [6,7,8,9,10] (.l 4)) (.c (.f (.q (.l 9) .GtE (.int 0)) (.c (.Bm (.str "Count after length/code in unpack")) .n) .n) (.c (.f (.eJ true (.c (.l 5) (.c (.q (.l 9) .Eq (.fm 1)) .n))) (.c (.Bm (.str "length/code after end of string in unpack")) .n) .n) (.c (.f (.not (.l 5)) (.c (.a 11 (.bi .max false (.c (.fn dY (.c (.mb .pop (.cO (.l 0) "found") .n) (.c (.cO (.l 0) "limits") .n))) (.c (.int 0) .n)))) (.c (.expr (.fn bE (.c (.l 0) (.c (.tup (.c (.l 6) (.c (.l 7) (.c (.l 8) (.c (.l 11) (.c (.l 10) .n)))))) .n)))) .n)) .n) (.c (.ret (.bool true)) .n))))))))))
noncomputable def nq:Row:=bU bE ["unpacker","item","letter"] 2 3 (.c (.expr (.fn cg (.c (.l 0) .n))) (.c (.a 2 (.sub (.l 1) (.int 0))) (.c (.f (.q (.l 2) .Eq (.str "(")) (.c (.expr (.fn cY (.c (.l 0) (.c (.l 1) .n)))) .n) (.c (.f (.q (.l 2) .In (.str "aAZ")) (.c (.expr (.fn dz (.c (.l 0) (.c (.l 1) .n)))) .n) (.c (.f (.q (.l 2) .In (.str "bBhH")) (.c (.expr (.fn cA (.c (.l 0) (.c (.l 1) .n)))) .n) (.c (.f (.q (.l 2) .In (.str "xX@")) (.c (.expr (.fn dA (.c (.l 0) (.c (.l 1) .n)))) .n) (.c (.f (.q (.l 2) .Eq (.str ".")) (.c .bad .n) (.c (.f (.q (.l 2) .Eq (.str "u")) (.c .bad .n) (.c (.f (.q (.l 2) .In (.str "wU")) (.c .bad .n) (.c (.expr (.fn cZ (.c (.l 0) (.c (.l 1) .n)))) .n)) .n)) .n)) .n)) .n)) .n)) .n)) .n)))
noncomputable def d7:Row:=bU bx ["unpacker","items","begun","item"] 2 4 (.c (.a 2 (.bi .len false (.c (.cO (.l 0) "found") .n))) (.c (.dQ [3] false (.l 1) (.c (.f (.q (.sub (.l 3) (.int 0)) .NotEq (.str "/")) (.c (.expr (.fn bE (.c (.l 0) (.c (.l 3) .n)))) .n) (.c (.f (.not (.fn b0 (.c (.l 0) (.c (.l 3) (.c (.l 2) .n))))) (.c .rN .n) .n) .n)) .n)) .n))
noncomputable def iw:Row:=bU bA ["template","text","limits","unpacker"] 3 5 (.c (.a 3 (.fn aH (.c (.comp false 4 (.bin false .BitAnd (.bi .ord false (.c (.l 4) .n)) (.int 255)) (.l 1)) (.c (.l 2) .n)))) (.c (.expr (.fn bx (.c (.l 3) (.c (.fn aF (.c (.l 0) .n)) .n)))) (.c (.ret (.jc (.cO (.l 3) "found"))) .n)))
noncomputable def o5:Row:=bU aC [] 0 0 .n
noncomputable def nE:Row:=bU dM [] 0 0 (.c (.ret (.lst false (.c (.tup (.c (.str "") (.c (.int 0) .n))) (.c (.tup (.c (.str "7") (.c (.int 7) .n))) (.c (.tup (.c (.str " -3x") (.c (.neg (.int 3)) .n))) (.c (.tup (.c (.str "abc") (.c (.int 0) .n))) (.c (.tup (.c (.str "f0Zq") (.c (.int 0) .n))) (.c (.tup (.c (.str "1011") (.c (.int 1011) .n))) (.c (.tup (.c .au (.c (.int 0) .n))) .n))))))))) .n)
noncomputable def mq:Row:=bU gb ["script","number","cell"] 1 3 (.c (.a 1 (.int 0)) (.c (.dQ [2] false (.gk false (.l 0) .au (.int 30) .au) (.c (.a 1 (.bin false .Add (.bin false .Add (.bin false .Add (.bin false .Mult (.l 1) (.int 1000003)) (.bin false .Mult (.int 2) (.bin false .Mod (.bi .abs false (.c (.l 2) .n)) (.bin false .Pow (.int 10) (.int 40))))) (.f (.q (.l 2) .Lt (.int 0)) (.int 1) (.int 0))) (.int 1))) .n)) (.c (.ret (.lst true (.c (.l 1) (.c (.int 0) .n)))) .n)))
noncomputable def qE:Row:=bU ai ["pen","many","digit"] 2 3 (.c (.sQ (.l 0) (.int 1) .Add (.int 1)) (.c (.f (.q (.sub (.l 0) (.int 0)) .Gt (.int 0)) (.c (.a 2 (.bin false .Mod (.sub (.l 0) (.int 0)) (.l 1))) (.c (.we (.l 0) (.int 0) (.bin false .FloorDiv (.sub (.l 0) (.int 0)) (.l 1))) (.c (.ret (.l 2)) .n))) .n) (.c (.ret (.bin false .Mod (.bin false .Add (.bin false .Mult (.sub (.l 0) (.int 1)) (.sub (.l 0) (.int 1))) (.int 1)) (.l 1))) .n)))
noncomputable def ck:Row:=bU dk ["pen","way","count","letter","order","bang"] 1 6 (.c (.a 1 (.fn ai (.c (.l 0) (.c (.int 7) .n)))) (.c (.a 2 (.sub (.lst false (.c .au (.c .au (.c (.int 0) (.c (.int 1) (.c (.int 2) (.c (.int 3) (.c (.str "*") (.c (.int 5) .n))))))))) (.fn ai (.c (.l 0) (.c (.int 8) .n))))) (.c (.f (.q (.l 1) .Lt (.int 3)) (.c (.a 3 (.sub (.str "cCsSlLqQiIjJnNvV") (.fn ai (.c (.l 0) (.c (.int 16) .n))))) (.c (.a 4 (.f (.q (.l 3) .In (.str "sSlLqQiIjJ")) (.sub (.lst false (.c (.str "") (.c (.str "<") (.c (.str ">") .n)))) (.fn ai (.c (.l 0) (.c (.int 3) .n)))) (.str ""))) (.c (.a 5 (.eJ true (.c (.q (.l 3) .In (.str "sSlLiInNvV")) (.c (.q (.fn ai (.c (.l 0) (.c (.int 3) .n))) .Eq (.int 0)) .n)))) (.c (.ret (.tup (.c (.str "num") (.c (.l 3) (.c (.l 4) (.c (.l 5) (.c (.l 2) (.c .au .n)))))))) .n)))) .n) (.c (.f (.q (.l 1) .Lt (.int 5)) (.c (.ret (.tup (.c (.str "text") (.c (.sub (.str "aAZ") (.fn ai (.c (.l 0) (.c (.int 3) .n)))) (.c (.str "") (.c (.bool false) (.c (.l 2) (.c .au .n)))))))) .n) .n) (.c (.f (.q (.l 1) .Eq (.int 5)) (.c (.ret (.tup (.c (.str "digits") (.c (.sub (.str "bBhH") (.fn ai (.c (.l 0) (.c (.int 4) .n)))) (.c (.str "") (.c (.bool false) (.c (.l 2) (.c .au .n)))))))) .n) .n) (.c (.ret (.tup (.c (.str "nought") (.c (.str "x") (.c (.str "") (.c (.bool false) (.c (.f (.q (.l 2) .Eq (.str "*")) .au (.l 2)) (.c .au .n)))))))) .n))))))
noncomputable def cQ:Row:=bU bI ["items","order","found","sort","letter","own","bang","count","inner"] 2 9 (.c (.a 2 (.lst true .n)) (.c (.dQ [3,4,5,6,7,8] true (.l 0) (.c (.f (.eJ true (.c (.q (.l 3) .Eq (.str "num")) (.c (.q (.l 4) .In (.str "sSlLqQiIjJ")) .n))) (.c (.a 5 (.l 1)) .n) .n) (.c (.f (.q (.l 3) .Eq (.str "group")) (.c (.a 8 (.fn bI (.c (.l 8) (.c (.l 1) .n)))) .n) .n) (.c (.expr (.mb .append (.l 2) (.c (.tup (.c (.l 3) (.c (.l 4) (.c (.f (.q (.l 3) .Eq (.str "group")) (.str "") (.l 5)) (.c (.l 6) (.c (.l 7) (.c (.l 8) .n))))))) .n))) .n)))) (.c (.ret (.jc (.l 2))) .n)))
noncomputable def bw:Row:=bU da ["pen","deep","way","inner","order","count","counted","one","length"] 2 10 (.c (.a 2 (.fn ai (.c (.l 0) (.c (.int 8) .n)))) (.c (.f (.eJ false (.c (.q (.l 2) .Lt (.int 5)) (.c (.q (.l 1) .Eq (.int 0)) .n))) (.c (.ret (.fn dk (.c (.l 0) .n))) .n) .n) (.c (.f (.eJ false (.c (.q (.l 2) .Lt (.int 7)) (.c (.q (.l 1) .Lt (.int 2)) .n))) (.c (.nK 3 false 9 (.fn da (.c (.l 0) (.c (.f (.q (.l 1) .Eq (.int 2)) (.bin false .Sub (.l 1) (.int 1)) (.int 0)) .n))) (.bi .bp false (.c (.bin false .Add (.int 1) (.fn ai (.c (.l 0) (.c (.int 2) .n)))) .n))) (.c (.a 4 (.sub (.lst false (.c (.str "") (.c (.str "") (.c (.str "<") (.c (.str ">") .n))))) (.fn ai (.c (.l 0) (.c (.int 4) .n))))) (.c (.f (.q (.l 4) .NotEq (.str "")) (.c (.a 3 (.fn bI (.c (.l 3) (.c (.l 4) .n)))) .n) .n) (.c (.a 5 (.sub (.lst false (.c .au (.c (.int 0) (.c (.int 1) (.c (.int 2) (.c (.str "*") .n)))))) (.fn ai (.c (.l 0) (.c (.int 5) .n))))) (.c (.f (.q (.l 5) .Eq (.str "*")) (.c (.a 3 (.bin false .Add (.l 3) (.lst false (.c (.tup (.c (.str "text") (.c (.str "a") (.c (.str "") (.c (.bool false) (.c .au (.c .au .n))))))) .n)))) .n) .n) (.c (.ret (.tup (.c (.str "group") (.c (.str "") (.c (.l 4) (.c (.bool false) (.c (.l 5) (.c (.l 3) .n)))))))) .n)))))) .n) (.c (.a 6 (.fn dk (.c (.l 0) .n))) (.c (.f (.eJ false (.c (.q (.sub (.l 6) (.int 0)) .Eq (.str "nought")) (.c (.q (.fn ai (.c (.l 0) (.c (.int 3) .n))) .Eq (.int 0)) .n))) (.c (.a 7 (.sub (.lst false (.c (.tup (.c (.str "text") (.c (.str "a") (.c (.str "") (.c (.bool false) (.c .au (.c .au .n))))))) (.c (.tup (.c (.str "num") (.c (.str "C") (.c (.str "") (.c (.bool false) (.c (.int 1) (.c .au .n))))))) .n))) (.fn ai (.c (.l 0) (.c (.int 2) .n))))) (.c (.a 6 (.tup (.c (.str "group") (.c (.str "") (.c (.str "") (.c (.bool false) (.c (.sub (.lst false (.c .au (.c (.int 1) (.c (.str "*") .n)))) (.fn ai (.c (.l 0) (.c (.int 3) .n)))) (.c (.lst false (.c (.l 7) .n)) .n)))))))) .n)) .n) (.c (.a 8 (.f (.q (.sub (.l 6) (.int 0)) .Eq (.str "group")) (.str "C") (.sub (.str "CnvN") (.fn ai (.c (.l 0) (.c (.int 4) .n)))))) (.c (.ret (.tup (.c (.str "counted") (.c (.l 8) (.c (.str "") (.c (.bool false) (.c .au (.c (.l 6) .n)))))))) .n)))))))
noncomputable def aG:Row:=bU cj ["pen","items","above","text","sort","letter","order","bang","count","inner","marks"] 3 11 (.c (.a 3 (.str "")) (.c (.dQ [4,5,6,7,8,9] true (.l 1) (.c (.ew 3 .Add (.sub (.lst false (.c (.str "") (.c (.str " ") (.c (.str "\n") (.c (.str "# a#(\n") .n))))) (.bin false .Mod (.fn ai (.c (.l 0) (.c (.int 6) .n))) (.int 4)))) (.c (.f (.q (.l 4) .Eq (.str "counted")) (.c (.ew 3 .Add (.bin false .Add (.bin false .Add (.l 5) (.str "/ ")) (.fn cj (.c (.l 0) (.c (.lst false (.c (.l 9) .n)) (.c (.str "") .n)))))) (.c .cont .n)) .n) (.c (.f (.q (.l 4) .Eq (.str "group")) (.c (.ew 3 .Add (.bin false .Add (.bin false .Add (.str "(") (.fn cj (.c (.l 0) (.c (.l 9) (.c (.f (.q (.l 6) .NotEq (.str "")) (.l 6) (.l 2)) .n))))) (.str ")"))) .n) (.c (.f (.eJ true (.c (.q (.l 6) .NotEq (.str "")) (.c (.q (.l 6) .Eq (.l 2)) (.c (.q (.fn ai (.c (.l 0) (.c (.int 2) .n))) .Eq (.int 0)) .n)))) (.c (.a 6 (.str "")) .n) .n) .n)) (.c (.a 10 (.bin false .Add (.l 6) (.f (.l 7) (.str "!") (.str "")))) (.c (.ew 3 .Add (.bin false .Add (.l 5) (.f (.q (.fn ai (.c (.l 0) (.c (.int 2) .n))) .Eq (.int 0)) (.l 10) (.gk false (.l 10) .au .au (.neg (.int 1)))))) (.c (.f (.q (.l 8) .IsNot .au) (.c (.ew 3 .Add (.f (.eJ false (.c (.q (.l 8) .Eq (.str "*")) (.c (.q (.fn ai (.c (.l 0) (.c (.int 2) .n))) .Eq (.int 0)) .n))) (.bi .m8 false (.c (.l 8) .n)) (.bin false .Add (.bin false .Add (.str "[") (.bi .m8 false (.c (.l 8) .n))) (.str "]")))) .n) .n) .n))))))) (.c (.ret (.l 3)) .n)))
noncomputable def qD:Row:=bU dZ ["item"] 1 1 (.c (.f (.eJ true (.c (.sub (.l 0) (.int 3)) (.c (.q (.sub (.l 0) (.int 1)) .In (.str "lL")) .n))) (.c (.ret (.int 8)) .n) .n) (.c (.ret (.sub (.fn aC .n) (.sub (.l 0) (.int 1)))) .n))
noncomputable def nG:Row:=bU cL ["item"] 1 1 (.c (.ret (.eJ false (.c (.q (.sub (.l 0) (.int 1)) .In (.str "nN")) (.c (.q (.sub (.l 0) (.int 2)) .Eq (.str ">")) .n)))) .n)
noncomputable def oZ:Row:=bU ay ["count","star"] 2 2 (.c (.ret (.f (.q (.l 0) .Is .au) (.int 1) (.f (.q (.l 0) .Eq (.str "*")) (.l 1) (.l 0)))) .n)
noncomputable def rT:Row:=bU dT ["item","number","row"] 2 4 (.c (.nK 2 false 3 (.bin false .Mod (.bin false .FloorDiv (.l 1) (.bin false .Pow (.int 256) (.l 3))) (.int 256)) (.bi .bp false (.c (.fn dZ (.c (.l 0) .n)) .n))) (.c (.ret (.f (.fn cL (.c (.l 0) .n)) (.gk false (.l 2) .au .au (.neg (.int 1))) (.l 2))) .n))
noncomputable def nF:Row:=bU cK ["sign"] 1 1 (.c (.f (.mb .isalpha (.l 0) .n) (.c (.ret (.bin false .Mod (.bin false .Add (.bin false .Mod (.bi .ord false (.c (.l 0) .n)) (.int 32)) (.int 9)) (.int 16))) .n) .n) (.c (.ret (.bin false .Mod (.bi .ord false (.c (.l 0) .n)) (.int 16))) .n))
noncomputable def cF:Row:=bU dN ["item","text","count","wide","worths","base","row","at","part"] 3 11 (.c (.a 3 (.f (.q (.sub (.l 0) (.int 1)) .In (.str "bB")) (.int 8) (.int 2))) (.c (.a 4 (.bin false .Add (.comp false 9 (.f (.q (.l 3) .Eq (.int 8)) (.bin false .Mod (.bi .ord false (.c (.l 9) .n)) (.int 2)) (.fn cK (.c (.l 9) .n))) (.gk false (.l 1) .au (.l 2) .au)) (.bin false .Mult (.lst false (.c (.int 0) .n)) (.bi .max false (.c (.int 0) (.c (.bin false .Sub (.l 2) (.bi .len false (.c (.l 1) .n))) .n)))))) (.c (.a 5 (.f (.q (.l 3) .Eq (.int 8)) (.bin false .FloorDiv (.int 16) (.l 3)) (.int 16))) (.c (.a 6 (.lst true .n)) (.c (.dQ [7] false (.bi .bp false (.c (.int 0) (.c (.l 2) (.c (.l 3) .n)))) (.c (.a 8 (.gk false (.bin false .Add (.gk false (.l 4) (.l 7) (.bin false .Add (.l 7) (.l 3)) .au) (.bin false .Mult (.lst false (.c (.int 0) .n)) (.l 3))) .au (.l 3) .au)) (.c (.f (.q (.sub (.l 0) (.int 1)) .In (.str "BH")) (.c (.a 8 (.gk false (.l 8) .au .au (.neg (.int 1)))) .n) .n) (.c (.expr (.mb .append (.l 6) (.c (.bi .sum false (.c (.comp false 10 (.bin false .Mult (.sub (.l 8) (.l 10)) (.bin false .Pow (.l 5) (.l 10))) (.bi .bp false (.c (.l 3) .n))) .n)) .n))) .n)))) (.c (.ret (.jc (.l 6))) .n))))))
noncomputable def aK:Row:=bU aN ["item","stream","told","sort","letter","order","bang","count","inner","row","turn","text","size","kept"] 3 15 (.c (.fD [3,4,5,6,7,8] (.l 0)) (.c (.f (.q (.l 3) .Eq (.str "nought")) (.c (.ret (.bin false .Mult (.lst false (.c (.int 0) .n)) (.fn ay (.c (.l 7) (.c (.int 0) .n))))) .n) .n) (.c (.f (.q (.l 3) .Eq (.str "num")) (.c (.a 9 (.lst true .n)) (.c (.dQ [10] false (.bi .bp false (.c (.fn ay (.c (.l 7) (.c (.bi .len false (.c (.l 1) .n)) .n))) .n)) (.c (.ew 9 .Add (.fn dT (.c (.l 0) (.c (.f (.q (.l 2) .IsNot .au) (.l 2) (.sub (.f (.l 1) (.mb .pop (.l 1) (.c (.int 0) .n)) (.tup (.c (.str "") (.c (.int 0) .n)))) (.int 1))) .n)))) .n)) (.c (.ret (.jc (.l 9))) .n))) .n) (.c (.a 11 (.sub (.f (.l 1) (.mb .pop (.l 1) (.c (.int 0) .n)) (.tup (.c (.str "") (.c (.int 0) .n)))) (.int 0))) (.c (.a 11 (.f (.q (.l 11) .Is .au) (.str "") (.bi .m8 false (.c (.l 11) .n)))) (.c (.f (.q (.l 3) .Eq (.str "digits")) (.c (.ret (.fn dN (.c (.l 0) (.c (.l 11) (.c (.fn ay (.c (.l 7) (.c (.bi .len false (.c (.l 11) .n)) .n))) .n))))) .n) .n) (.c (.a 12 (.fn ay (.c (.l 7) (.c (.bin false .Add (.bi .len false (.c (.l 11) .n)) (.q (.l 4) .Eq (.str "Z"))) .n)))) (.c (.a 13 (.gk false (.comp false 14 (.bi .ord false (.c (.l 14) .n)) (.l 11)) .au (.f (.q (.l 4) .Eq (.str "Z")) (.bi .max false (.c (.int 0) (.c (.bin false .Sub (.l 12) (.int 1)) .n))) (.l 12)) .au)) (.c (.ret (.bin false .Add (.l 13) (.bin false .Mult (.lst false (.c (.f (.q (.l 4) .Eq (.str "A")) (.int 32) (.int 0)) .n)) (.bin false .Sub (.l 12) (.bi .len false (.c (.l 13) .n)))))) .n)))))))))
noncomputable def dW:Row:=bU c9 ["items","stream","row","item","sort","letter","order","bang","count","inner","turn","many","text"] 2 13 (.c (.a 2 (.lst true .n)) (.c (.dQ [3] false (.l 0) (.c (.fD [4,5,6,7,8,9] (.l 3)) (.c (.f (.q (.l 4) .Eq (.str "group")) (.c (.dQ [10] false (.bi .bp false (.c (.fn ay (.c (.l 8) (.c (.bi .len false (.c (.l 1) .n)) .n))) .n)) (.c (.ew 2 .Add (.fn c9 (.c (.l 9) (.c (.l 1) .n)))) (.c (.f (.eJ true (.c (.q (.l 8) .Eq (.str "*")) (.c (.q (.l 1) .Eq (.lst false .n)) .n))) (.c .brk .n) .n) .n))) .n) (.c (.f (.q (.l 4) .Eq (.str "counted")) (.c (.a 11 (.sub (.l 9) (.int 4))) (.c (.f (.eJ true (.c (.q (.sub (.l 9) (.int 0)) .Eq (.str "text")) (.c (.q (.l 11) .In (.tup (.c .au (.c (.str "*") .n)))) .n))) (.c (.a 12 (.f (.l 1) (.sub (.sub (.l 1) (.int 0)) (.int 0)) (.str ""))) (.c (.a 11 (.bin false .Add (.bi .len false (.c (.f (.q (.l 12) .Is .au) (.str "") (.bi .m8 false (.c (.l 12) .n))) .n)) (.q (.sub (.l 9) (.int 1)) .Eq (.str "Z")))) .n)) (.c (.f (.q (.sub (.l 9) (.int 0)) .NotEq (.str "text")) (.c (.a 11 (.f (.q (.l 11) .In (.tup (.c .au (.c (.str "*") .n)))) (.bi .len false (.c (.l 1) .n)) (.bi .min false (.c (.l 11) (.c (.bi .len false (.c (.l 1) .n)) .n))))) .n) .n) .n)) (.c (.ew 2 .Add (.fn aN (.c (.tup (.c (.str "num") (.c (.l 5) (.c (.str "") (.c (.bool false) (.c .au (.c .au .n))))))) (.c (.l 1) (.c (.l 11) .n))))) (.c (.ew 2 .Add (.fn c9 (.c (.lst false (.c (.bin false .Add (.bin false .Add (.gk false (.l 9) .au (.int 4) .au) (.tup (.c (.l 11) .n))) (.gk false (.l 9) (.int 5) .au .au)) .n)) (.c (.l 1) .n)))) .n)))) (.c (.ew 2 .Add (.fn aN (.c (.l 3) (.c (.l 1) (.c .au .n))))) .n)) .n)) .n))) (.c (.ret (.jc (.l 2))) .n)))
noncomputable def aj:Row:=bU aM ["item","data","at","sort","letter","order","bang","count","inner","left","size","many","found","turn","row","number","top","is_signed","wide","text","octet","signs"] 3 25 (.c (.fD [3,4,5,6,7,8] (.l 0)) (.c (.a 9 (.bin false .Sub (.bi .len false (.c (.l 1) .n)) (.l 2))) (.c (.f (.q (.l 3) .Eq (.str "nought")) (.c (.ret (.tup (.c (.f (.q (.fn ay (.c (.l 7) (.c (.int 0) .n))) .Gt (.l 9)) .au (.lst false .n)) (.c (.bin false .Add (.l 2) (.fn ay (.c (.l 7) (.c (.int 0) .n)))) .n)))) .n) .n) (.c (.f (.q (.l 3) .Eq (.str "num")) (.c (.a 10 (.fn dZ (.c (.l 0) .n))) (.c (.a 11 (.bi .min false (.c (.fn ay (.c (.l 7) (.c (.l 9) .n))) (.c (.bin false .FloorDiv (.l 9) (.l 10)) .n)))) (.c (.a 12 (.lst true .n)) (.c (.dQ [13] false (.bi .bp false (.c (.l 11) .n)) (.c (.a 14 (.gk false (.l 1) (.bin false .Add (.l 2) (.bin false .Mult (.l 10) (.l 13))) (.bin false .Add (.bin false .Add (.l 2) (.bin false .Mult (.l 10) (.l 13))) (.l 10)) .au)) (.c (.f (.fn cL (.c (.l 0) .n)) (.c (.a 14 (.gk false (.l 14) .au .au (.neg (.int 1)))) .n) .n) (.c (.a 15 (.bi .sum false (.c (.comp false 22 (.bin false .Mult (.sub (.l 14) (.l 22)) (.bin false .Pow (.int 256) (.l 22))) (.bi .bp false (.c (.l 10) .n))) .n))) (.c (.a 16 (.bin false .Pow (.int 256) (.l 10))) (.c (.a 17 (.eJ false (.c (.q (.l 4) .In (.str "cslqij")) (.c (.eJ true (.c (.l 6) (.c (.q (.l 4) .In (.str "nNvV")) .n))) (.c (.q (.l 10) .Eq (.int 8)) .n))))) (.c (.expr (.mb .append (.l 12) (.c (.f (.eJ true (.c (.l 17) (.c (.q (.bin false .Mult (.int 2) (.l 15)) .GtE (.l 16)) .n))) (.bin false .Sub (.l 15) (.l 16)) (.l 15)) .n))) .n))))))) (.c (.ret (.tup (.c (.jc (.l 12)) (.c (.bin false .Add (.l 2) (.bin false .Mult (.l 10) (.l 11))) .n)))) .n))))) .n) (.c (.f (.q (.l 3) .Eq (.str "digits")) (.c (.a 18 (.f (.q (.l 4) .In (.str "bB")) (.int 8) (.int 2))) (.c (.a 11 (.bi .min false (.c (.fn ay (.c (.l 7) (.c (.bin false .Mult (.l 18) (.l 9)) .n))) (.c (.bin false .Mult (.l 18) (.l 9)) .n)))) (.c (.a 19 (.str "")) (.c (.dQ [20] false (.gk false (.l 1) (.l 2) (.bin false .Add (.l 2) (.bin false .FloorDiv (.bin false .Sub (.bin false .Add (.l 11) (.l 18)) (.int 1)) (.l 18))) .au) (.c (.nK 21 false 23 (.sub (.str "0123456789abcdef") (.bin false .Mod (.bin false .FloorDiv (.l 20) (.bin false .Pow (.f (.q (.l 18) .Eq (.int 8)) (.int 2) (.int 16)) (.l 23))) (.f (.q (.l 18) .Eq (.int 8)) (.int 2) (.int 16)))) (.bi .bp false (.c (.l 18) .n))) (.c (.ew 19 .Add (.mb .join (.str "") (.c (.f (.q (.l 4) .In (.str "BH")) (.gk false (.l 21) .au .au (.neg (.int 1))) (.l 21)) .n))) .n))) (.c (.ret (.tup (.c (.lst false (.c (.gk false (.l 19) .au (.l 11) .au) .n)) (.c (.bin false .Add (.l 2) (.bin false .FloorDiv (.bin false .Sub (.bin false .Add (.l 11) (.l 18)) (.int 1)) (.l 18))) .n)))) .n))))) .n) (.c (.a 14 (.gk false (.l 1) (.l 2) (.bin false .Add (.l 2) (.bi .min false (.c (.fn ay (.c (.l 7) (.c (.l 9) .n))) (.c (.l 9) .n)))) .au)) (.c (.a 19 (.mb .join (.str "") (.c (.comp false 24 (.bi .chr false (.c (.l 24) .n)) (.l 14)) .n))) (.c (.f (.q (.l 4) .Eq (.str "A")) (.c (.ret (.tup (.c (.lst false (.c (.mb .rstrip (.l 19) (.c (.str " \n\t\r\x0c\x0b\x00") .n)) .n)) (.c (.bin false .Add (.l 2) (.bi .len false (.c (.l 14) .n))) .n)))) .n) .n) (.c (.f (.eJ true (.c (.q (.l 4) .Eq (.str "Z")) (.c (.q (.int 0) .In (.l 14)) .n))) (.c (.ret (.tup (.c (.lst false (.c (.gk false (.l 19) .au (.mb .index (.l 14) (.c (.int 0) .n)) .au) .n)) (.c (.bin false .Add (.l 2) (.f (.q (.l 7) .Eq (.str "*")) (.bin false .Add (.mb .index (.l 14) (.c (.int 0) .n)) (.int 1)) (.bi .len false (.c (.l 14) .n)))) .n)))) .n) .n) (.c (.ret (.tup (.c (.lst false (.c (.l 19) .n)) (.c (.bin false .Add (.l 2) (.bi .len false (.c (.l 14) .n))) .n)))) .n))))))))))
noncomputable def oY:Row:=bU et ["value","text","sign","figures","at"] 1 5 (.c (.f (.not (.bi .isin false (.c (.l 0) (.c (.fm 15) .n)))) (.c (.ret (.l 0)) .n) .n) (.c .bad (.c (.a 2 (.gk false (.l 1) .au (.int 1) .au)) (.c (.a 3 (.f (.q (.l 2) .In (.tup (.c (.str "-") (.c (.str "+") .n)))) (.gk false (.l 1) (.int 1) .au .au) (.l 1))) (.c (.a 4 (.int 0)) (.c (.pR (.eJ true (.c (.q (.l 4) .Lt (.bi .len false (.c (.l 3) .n))) (.c (.q (.sub (.l 3) (.l 4)) .In (.str "0123456789")) .n))) (.c (.ew 4 .Add (.int 1)) .n)) (.c (.ret (.f (.eJ false (.c (.q (.l 4) .Eq (.int 0)) (.c (.q (.l 2) .Eq (.str "-")) .n))) (.int 0) (.bi .rA false (.c (.gk false (.l 3) .au (.l 4) .au) .n)))) .n)))))))
noncomputable def eV:Row:=bU bz ["items","data","at","found","item","sort","letter","order","bang","count","inner","turn","more","is_beyond"] 3 14 (.c (.a 3 (.lst true .n)) (.c (.dQ [4] false (.l 0) (.c (.fD [5,6,7,8,9,10] (.l 4)) (.c (.f (.q (.l 5) .Eq (.str "group")) (.c (.dQ [11] false (.bi .bp false (.c (.fn ay (.c (.l 9) (.c (.bi .len false (.c (.l 1) .n)) .n))) .n)) (.c (.f (.eJ true (.c (.q (.l 9) .Eq (.str "*")) (.c (.q (.l 2) .GtE (.bi .len false (.c (.l 1) .n))) .n))) (.c .brk .n) .n) (.c (.fD [12,2] (.fn bz (.c (.l 10) (.c (.l 1) (.c (.l 2) .n))))) (.c (.f (.q (.l 12) .Is .au) (.c (.ret (.tup (.c .au (.c (.l 2) .n)))) .n) .n) (.c (.ew 3 .Add (.l 12)) .n))))) (.c .cont .n)) .n) (.c (.f (.q (.l 5) .Eq (.str "counted")) (.c (.a 13 (.q (.l 2) .GtE (.bi .len false (.c (.l 1) .n)))) (.c (.fD [12,2] (.fn aM (.c (.tup (.c (.str "num") (.c (.l 6) (.c (.str "") (.c (.bool false) (.c .au (.c .au .n))))))) (.c (.l 1) (.c (.l 2) .n))))) (.c (.ew 3 .Add (.l 12)) (.c (.f (.q (.l 3) .Eq (.lst false .n)) (.c (.ret (.tup (.c (.jc (.l 3)) (.c (.l 2) .n)))) .n) .n) (.c (.f (.eJ false (.c (.q (.sub (.l 10) (.int 4)) .NotIn (.tup (.c .au (.c (.str "*") .n)))) (.c (.eJ true (.c (.l 13) (.c (.q (.sub (.l 10) (.int 4)) .Is .au) .n))) .n))) (.c (.ret (.tup (.c .au (.c (.l 2) .n)))) .n) .n) (.c (.f (.l 13) (.c .cont .n) .n) (.c (.fD [12,2] (.fn bz (.c (.lst false (.c (.bin false .Add (.bin false .Add (.gk false (.l 10) .au (.int 4) .au) (.tup (.c (.bi .max false (.c (.int 0) (.c (.fn et (.c (.mb .pop (.l 3) .n) .n)) .n))) .n))) (.gk false (.l 10) (.int 5) .au .au)) .n)) (.c (.l 1) (.c (.l 2) .n))))) .n))))))) (.c (.fD [12,2] (.fn aM (.c (.l 4) (.c (.l 1) (.c (.l 2) .n))))) .n)) (.c (.f (.q (.l 12) .Is .au) (.c (.ret (.tup (.c .au (.c (.l 2) .n)))) .n) .n) (.c (.ew 3 .Add (.l 12)) .n)))))) (.c (.ret (.tup (.c (.jc (.l 3)) (.c (.l 2) .n)))) .n)))
noncomputable def ia:Row:=bU dm ["text","data","heard"] 2 4 (.c (.a 2 .au) (.c (.tryD (.c (.a 2 (.fn bA (.c (.l 0) (.c (.mb .join (.str "") (.c (.comp false 3 (.bi .chr false (.c (.l 3) .n)) (.l 1)) .n)) (.c (.jc (.fn az .n)) .n))))) .n)) (.c (.ret (.l 2)) .n)))
noncomputable def tK:Row:=bU mW ["script","pen","items","text","stream","turn","way","number","values","kept","packed","due","data"] 1 17 (.c (.a 1 (.fn gb (.c (.l 0) .n))) (.c (.nK 2 false 13 (.fn da (.c (.l 1) (.c (.f (.q (.l 13) .Eq (.int 0)) (.int 2) (.int 1)) .n))) (.bi .bp false (.c (.bin false .Add (.int 1) (.fn ai (.c (.l 1) (.c (.int 4) .n)))) .n))) (.c (.a 3 (.fn cj (.c (.l 1) (.c (.l 2) (.c (.str "") .n))))) (.c (.a 4 (.lst true .n)) (.c (.dQ [5] false (.bi .bp false (.c (.fn ai (.c (.l 1) (.c (.int 8) .n))) .n)) (.c (.a 6 (.fn ai (.c (.l 1) (.c (.int 10) .n)))) (.c (.f (.q (.l 6) .Lt (.int 7)) (.c (.expr (.mb .append (.l 4) (.c (.sub (.fn dM .n) (.l 6)) .n))) .n) (.c (.a 7 (.bin false .Mult (.bin false .Sub (.int 1) (.bin false .Mult (.int 2) (.fn ai (.c (.l 1) (.c (.int 2) .n))))) (.fn ai (.c (.l 1) (.c (.sub (.lst false (.c (.int 9) (.c (.int 70000) (.c (.bin false .Pow (.int 2) (.int 63)) .n)))) (.bin false .Sub (.l 6) (.int 7))) .n))))) (.c (.expr (.mb .append (.l 4) (.c (.tup (.c (.l 7) (.c (.l 7) .n))) .n))) .n))) .n))) (.jc 4 (.c (.nK 8 false 14 (.sub (.l 14) (.int 0)) (.l 4)) (.c (.a 9 (.bi .jI false (.c (.l 8) .n))) (.c (.a 10 (.fn dF (.c (.l 3) (.c (.l 8) (.c (.jc (.fn az .n)) .n))))) (.c (.a 11 (.fn c9 (.c (.l 2) (.c (.bi .jI true (.c (.l 4) .n)) .n)))) (.c (.f (.eJ false (.c (.q (.comp false 15 (.bi .ord false (.c (.l 15) .n)) (.l 10)) .NotEq (.l 11)) (.c (.q (.l 8) .NotEq (.l 9)) .n))) (.c (.ret (.bool false)) .n) .n) (.c (.f (.q (.fn dm (.c (.l 3) (.c (.gk false (.l 11) .au (.int 24) .au) .n))) .NotEq (.sub (.fn bz (.c (.l 2) (.c (.gk false (.l 11) .au (.int 24) .au) (.c (.int 0) .n)))) (.int 0))) (.c (.ret (.bool false)) .n) .n) (.c (.nK 12 false 16 (.bin false .Mod (.l 16) (.int 256)) (.gk false (.l 0) .au (.int 20) .au)) (.c (.ret (.q (.fn dm (.c (.l 3) (.c (.l 12) .n))) .Eq (.sub (.fn bz (.c (.l 2) (.c (.l 12) (.c (.int 0) .n)))) (.int 0)))) .n))))))))))))))
noncomputable def iW:List Row:= [nj,jm,d9,bW,uG,qu,iy,dO,gE,eS,qz,eE,gS,oW,rS,mn,gd,iH,bo,fM,jl,nv,hV,fO,rR,uH,iS,d8,kj,y9,jU,nk,oS,nB,oU,oV,nC,nD,lp,kM,nz,ml,iT,qw,dc,fN,oX,qx,jT,ny,aw,jb,nA,oR,qy,qv,nu,nr,gD,ll,iQ,jk,bZ,gR,nq,d7,iw,o5,nE,mq,qE,ck,cQ,bw,aG,qD,nG,oZ,rT,nF,cF,aK,dW,aj,oY,eV,ia,tK]
noncomputable def sY (G:Gc)(R:Row):Prop:=
 ∃fd body,sX G.K R.a fd body R.ps R.vars R.N/\jZ R.sl body=body/\kl (tb G) R.N fd.scope R.vars R.sl body=true/\∀vals,vals.length=R.ps.length->bindArgs fd ⟨vals,[]⟩=pure (R.ps.zip vals)
noncomputable def yn:List V->Nat->Ro
 | l,0=>l.map some
 | [],n+1=>none::yn [] n
 | x::l,n+1=>some x::yn l n
theorem su:∀(l:List V) (n:Nat),l.length<=n->yn l n=l.map some++List.replicate (n-l.length) none
 | [],0,_=>rfl
 | _::_,0,h=>absurd h (by simp)
 | [],n+1,_=>congrArg (none::·) (su [] n (Nat.zero_le _))
 | x::l,n+1,h=>by refine (?_:some x::yn l n=_);refine rW (su l n (by simpa using h)) ?_;simp
noncomputable abbrev fin (Q:V->Hm->Prop):Kp:=⟨λη ξ=>Q .none η,λξ ξ=>False,λξ ξ=>False,Q⟩
theorem yG {G:Gc}(hG:Gl G){R:Row}{n:Nat}(F:sY G R){args:List V}{η:Hm}{Q:V->Hm->Prop}{E:Prop}(hl:args.length=R.ps.length)
  (h:aQ G n R.sl E η (yn args R.N) (fin Q)):ah G (n+1) (.ref R.a) args η Q E:=by
 obtain ⟨fd,body,F,hm,hc,hb⟩:=F
 rw [su _ _ (by refine rW hl ?_;exact F.num)] at h
 refine j6 (dargs:= []) F (λZ s vals S r=>⟨R.ps.zip vals,BindsTo.of_eq (hb vals (by exact rW r.length (rW hl rfl))),?_,?_⟩) (by simpa using hl) λA L r hA=>?_
 ·rw [List.map_fst_zip];refine rW r.length (rW hl ?_);exact Nat.le_refl _
 ·rw [List.map_snd_zip (by refine rW r.length (rW hl ?_);exact Nat.le_refl _),List.append_nil];exact r
 ·rw [List.append_nil] at hA ⊢
  have hlen:(args.map some++List.replicate (R.N-R.ps.length) (none:Option V)).length=R.N:=by
   have:=F.num
   simp [hl];exact Nat.add_sub_cancel' (by assumption)
  have hs:=jQ hG (n:=n) R.sl (ts:=body) (f:=kq fd L R.a R.vars (args.map some++List.replicate (R.N-R.ps.length) none)) (by refine (?_:kl (tb G) (args.map some++List.replicate (R.N-R.ps.length) none).length fd.scope R.vars R.sl body=true);refine rW hlen ?_;exact hc) hA rfl F.kind
  rw [hm] at hs
  rw [hl] at h
  exact hs E η _ _ h rfl
noncomputable def gI:V:= .obj az sj ky
structure GX (G:Gc):Prop where
 gl:Gl G
 dP:∀p∈kY,p∈G.dP
 fn:∀(i:Nat) R,iW[i]?=some R->(Nat.beq i 67||Nat.beq i 50)=false->sY G R
 CT:isNotIn G.K "str" 157=true
 EU:∀p∈ [(aa,aP),(a9,bR),(aH,bC)],makesIn G.K p.1=true/\findIn G.K (.ref p.1) "__init__"=some (some (.ref p.2))/\typeIn G.K (.ref p.2)=some (.type "function")
 lim:∀{n:Nat} {η:Hm} {Q:V->Hm->Prop} {E:Prop},(∀x dx,η x=none->η dx=none->x≠dx->Q (.ref x) (upd (upd η dx (.aZ sj ky)) x (.inst az dx)))->ah G (n+2) (.ref az) [] η Q E
 CZ:∀{n:Nat} {η:Hm} {Q:V->Hm->Prop} {E:Prop},(∀p∈xB,p.1=Str.ofString "FIXED"->Q p.2 η)->ah G (n+1) (.ref aC) [] η Q E
theorem spec {G:Gc}(X:GX G)(i:Nat){R:Row}(h:iW[i]?=some R)(hne:(Nat.beq i 67||Nat.beq i 50)=false){n:Nat}{args:List V}{η:Hm}{Q:V->Hm->Prop}{E:Prop}(hl:Nat.beq args.length R.ps.length=true)
  (w:aQ G n R.sl E η (yn args R.N) (fin Q)):ah G (n+1) (.ref R.a) args η Q E:=yG X.gl (X.fn i R h hne) (Nat.eq_of_beq_eq_true hl) w
theorem ak {η:Hm}{a:Addr}{x y:AO}:upd (upd η a x) a y=upd η a y:=by
 funext b;unfold upd;split<;>rfl
theorem bJ {η:Hm}{a:Addr}{x:AO}(h:η a=none):era (upd η a x) a=η:=by
 funext b;unfold era upd
 by_cases q:b=a
 ·subst q;exact rW (if_pos rfl) (rW h rfl)
 ·exact rW (if_neg q) (rW (if_neg q) rfl)
theorem ag {η:Hm}{a:Addr}{x:AO}:upd η a x a=some x:=by unfold upd;exact rW (if_pos rfl) rfl
theorem af {η:Hm}{a b:Addr}{x:AO}(h:b≠a):upd η a x b=η b:=by unfold upd;exact rW (if_neg h) rfl
noncomputable def IsL (η:Hm)(x:V)(l:List V):Prop:=x= .lst l\/∃b,x= .ref b/\η b=some (.list l)
theorem IsL.on {η:Hm}{x:V}{l:List V}{P:List V->Prop}(h:IsL η x l)(k:P l):jV η x P:=by
 rcases h with rfl|⟨b,rfl,h⟩
 ·exact k
 ·exact ⟨l,h,k⟩
theorem IsL.len {η:Hm}{x:V}{l:List V}{P:Nat->Prop}(h:IsL η x l)(k:P l.length):Ds η x P:=by
 rcases h with rfl|⟨b,rfl,h⟩
 ·exact k
 ·exact ⟨l,h,k⟩
theorem IsL.sub {η:Hm}{x:V}{l:List V}{k:Int}{P:V->Prop}{X:V}(h:IsL η x l)(e:jo l k=some X)(p:P X):rq x (.int k) η P:=by
 rcases h with rfl|⟨b,rfl,h⟩
 ·exact ⟨X,e,p⟩
 ·exact ⟨l,h,X,e,p⟩
theorem IsL.upd {η:Hm}{x:V}{l:List V}{a:Addr}{y:AO}(h:IsL η x l)(ha:η a=none):IsL (upd η a y) x l:=by
 rcases h with rfl|⟨b,rfl,h⟩
 ·exact .inl rfl
 ·refine .inr ⟨b,rfl,?_⟩
  rw [af]
  ·exact h
  ·rintro rfl;rw [ha] at h;cases h
theorem tT {p:Prop} [Decidable p]{P:Bool->Prop}(h:p)(k:P true):vO true p P:=⟨λξ=>k,λz=>absurd h z⟩
theorem tF {p:Prop} [Decidable p]{P:Bool->Prop}(h:¬p)(k:P false):vO true p P:=⟨λz=>absurd z h,λξ=>k⟩
theorem bT {c:Bool}{P:Bool->Prop}(h:c=true)(k:P true):vA true c P:=⟨λξ=>k,λz=>Bool.noConfusion (h.symm.trans z)⟩
theorem bF {c:Bool}{P:Bool->Prop}(h:¬c=true)(k:P false):vA true c P:=⟨λz=>absurd z h,λξ=>k⟩
noncomputable def Sub (η' η:Hm):Prop:=∀a x,η' a=some x->η a=some x
theorem ah.drop {G:Gc}{n:Nat}{fv:Value}{args:List V}{η:Hm}{Q:V->Hm->Prop}{E:Prop}(h:ah G n fv args η (λX η'=>∃η'',Sub η'' η'/\Q X η'') E):ah G n fv args η Q E:=by
 unfold ah at*
 exact λA fs hA Z s vals S r=>codeAny_mono (h A fs hA Z s vals S r) λr s' hr=>by
  match r,hr with
  | .ok (.ret v),⟨Z',η',X,a,b,c,η'',d,q⟩=>exact ⟨Z',η'',X,a,⟨b.st.drop d,b.bs,b.gens,b.os⟩,c,q⟩
  | .error e,x=>exact x
theorem i5 {η:Hm}{a:Addr}{x:AO}(h:η a=none):Sub η (upd η a x):=λb y e=>by
 rw [af]
 ·exact e
 ·rintro rfl;rw [h] at e;cases e
theorem cw {η:Hm}{a b:Addr}{x:AO}(h:upd η a x b=none):b≠a/\η b=none:=by
 by_cases q:b=a
 ·subst q;rw [ag] at h;cases h
 ·rw [af q] at h;exact ⟨q,h⟩
theorem gP {η:Hm}{a b:Addr}{x y:AO}(hb:η b=some y)(ha:η a=none):upd η a x b=some y:=by
 rw [af]
 ·exact hb
 ·rintro rfl;rw [ha] at hb;cases hb
theorem cu {G:Gc}{η:Hm}{a C dx:Addr}{ks ks':List Str}{vs vs':List V}{nm:Str}{Y:V}{Q:Hm->Prop}(h1:η a=some (.inst C dx))(h2:η dx=some (.aZ ks vs))(hm:(C,nm)∈G.dP)(hk:ks.length<=100)(e:gQ ks vs nm Y=(ks',vs'))
  (q:Q (upd η dx (.aZ ks' vs'))):jq G.dP (.ref a) nm Y η Q:=by
 unfold jq
 refine ⟨a,C,dx,ks,vs,rfl,h1,h2,hm,hk,?_⟩
 refine rW e ?_;exact q
theorem EF {k n:Nat}(h:k<n):seqIndex? (k:Int) n=some k:=by
 unfold seqIndex?
 rw [if_neg (Int.not_lt.mpr (Int.natCast_nonneg k))]
 simp [h]
theorem bX {α:Type}{l:List α}{k:Nat}{x:α}(h:l[k]?=some x)(hk:k<2^62):jo l (k:Int)=some x:=by
 have h3:k<l.length:=(List.getElem?_eq_some_iff.mp h).1
 unfold jo Cb sx
 refine rW (if_pos (by simp;lia)) (rW (EF h3) ?_);exact h
theorem xR (i n:Nat):gw (some (i:Int)) 0 n=min i n:=by
 refine (?_:(max 0 (min (if (i:Int)<0 then (i:Int)+n else i) n)).toNat=min i n)
 exact rW (if_neg (Int.not_lt.mpr (Int.natCast_nonneg i))) (rW (Ek i n) (rW (Int.max_eq_right (Int.natCast_nonneg _)) rfl))
theorem Ax (i n:Nat):gw (some (i:Int)) n n=min i n:=xR i n
theorem kh {α:Type}(l:List α)(a b:Nat):nR (some (a:Int)) (some (b:Int)) none l=(l.drop a).take (b-a):=by
 refine rW (jR ..) (rW (xR ..) (rW (Ax ..) ?_))
 by_cases h:a<=l.length
 ·refine rW (Nat.min_eq_left h) ?_
  by_cases h2:b<=l.length
  ·exact rW (Nat.min_eq_left h2) rfl
  ·exact rW (Nat.min_eq_right (by exact lA (nL h2))) (rW (List.take_of_length_le (by simp)) (rW (List.take_of_length_le (by simp;exact lB (nL h2) (sA b a))) rfl))
 ·refine rW (Nat.min_eq_right (a:=a) (by exact lA (nL h))) (rW (List.drop_eq_nil_of_le (Nat.le_refl _)) (rW (List.drop_eq_nil_of_le (by exact lA (nL h))) ?_));simp
theorem iu {α:Type}(l:List α)(b:Nat):nR none (some (b:Int)) none l=l.take b:=by
 refine rW (jR ..) (rW (Ax ..) ?_)
 refine (?_:(l.drop 0).take (min b l.length-0)=_)
 refine rW List.drop_zero (rW (Nat.sub_zero ..) ?_)
 by_cases h2:b<=l.length
 ·exact rW (Nat.min_eq_left h2) rfl
 ·exact rW (Nat.min_eq_right (by lia)) (rW (List.take_of_length_le (by simp)) (rW (List.take_of_length_le (by lia)) rfl))
theorem CW {α:Type}(l:List α)(a:Nat):nR (some (a:Int)) none none l=l.drop a:=by
 refine rW (jR ..) (rW (xR ..) ?_)
 refine (?_:(l.drop (min a l.length)).take (l.length-min a l.length)=_)
 by_cases h:a<=l.length
 ·exact rW (Nat.min_eq_left h) (rW (List.take_of_length_le (by simp)) rfl)
 ·refine rW (Nat.min_eq_right (by lia)) (rW (List.drop_eq_nil_of_le (by exact Nat.le_refl _)) (rW (List.drop_eq_nil_of_le (by lia)) ?_));simp
inductive NL where
 | c|C|s|S|l|L|q|Q|i|I|j|J|n|N|v|V
inductive TL where
 | a|A|Z
inductive DL where
 | b|B|h|H
noncomputable def NL.str:NL->Str
 | .c=>"c"| .C=>"C"| .s=>"s"| .S=>"S"| .l=>"l"| .L=>"L"| .q=>"q"| .Q=>"Q"| .i=>"i"| .I=>"I"| .j=>"j"| .J=>"J"| .n=>"n"| .N=>"N"| .v=>"v"| .V=>"V"
noncomputable def TL.str:TL->Str
 | .a=>"a"| .A=>"A"| .Z=>"Z"
noncomputable def DL.str:DL->Str
 | .b=>"b"| .B=>"B"| .h=>"h"| .H=>"H"
noncomputable def NL.fix:NL->Nat
 | .c=>1| .C=>1| .s=>2| .S=>2| .l=>4| .L=>4| .q=>8| .Q=>8| .i=>4| .I=>4| .j=>8| .J=>8| .n=>2| .N=>4| .v=>2| .V=>4
noncomputable abbrev Aw:List V:= [.int 1, .int 1, .int 2, .int 2, .int 4, .int 4, .int 8, .int 8, .int 4, .int 4, .int 8, .int 8, .int 2, .int 4, .int 2, .int 4]
theorem NL.look (t:NL):BC eW Aw t.str=some (.int t.fix):=by cases t<;>kernel_rfl
noncomputable def NL.is (t:NL)(S:Str):Bool:=Txt.contains S t.str
noncomputable def NL.size (t:NL)(bang:Bool):Nat:=if bang&&t.is "lL" then 8 else t.fix
noncomputable def NL.big (t:NL)(o:Str):Bool:=t.is "nN"||decide (o=">")
noncomputable def NL.sgn (t:NL)(bang:Bool):Bool:=if t.is "nNvV" then bang else t.is "cslqij"
noncomputable def wrap64 (n:Int):Int:=if (n.fmod (2^64)).fdiv (2^63)=0 then n.fmod (2^64) else n.fmod (2^64)-2^64
section
variable {G:Gc}(X:GX G){n:Nat}{η:Hm}{Q:V->Hm->Prop}{E:Prop}
include X
theorem d6 {k:Int}(q:Q (.int (wrap64 k)) η):ah G (n+1) (.ref cH) [.int k, .int 64] η Q E:=by
 refine spec X 0 rfl rfl rfl ?_
 refine ⟨⟨by decide,by decide,by decide⟩,by decide,by decide,λh=>⟨⟨by decide,by decide,by decide⟩,?_⟩,λh=>?_⟩
 ·have h:(k.fmod (2^64)).fdiv (2^63)≠0:=h
  unfold wrap64 at q
  rw [if_neg h] at q
  exact q
 ·have h:¬(k.fmod (2^64)).fdiv (2^63)≠0:=h
  unfold wrap64 at q
  rw [if_pos (Decidable.not_not.mp h)] at q
  exact q
theorem jj {t:NL}{b:Bool}(q:Q (.int (t.size b)) η):ah G (n+1) (.ref dj) [.str t.str, .bool b] η Q E:=by
 refine spec X 13 rfl rfl rfl ?_
 unfold NL.size at q
 cases b
 ·exact ⟨λh=>(nomatch h),λξ=>⟨_,t.look,q⟩⟩
 ·refine ⟨λξ=>⟨λh=>?_,λh=>⟨_,t.look,?_⟩⟩,λh=>(nomatch h)⟩
  ·rw [show t.is "lL"=true from h] at q;exact q
  ·rw [show t.is "lL"=false from h] at q;exact q
theorem qk {t:NL}{b:Bool}(q:Q (.bool (t.sgn b)) η):ah G (n+1) (.ref f9) [.str t.str, .bool b] η Q E:=by
 refine spec X 14 rfl rfl rfl ?_
 unfold NL.sgn at q
 refine ⟨λh=>?_,λh=>?_⟩
 ·rw [show t.is "nNvV"=true from h] at q;exact q
 ·rw [show t.is "nNvV"=false from h] at q;exact q
theorem ir {t:NL}{o:Str}(q:Q (.bool (t.big o)) η):ah G (n+1) (.ref cf) [.str t.str, .str o] η Q E:=by
 refine spec X 15 rfl rfl rfl ?_
 refine ⟨λh=>?_,λh=>?_⟩
 ·have h:t.is "nN"=true:=h
  rw [show t.big o=t.is "nN" by unfold NL.big;refine rW h ?_;rfl] at q;exact q
 ·have h:t.is "nN"=false:=h
  rw [show t.big o=decide (o=">") by unfold NL.big;refine rW h ?_;rfl] at q;exact q
noncomputable def times (c star:Int):Int:=if c= -1 then star else if c= -2 then 1 else c
theorem kf {l:List V}{c star:Int}(hc:jo l 3=some (.int c))(q:Q (.int (times c star)) η):ah G (n+1) (.ref aL) [.tup l, .int star] η Q E:=by
 refine spec X 38 rfl rfl rfl ?_
 unfold times at q
 refine jE hc ⟨λh=>?_,λh=>jE hc ⟨λh2=>?_,λh2=>jE hc ?_⟩⟩
 ·rw [if_pos h] at q;exact q
 ·rw [if_neg h,if_pos h2] at q;exact q
 ·rw [if_neg h,if_neg h2] at q;exact q
theorem oE {l:List V}{c most:Int}(hc:jo l 3=some (.int c))(q:Q (.int (if c= -1 then most else min (if c= -2 then 1 else c) most)) η):ah G (n+1) (.ref bO) [.tup l, .int most] η Q E:=by
 refine spec X 55 rfl rfl rfl ?_
 refine jE hc ⟨λh=>?_,λh=>jE hc ⟨λh2=>?_,λh2=>jE hc ?_⟩⟩
 ·rw [if_pos h] at q;exact q
 ·rw [if_neg h,if_pos h2] at q;exact q
 ·rw [if_neg h,if_neg h2] at q;exact q
theorem qd {a m:Int}(q:Q (.int (a+m)) η):ah G (n+1) (.ref ja) [.int a, .str "x", .bool false, .int m] η Q E:=by
 refine spec X 29 rfl rfl rfl ?_
 exact ⟨λh=>(nomatch h),λξ=>tT rfl q⟩
end
theorem ez {ρ:Ro}{i:Nat}{X:V}{P:V->Prop}(e:ρ[i]?=some (some X))(h:P X):gv ρ i P:=by unfold gv;refine rW e ?_;exact h
section
variable (c:Hm->Ro->(Bool->Hm->Prop)->Prop)(bd:Hm->Ro->Kp->Prop)(K:Kp)
noncomputable def fy (J:Hm->Ro->Prop)(η:Hm)(ρ:Ro):Prop:=c η ρ λb η1=>if b then bd η1 ρ ⟨J,K.nx,J,K.rt⟩ else K.nx η1 ρ
noncomputable def m6:Nat->Hm->Ro->Prop
 | 0,_,_=>False
 | n+1,η,ρ=>m6 n η ρ\/fy c bd K (m6 n) η ρ
theorem AP:∀n,m6 c bd K n=λη ρ=>∃m,m<n/\fy c bd K (m6 c bd K m) η ρ:=by
 intro L_
 induction L_ with
 | zero=>
  funext η ρ;simp [m6]
 | succ n ih=>
  funext η ρ
  apply propext
  have ih:=congrFun (congrFun (ih) η) ρ
  constructor
  ·rintro (h|h)
   ·rw [ih] at h;obtain ⟨m,hm,h⟩:=h;exact ⟨m,by exact ka ‹_› (by simp+arith only),h⟩
   ·exact ⟨n,by exact Nat.lt_succ_self _,h⟩
  ·rintro ⟨m,hm,h⟩
   rcases Nat.lt_or_ge m n with q|q
   ·exact .inl (by refine rW ih ?_;exact ⟨m,q,h⟩)
   ·have:m=n:=by exact Nat.le_antisymm (lA hm) (lA q)
    clear q hm ih;subst this;exact .inr h
theorem jd {c:Hm->Ro->(Bool->Hm->Prop)->Prop}{bd:Hm->Ro->Kp->Prop}{K:Kp}(n:Nat){η:Hm}{ρ:Ro}(h:fy c bd K (m6 c bd K n) η ρ):yx c bd K η ρ:=by
 refine ⟨λm η ρ=>fy c bd K (m6 c bd K m) η ρ,n,h,λm η ρ hm=>?_⟩
 have e:=AP c bd K m
 have hm':c η ρ λb η1=>if b then bd η1 ρ ⟨m6 c bd K m,K.nx,m6 c bd K m,K.rt⟩ else K.nx η1 ρ:=hm
 rw [e] at hm'
 exact hm'
end
noncomputable def SL.tl:SL->Nat->SL
 | s,0=>s
 | .c _ r,k+1=>r.tl k
 | .jc _ r,k=>r.tl k
 | .n,_=> .n
noncomputable def SL.hd:SL->S
 | .c s _=>s
 | _=> .Dh
noncomputable def S.body:S->SL
 | .dQ _ _ _ b=>b
 | .pR _ b=>b
 | _=> .n
noncomputable def S.cond:S->X
 | .pR c _=>c
 | _=> .au
noncomputable def run (p:Nat->Bool):List Nat->Nat
 | []=>0
 | c::r=>if p c then run p r+1 else 0
theorem wm (p:Nat->Bool):∀l,run p l<=l.length
 | []=>Nat.le_refl _
 | c::r=>by
  simp only [run]
  split
  ·simpa using wm p r
  ·simp
theorem set_same {α:Type}{ρ:List α}{j:Nat}{v:α}(h:ρ[j]?=some v):ρ.set j v=ρ:=by
 apply List.ext_getElem?
 intro m
 by_cases q:m=j
 ·subst q;exact rW (List.getElem?_set_self (List.getElem?_eq_some_iff.mp h).1) (rW h rfl)
 ·exact rW (List.getElem?_set_ne (λz=>q z.symm)) rfl
noncomputable def ls (l:List Nat):Str:=⟨l.toArray⟩
theorem av (l:List Nat):(ls l).length=l.length:=by simp [ls,Str.length]
theorem xe {a b:List Nat}(h:ls a=ls b):a=b:=by
 have:=congrArg (λx:Str=>x.cps.toList) h
 simpa [ls] using this
theorem dn (a b:List Nat):ls a++ls b=ls (a++b):=by
 refine (?_:Str.mk (a.toArray++b.toArray)=Str.mk (a++b).toArray)
 simp
theorem oO (l:List Nat)(a b:Nat):q7 (some (a:Int)) (some (b:Int)) none (ls l)=ls ((l.drop a).take (b-a)):=by
 unfold q7;refine rW (show (ls l).cps.toList=l from rfl) (rW (kh ..) ?_);rfl
theorem wc (l:List Nat)(b:Nat):q7 none (some (b:Int)) none (ls l)=ls (l.take b):=by
 unfold q7;refine rW (show (ls l).cps.toList=l from rfl) (rW (iu ..) ?_);rfl
theorem F4 (l:List Nat)(a:Nat):q7 (some (a:Int)) none none (ls l)=ls (l.drop a):=by
 unfold q7;refine rW (show (ls l).cps.toList=l from rfl) (rW (CW ..) ?_);rfl
section
variable {G:Gc}(X:GX G){n:Nat}{η:Hm}{Q:V->Hm->Prop}{E:Prop}
include X
theorem vK {j k:Nat}{S:Str}{nm:Str}{p:Nat->Bool}{K:Kp}{l:List Nat}(hl:l.length<2^61)(hS:xB[k]?=some (nm, .str S))(hp:∀c,c∈l->Txt.contains S ⟨#[c]⟩=p c)(hj:j≠0):
  ∀(d i:Nat) (ρ:Ro),l.length-i<=d->i<=l.length->ρ[0]?=some (some (.str (ls l)))->ρ[j]?=some (some (.int i))->K.nx η (ρ.set j (some (.int (i+run p (l.drop i):Nat))))->
  fy (λη ρ Q=>(wp G n (.eJ true (.c (.q (.l j) .Lt (.bi .len false (.c (.l 0) .n))) (.c (.q (.sub (.l 0) (.l j)) .In (.fm k)) .n)))).2 E η ρ Q) (λη ρ K=>aQ G n (.c (.ew j .Add (.int 1)) .n) E η ρ K) K
   (m6 (λη ρ Q=>(wp G n (.eJ true (.c (.q (.l j) .Lt (.bi .len false (.c (.l 0) .n))) (.c (.q (.sub (.l 0) (.l j)) .In (.fm k)) .n)))).2 E η ρ Q) (λη ρ K=>aQ G n (.c (.ew j .Add (.int 1)) .n) E η ρ K) K d) η ρ:=by
 intro d
 induction d with
 | zero=>
  intro i ρ h1 h2 r0 rj hK
  refine ez rj (ez r0 ⟨by refine rW (av ..) ?_;exact fb ‹_› (by rfl),λh=>?_,λh=>?_⟩)
  ·rw [av] at h;exact absurd (Int.ofNat_lt.mp h) (Nat.not_lt.mpr (Nat.le_of_sub_eq_zero (Nat.le_zero.mp h1)))
  ·rw [List.drop_eq_nil_of_le (by exact lB h1 (sA l.length i)),run,Nat.add_zero,set_same rj] at hK
   exact hK
 | succ d ih=>
  intro i ρ h1 h2 r0 rj hK
  refine ez rj (ez r0 ⟨by refine rW (av ..) ?_;exact lA hl,λh=>?_,λh=>?_⟩)
  ·rw [av] at h
   have hi:i<l.length:=by exact Int.ofNat_lt.mp (by assumption)
   rw [List.drop_eq_getElem_cons hi] at hK
   refine ez r0 (ez rj ⟨l[i],bX (List.getElem?_eq_getElem hi) (by exact ka ‹_› (by exact lA hl)),jE hS ⟨λh=>?_,λh=>?_⟩⟩)
   ·rw [hp _ (List.getElem_mem hi)] at h
    simp only [run,h,if_true] at hK
    refine ez rj ?_
    have hjl:j<ρ.length:=(List.getElem?_eq_some_iff.mp rj).1
    refine .inr (ih (i+1) (ρ.set j (some (.int ((i+1:Nat):Int)))) (by exact Nat.sub_le_of_le_add (lB h1 (sA l.length i))) hi ?_ ?_ ?_)
    ·refine rW (List.getElem?_set_ne hj) ?_;exact r0
    ·exact rW (List.getElem?_set_self hjl) rfl
    ·refine rW (List.set_set ..) (rW (show (i+1+run p (l.drop (i+1)):Nat)=i+(run p (l.drop (i+1))+1) by exact Nat.add_right_comm _ _ _) ?_)
     exact hK
   ·rw [hp _ (List.getElem_mem hi)] at h
    simp only [run,h] at hK
    rw [if_neg (by simp),Nat.add_zero,set_same rj] at hK
    exact hK
  ·rw [av] at h
   rw [List.drop_eq_nil_of_le (by exact lA (Int.ofNat_le.mp (Int.not_lt.mp h))),run,Nat.add_zero,set_same rj] at hK
   exact hK
noncomputable def uT (c:Nat):Bool:=c==32||c==9||c==10||c==13||c==12||c==11
noncomputable def gX (c:Nat):Bool:=decide (48<=c)&&decide (c<=57)
noncomputable def de (l:List Nat):Nat×Nat:=
 let at':=run uT l
 let f:=if l[at']?=some 43\/l[at']?=some 45 then at'+1 else at'
 let e:=f+run gX (l.drop f)
 if e=f then (at',at') else (at',e)
omit X in
theorem wJ (l:List Nat)(i d:Nat):q7 (some (i:Int)) (some ((i:Int)+1)) none (ls l)=ls [d] ↔ l[i]?=some d:=by
 refine rW (show ((i:Int)+1)=((i+1:Nat):Int) from rfl) (rW (oO ..) (rW (Nat.add_sub_cancel_left ..) ?_))
 refine ⟨λh=>?_,λh=>?_⟩
 ·have:=xe h
  have h2:=congrArg List.head? this
  rw [List.head?_take,if_neg Nat.one_ne_zero,List.head?_drop] at h2
  exact h2
 ·congr 1
  obtain ⟨hi,e⟩:=List.getElem?_eq_some_iff.mp h
  refine rW (List.drop_eq_getElem_cons hi) (rW e ?_);rfl
theorem l0 {l:List Nat}(hl:l.length<2^20)(h1:∀c,c∈l->Txt.contains " \t\n\r\x0c\x0b" ⟨#[c]⟩=uT c)(h2:∀c,c∈l->Txt.contains "0123456789" ⟨#[c]⟩=gX c)
  (q:Q (.tup [.int (de l).1, .int (de l).2]) η):ah G (n+1) (.ref dH) [.str (ls l)] η Q E:=by
 refine spec X 1 rfl rfl rfl ?_
 refine jd l.length ?_
 refine vK X (by exact fb ‹_› (by rfl)) rfl h1 (by decide) l.length 0 _ (by exact Nat.sub_le _ _) (by exact Nat.zero_le _) rfl rfl ?_
 refine rW (Nat.zero_add ..) (rW List.drop_zero ?_)
 have hr:=wm uT l
 unfold de at q
 dsimp only at q
 generalize run uT l=k at q hr ⊢
 have hsz:(ls l).length<=sizeLine:=by refine rW (av ..) (rW sizeLine_eq ?_);exact lA hl
 have tail:∀f:Nat,f<=l.length->f=(if l[k]?=some 43\/l[k]?=some 45 then k+1 else k)->
   aQ G n (jm.sl.tl 4) E η [some (.str (ls l)),some (.int k),some (.int f),none] (fin Q):=by
  intro f hf e
  rw [<-e] at q
  refine jd l.length ?_
  refine vK X (by exact lA hl) rfl h2 (by decide) l.length f _ (by exact Nat.sub_le _ _) hf rfl rfl ?_
  refine ⟨λh=>?_,λh=>?_⟩
  ·rw [if_pos (by lia)] at q;exact q
  ·rw [if_neg (by lia)] at q;exact q
 have hlt:∀d,l[k]?=some d->k<l.length:=λd h=>(List.getElem?_eq_some_iff.mp h).1
 have hp:=wJ l k 43
 have hm:=wJ l k 45
 rw [show ls [43]=Str.ofString "+" by decide+kernel] at hp
 rw [show ls [45]=Str.ofString "-" by decide+kernel] at hm
 refine ⟨hsz,λh=>?_,λh=>⟨hsz,λh'=>?_,λh'=>?_⟩⟩
 ·exact tail (k+1) (hlt _ (hp.mp h)) (by exact rW (if_pos (.inl (hp.mp h))) rfl)
 ·exact tail (k+1) (hlt _ (hm.mp h')) (by exact rW (if_pos (.inr (hm.mp h'))) rfl)
 ·exact tail k hr (by exact rW (if_neg λz=>z.elim (λz=>h (hp.mpr z)) λz=>h' (hm.mpr z)) rfl)
end
noncomputable def i8 (m:Int)(c:Nat):Int:=if gX c then (m*10+(c-48:Nat)).fmod (2^64) else m
noncomputable def i7 (l:List Nat):Int:=
 let a:=(de l).1
 let e:=(de l).2
 let n:=((l.drop a).take (e-a)).foldl i8 0
 wrap64 (if a<e/\l[a]?=some 45 then-n else n)
section
variable {G:Gc}(X:GX G){n:Nat}{η:Hm}{Q:V->Hm->Prop}{E:Prop}
include X
theorem lh {l:List Nat}(hl:l.length<2^20)(h1:∀c,c∈l->Txt.contains " \t\n\r\x0c\x0b" ⟨#[c]⟩=uT c)(h2:∀c,c∈l->Txt.contains "0123456789" ⟨#[c]⟩=gX c)
  (h3:∀c,c∈l->gX c=true->Txt.find "0123456789" ⟨#[c]⟩=((c-48:Nat):Int)) (h45:∀c,c∈l->((⟨#[c]⟩:Str)=Str.ofString "-" ↔ c=45))
  (he:(de l).1<=(de l).2/\(de l).2<=l.length)
  (q:Q (.int (i7 l)) η):ah G (n+2) (.ref c8) [.str (ls l), .int 64] η Q E:=by
 refine spec X 2 rfl rfl rfl ?_
 refine l0 X hl h1 h2 ?_
 unfold i7 at q
 dsimp only at q
 generalize (de l).1=a at q he ⊢
 generalize (de l).2=e at q he ⊢
 have hsz:(ls l).length<=sizeLine:=by refine rW (av ..) (rW sizeLine_eq ?_);exact lA hl
 refine ⟨hsz,?_⟩
 refine rW (oO ..) ?_
 have hsub:∀c,c∈(l.drop a).take (e-a)->c∈l:=λc hc=>List.mem_of_mem_drop (List.mem_of_mem_take hc)
 generalize (l.drop a).take (e-a)=cs at q hsub ⊢
 have tail:∀(m:Int) (sg:Option V),m=cs.foldl i8 0->aQ G (n+1) (d9.sl.tl 3) E η [some (.str (ls l)),some (.int 64),some (.int a),some (.int e),some (.int m),sg] (fin Q):=by
  intro m sg hm
  rw [<-hm] at q
  refine ⟨λhae=>?_,λhae=>?_⟩
  ·have hae:a<e:=Int.ofNat_lt.mp hae
   have hc:=List.getElem?_eq_getElem (show a<l.length by exact ka ‹_› (by exact lA he.2))
   have h45:=h45 _ (List.getElem_mem (show a<l.length by lia))
   refine ⟨_,bX hc (by exact ka ‹_› (by exact lB hl he.2)),λh=>?_,λh=>?_⟩
   ·rw [if_pos ⟨hae,by exact rW hc (rW (h45.mp h) rfl)⟩] at q
    exact d6 X q
   ·rw [if_neg λz=>h (h45.mpr (by rw [hc] at z;exact Option.some.inj z.2))] at q
    exact d6 X q
  ·rw [if_neg λz=>hae (Int.ofNat_lt.mpr z.1)] at q
   exact d6 X q
 clear q
 have loop:∀(ds:List Nat) (m:Int) (sg:Option V),(∀c,c∈ds->c∈l)->ds.foldl i8 m=cs.foldl i8 0->
   fX (m9 [5] false) (λη ρ K=>aQ G (n+1) (d9.sl.tl 2).hd.body E η ρ K)
    (λη ρ=>aQ G (n+1) (d9.sl.tl 3) E η ρ (fin Q)) Q (ds.map λc=> .str ⟨#[c]⟩) η [some (.str (ls l)),some (.int 64),some (.int a),some (.int e),some (.int m),sg]:=by
  intro ds
  induction ds with
  | nil=>intro m sg _ hm;exact tail m sg hm
  | cons c ds ih=>
   intro m sg hmem hm
   have hcl:=hmem c List.mem_cons_self
   rw [List.foldl_cons] at hm
   refine ⟨λh=>?_,λh=>?_⟩
   ·rw [h2 c hcl] at h
    refine ⟨IntMulOk.of_right (by decide),⟨by decide,by decide,by decide⟩,by decide,?_⟩
    refine ih _ _ (λd hd=>hmem d (List.mem_cons_of_mem _ hd)) ?_
    refine rV hm ?_;unfold i8;refine rW (if_pos h) (rV (h3 c hcl h) ?_);rfl
   ·rw [h2 c hcl] at h
    refine ih m _ (λd hd=>hmem d (List.mem_cons_of_mem _ hd)) ?_
    refine rV hm ?_;unfold i8;exact rW (if_neg (by simp [h])) rfl
 exact loop cs 0 none hsub rfl
end
theorem cM {a b:Int}(hb:b.natAbs<2^64):Builtin.divisionGoesByPylong a b=false:=by
 have h:(if (b==0)=true then 0 else b.natAbs.log2/30+1)<=300:=by
  split
  ·exact Nat.zero_le _
  ·have:b.natAbs.log2<64:=by
    by_cases h0:b.natAbs=0
    ·refine rW h0 ?_;decide
    ·exact (Nat.log2_lt h0).mpr hb
   exact x9 (by exact lA this)
 unfold Builtin.divisionGoesByPylong
 simp only [Bool.and_eq_false_iff,decide_eq_false_iff_not]
 exact .inl (by simpa using h)
noncomputable def uq (n:Nat):List Nat:=(Nat.toDigits 10 n).map Char.toNat
theorem um:∀d∈List.range 10,(Nat.digitChar d).toNat=48+d/\ [48,49,50,51,52,53,54,55,56,57][d]?=some (48+d):=by decide+kernel
theorem qR {d:Nat}(h:d<10):(Nat.digitChar d).toNat=48+d:=(um d (List.mem_range.mpr h)).1
theorem sE {n:Nat}(h:n<10):uq n= [48+n]:=by
 unfold uq;exact rW (Nat.toDigits_of_lt_base h) (rW List.map_singleton (rW (qR h) rfl))
theorem sG {n:Nat}(h:10<=n):uq n=uq (n/10)++ [48+n%10]:=by
 unfold uq;exact rW (Nat.toDigits_of_base_le (by decide) h) (rW List.map_append (rW List.map_singleton (rW (qR (Nat.mod_lt _ (by decide))) rfl)))
theorem mJ (k d:Nat):(k:Int).fmod d=((k%d:Nat):Int):=by exact rW (Int.fmod_eq_emod_of_nonneg _ (Int.natCast_nonneg _)) (rW (Int.natCast_emod ..) rfl)
theorem gZ (k d:Nat):(k:Int).fdiv d=((k/d:Nat):Int):=by exact rW (Int.fdiv_eq_ediv_of_nonneg _ (Int.natCast_nonneg _)) (rW (Int.natCast_ediv ..) rfl)
theorem xH {m:Nat}:jo (Str.ofString "0123456789").cps.toList ((m:Int).fmod 10)=some (48+m%10):=by
 refine rW (show (m:Int).fmod 10=((m%10:Nat):Int) from mJ m 10) (rW (show (Str.ofString "0123456789").cps.toList= [48,49,50,51,52,53,54,55,56,57] by decide+kernel) ?_)
 exact bX (um _ (List.mem_range.mpr (Nat.mod_lt _ (by decide)))).2 (Nat.lt_trans (Nat.mod_lt _ (by decide)) (by decide))
noncomputable def kn (i:Int):List Nat:=if i<0 then 45::uq (-i).toNat else uq i.toNat
section
variable {G:Gc}(X:GX G){n:Nat}{η:Hm}{Q:V->Hm->Prop}{E:Prop}
include X
theorem fG {m:Nat}(hm:m<10^30)(q:Q (.str (ls (uq m))) η):ah G (n+1) (.ref bG) [.int m] η Q E:=by
 refine spec X 3 rfl rfl rfl ?_
 refine tF (by simp) ⟨by decide,_,xH,?_⟩
 have loop:∀(k m':Nat) (t:List Nat),m'<10^(k+1)->t.length+k<=40->(if m'<10 then [] else uq (m'/10))++t=uq m->
   fy (λη ρ Q=>(wp G n (bW.sl.tl 2).hd.cond).2 E η ρ Q) (λη ρ K=>aQ G n (bW.sl.tl 2).hd.body E η ρ K)
    ⟨λη ρ=>aQ G n (bW.sl.tl 3) E η ρ (fin Q),λξ ξ=>False,λξ ξ=>False,Q⟩
    (m6 (λη ρ Q=>(wp G n (bW.sl.tl 2).hd.cond).2 E η ρ Q) (λη ρ K=>aQ G n (bW.sl.tl 2).hd.body E η ρ K)
     ⟨λη ρ=>aQ G n (bW.sl.tl 3) E η ρ (fin Q),λξ ξ=>False,λξ ξ=>False,Q⟩ k) η [some (.int m'),some (.str (ls t))]:=by
  intro k
  induction k with
  | zero=>
   intro m' t h1 h2 h3
   refine tF (by lia) ?_
   rw [if_pos (by assumption),List.nil_append] at h3
   rw [<-h3] at q;exact q
  | succ k ih=>
   intro m' t h1 h2 h3
   refine ⟨λh=>?_,λh=>?_⟩
   ·have h:9<m':=Int.ofNat_lt.mp h
    rw [if_neg (by exact Nat.not_lt.mpr (by assumption))] at h3
    refine ⟨⟨by decide,cM (by decide)⟩,?_⟩
    refine rW (show (m':Int).fdiv 10=((m'/10:Nat):Int) from gZ m' 10) ?_
    refine ⟨by decide,_,xH,?_,?_⟩
    ·rw [av,sizeLine_eq];refine (?_:1+t.length<=_);exact lA h2
    ·refine rW (show (⟨#[48+m'/10%10]⟩:Str)=ls [48+m'/10%10] from rfl) (rW (dn ..) ?_)
     refine .inr (ih (m'/10) ((48+m'/10%10)::t) (by rw [Nat.pow_succ] at h1;exact (Nat.div_lt_iff_lt_mul (by decide)).mpr h1) (by refine rW List.length_cons ?_;exact lA h2) ?_)
     refine rV h3 ?_
     by_cases h':m'/10<10
     ·refine rW (if_pos h') (rW (sE h') (rW (Nat.mod_eq_of_lt h') ?_));rfl
     ·refine rW (if_neg h') (rW (sG (n:=m'/10) (by exact Nat.le_of_not_lt (by assumption))) (rW (List.append_assoc ..) ?_));rfl
   ·have h:¬9<m':=λz=>h (Int.ofNat_lt.mpr z)
    rw [if_pos (by exact Nat.lt_of_not_le (by assumption)),List.nil_append] at h3
    rw [<-h3] at q;exact q
 refine jd 30 (loop 30 m [48+m%10] (by exact fb ‹_› (by rfl)) (by simp) ?_)
 by_cases h:m<10
 ·refine rW (if_pos h) (rW (sE h) (rW (Nat.mod_eq_of_lt h) ?_));rfl
 ·exact rW (if_neg h) (rW (sG (n:=m) (by exact Nat.le_of_not_lt (by assumption))) rfl)
omit X in
theorem pI {m k:Nat}(hk:1<=k)(hm:m<10^k):(uq m).length<=k:=by
 unfold uq;refine rW (List.length_map ..) ?_;exact toDigits_len_pow (by decide) hk hm
theorem lZ {i:Int}(hi:i.natAbs<10^30)(q:Q (.str (ls (kn i))) η):ah G (n+2) (.ref bG) [.int i] η Q E:=by
 unfold kn at q
 by_cases h:i<0
 ·rw [if_pos h] at q
  refine spec X 3 rfl rfl rfl ?_
  refine tT h ?_
  have hn: -i=(((-i).toNat:Nat):Int):=(Int.toNat_of_nonneg (Int.neg_nonneg_of_nonpos (Int.le_of_lt h))).symm
  have hlt:(-i).toNat<10^30:=(Int.toNat_lt (Int.neg_nonneg_of_nonpos (Int.le_of_lt h))).mpr (rV (Int.ofNat_natAbs_of_nonpos (Int.le_of_lt h)) (Int.ofNat_lt.mpr hi))
  refine (?_:ah G (n+1) (.ref bG) [.int (-i)] η _ E)
  refine rW hn ?_
  refine fG X hlt ⟨?_,?_⟩
  ·rw [av,sizeLine_eq]
   have:=pI (by decide) hlt
   refine (?_:1+_<=_)
   exact Cc ‹_› (by rfl)
  ·refine rW (show Str.ofString "-"=ls [45] by decide+kernel) (rW (dn ..) ?_)
   exact q
 ·rw [if_neg h] at q
  obtain ⟨m,rfl⟩:=Int.eq_ofNat_of_zero_le (Int.not_lt.mp h)
  exact (fG X (n:=n+1) (by assumption) q)
set_option genCtorIdx false in
inductive SV where
 | au
 | txt (l:List Nat)
 | num (i:Int)
noncomputable def SV.v:SV->V
 | .au=> .none
 | .txt l=> .str (ls l)
 | .num i=> .int i
noncomputable def SV.text:SV->List Nat
 | .au=> []
 | .txt l=>l
 | .num i=>kn i
noncomputable def SV.nat:SV->Int
 | .au=>0
 | .txt l=>i7 l
 | .num i=>i
noncomputable def eN:List (List Nat):= [[],[55],[32,45,51,120],[97,98,99],[102,48,90,113],[49,48,49,49]]
noncomputable def SV.ok:SV->Prop
 | .au=>True
 | .txt l=>l∈eN
 | .num i=>i.natAbs<10^30
omit X in
theorem vR:∀l∈eN,l.length<2^20/\(∀c,c∈l->Txt.contains (Str.ofString " \t\n\r\x0c\x0b") ⟨#[c]⟩=uT c)/\(∀c,c∈l->Txt.contains (Str.ofString "0123456789") ⟨#[c]⟩=gX c)/\
  (∀c,c∈l->gX c=true->Txt.find (Str.ofString "0123456789") ⟨#[c]⟩=((c-48:Nat):Int))/\(∀c,c∈l->((⟨#[c]⟩:Str)=Str.ofString "-" ↔ c=45))/\((de l).1<=(de l).2/\(de l).2<=l.length):=by
 decide+kernel
theorem jt {s:SV}(hs:s.ok)(q:Q (.str (ls s.text)) η):ah G (n+3) (.ref fx) [s.v] η Q E:=by
 refine spec X 4 rfl rfl rfl ?_
 cases s with
 | au=>exact q
 | txt l=>exact ⟨_,rfl,λh=>(nomatch h),λξ=>⟨_,if_pos X.CT,λh=>(nomatch h),λξ=>q⟩⟩
 | num i=>exact ⟨_,rfl,λξ=>lZ X hs q,λh=>(nomatch h)⟩
theorem jK {s:SV}{C:Addr}{ks:List Str}{vs:List V}(hs:s.ok)(hw:eu G.dP (.obj C ks vs) "width" η=some (.int 64))(q:Q (.int s.nat) η):
  ah G (n+3) (.ref dY) [s.v, .obj C ks vs] η Q E:=by
 refine spec X 5 rfl rfl rfl ?_
 cases s with
 | au=>exact q
 | num i=>exact ⟨_,rfl,λξ=>q,λh=>(nomatch h)⟩
 | txt l=>
  obtain ⟨h0,h1,h2,h3,h4,h5⟩:=vR l hs
  exact ⟨_,rfl,λh=>(nomatch h),λξ=>⟨_,if_pos X.CT,λh=>(nomatch h),λξ=>⟨_,hw,lh X h0 h1 h2 h3 h4 h5 q⟩⟩⟩
end
noncomputable abbrev forL (G:Gc)(n:Nat)(E:Prop)(Q:V->Hm->Prop)(s:SL)(js:List Nat)(tp:Bool)(items:List V)(η:Hm)(ρ:Ro):Prop:=
 fX (m9 js tp) (λη ρ K=>aQ G n s.hd.body E η ρ K) (λη ρ=>aQ G n (s.tl 1) E η ρ (fin Q)) Q items η ρ
theorem aO {m:Nat}(h:m<2^31):itemsOf (.q8 0 m 1)=some ((List.range m).map λ(k:Nat)=> .int k):=by
 have hs:Builtin.Range.rangeSize 0 (m:Int) 1=m:=by
  unfold Builtin.Range.rangeSize
  refine rW (if_pos (by decide)) ?_
  split
  ·simp
  ·lia
 refine rW (kR ⟨by decide,by decide,by decide,by decide,Int.lt_of_lt_of_le (by decide) (Int.natCast_nonneg m),iL (2^31) h⟩) (rW hs ?_)
 simp
theorem sz {m:Nat}(h:m<2^20):m<=sizeLine:=by refine rW sizeLine_eq ?_;exact lA h
noncomputable def jy (i:Int)(size:Nat):List Int:=(List.range size).map λk=>Builtin.bitAnd (i.fdiv (2^(8*k))) 255
noncomputable def rowOf (i:Int)(size:Nat)(big:Bool):List Int:=if big then (jy i size).reverse else jy i size
section
variable {G:Gc}(X:GX G){n:Nat}{η:Hm}{Q:V->Hm->Prop}{E:Prop}
include X
theorem kd {i:Int}{size:Nat}{big:Bool}(hs:size<=8)(q:Q (.lst ((rowOf i size big).map .int)) η):ah G (n+1) (.ref cC) [.int i, .int size, .bool big] η Q E:=by
 refine spec X 6 rfl rfl rfl ?_
 intro a ha
 refine ⟨_,aO (by exact bt ‹_› (by rfl)),?_⟩
 have loop:∀(k m:Nat) (sg:Option V),k+m=size->
   forL G n E Q (iy.sl.tl 1) [4] false (((List.range size).drop m).map λ(k:Nat)=> .int k) (upd η a (.list ((jy i m).map .int))) [some (.int i),some (.int size),some (.bool big),some (.ref a),sg]:=by
  intro k
  induction k with
  | zero=>
   intro m sg hm
   obtain rfl:m=size:=by exact qA hm
   refine rW (List.drop_eq_nil_of_le (by simp)) ?_
   unfold rowOf at q
   refine ⟨λh=>?_,λh=>?_⟩
   ·rw [if_pos h] at q
    refine ⟨_,ag,_,ag,sz (by simp [jy];exact bt ‹_› (by rfl)), .inl ⟨_,ag,?_⟩⟩
    refine rW ak (rW (bJ ha) (rV List.map_reverse ?_));exact q
   ·rw [if_neg (by simp [h])] at q
    refine .inl ⟨_,ag,?_⟩
    refine rW (bJ ha) ?_;exact q
  | succ k ih=>
   intro m sg hm
   have hlt:m<size:=by exact lA (eL hm)
   refine rW (List.drop_eq_getElem_cons (by simpa using hlt)) (rW (List.getElem_range ..) ?_)
   refine ⟨_,ag,IntMulOk.of_left (by decide),by exact Int.natCast_nonneg _,_,ag,sz (by simp [jy];exact ka ‹_› (by exact lA hs)),?_⟩
   refine rW ak ?_
   have:=ih (m+1) (some (.int m)) (by exact qA hm)
   rw [show (jy i (m+1)).map V.int=(jy i m).map V.int++ [V.int (Builtin.bitAnd (i.fdiv (2^(8*(m:Int)).toNat)) 255)] by refine rW (show (8*(m:Int)).toNat=8*m by exact Int.toNat_natCast _) ?_;simp [jy,List.range_succ]] at this
   exact this
 have:=loop size 0 none (by simp+arith)
 rw [List.drop_zero] at this
 exact this
noncomputable def pZ (l:List Int):Int:=l.foldl (λf o=>f*256+o) 0
noncomputable def BP:List Int->Bool
 | x::_=>decide (127<x)
 | []=>false
noncomputable def numOf (row:List Int)(big sg:Bool):Int:=
 let o:=if big then row else row.reverse
 if (sg&&BP o)=true then pZ o-2^(8*row.length) else pZ o
theorem ke {row:List Int}{big sg:Bool}(hl:row.length<=8)(q:Q (.int (numOf row big sg)) η):ah G (n+1) (.ref cE) [.lst (row.map .int), .bool big, .bool sg] η Q E:=by
 refine spec X 7 rfl rfl rfl ?_
 unfold numOf at q
 dsimp only at q
 have main:∀o:List Int,o.length=row.length->Q (.int (if (sg&&BP o)=true then pZ o-2^(8*row.length) else pZ o)) η->
   aQ G n (dO.sl.tl 2) E η [some (.lst (row.map .int)),some (.bool big),some (.bool sg),some (.int 0),some (.lst (o.map .int)),none] (fin Q):=by
  intro o ho q
  have loop:∀(ds:List Int) (m:Int) s5,ds.foldl (λf o=>f*256+o) m=pZ o->
    forL G n E Q (dO.sl.tl 2) [5] false (ds.map .int) η [some (.lst (row.map .int)),some (.bool big),some (.bool sg),some (.int m),some (.lst (o.map .int)),s5]:=by
   intro ds
   induction ds with
   | nil=>
    intro m s5 h
    obtain rfl:m=pZ o:=h
    refine ⟨λh=>?_,λh=>?_⟩
    ·subst h
     cases o with
     | nil=>exact ⟨true,rfl,λξ=>q,λh=>(nomatch h)⟩
     | cons x r=>
      refine ⟨false,rfl,λh=>(nomatch h),λξ=>⟨.int x,bX (k:=0) rfl (by decide),λh=>?_,λh=>?_⟩⟩
      ·have h:127<x:=h
       rw [if_pos (by simp [BP,h])] at q
       rw [List.length_cons] at ho
       refine ⟨by refine rW (List.length_map ..) ?_;exact bt ‹_› (by rfl),IntMulOk.of_left (by decide),⟨by exact Int.natCast_nonneg _,by refine rW (List.length_map ..) ?_;lia,by decide⟩,?_⟩
       refine rW (List.length_map ..) (rW (Int.one_mul ..) ?_)
       exact q
      ·have h:¬127<x:=h
       rw [if_neg (by simp [BP,h])] at q
       exact q
    ·subst h
     exact q
   | cons d ds ih=>
    intro m s5 h
    exact ⟨IntMulOk.of_right (by decide),ih _ _ h⟩
  exact loop o 0 none rfl
 refine ⟨λh=>?_,λh=>?_⟩
 ·subst h;exact main row rfl q
 ·subst h
  refine ⟨rfl,sz (by refine rW (List.length_map ..) ?_;exact bt ‹_› (by rfl)),?_⟩
  refine (?_:aQ G n (dO.sl.tl 2) E η [some (.lst (row.map .int)),some (.bool false),some (.bool sg),some (.int 0),some (.lst (nR none none (some (-1)) (row.map .int))),none] (fin Q))
  refine rW (hJ ..) (rV List.map_reverse ?_)
  exact main row.reverse (by simp) q
end
noncomputable def bitAt (big:Bool)(k:Nat):Int:=if big then (128:Int).fdiv (2^((k:Int).fmod 8).toNat) else 1*2^((k:Int).fmod 8).toNat
noncomputable def fq (codes:List Int)(big:Bool)(r:List Int)(k:Nat):List Int:=
 if Builtin.bitAnd (codes.getD k 0) 1=0 then r else r.set (k/8) (Builtin.bitOr (r.getD (k/8) 0) (bitAt big k))
noncomputable def gM (codes:List Int)(count:Nat)(big:Bool):List Int:=(List.range (min count codes.length)).foldl (fq codes big) (List.replicate ((count+7)/8) 0)
theorem kX (codes:List Int)(big:Bool)(r:List Int)(k:Nat):(fq codes big r k).length=r.length:=by
 unfold fq;split<;>simp
theorem gm (m:Nat)(i:Int):(List.replicate m [V.int i]).flatten=(List.replicate m i).map V.int:=by
 induction m with
 | zero=>rfl
 | succ m ih=>refine rW List.replicate_succ (rW List.replicate_succ (rW List.flatten_cons (rW ih ?_)));rfl
theorem gz {l:List Int}{k:Nat}(h:k<l.length):(l.map V.int)[k]?=some (.int (l.getD k 0)):=by
 refine rW List.getElem?_map (rW (List.getElem?_eq_getElem h) (rW List.getD_eq_getElem?_getD (rW (List.getElem?_eq_getElem h) ?_)));rfl
theorem zr {count:Nat}{l:List Int}:min (count:Int) (((l.map V.int).length:Nat):Int)=((min count l.length:Nat):Int):=by refine rW (List.length_map ..) ?_;omega
theorem tB {count:Nat}{l:List Int}(h:count<2^31):itemsOf (.q8 0 (min (count:Int) (((l.map V.int).length:Nat):Int)) 1)=some ((List.range (min count l.length)).map λ(k:Nat)=> .int k):=by
 refine rW zr ?_;exact aO (by exact Nat.lt_of_le_of_lt (Nat.min_le_left _ _) (by assumption))
theorem zm {k d:Nat}(hd:0<d):0<=(k:Int).fmod d/\(k:Int).fmod d<d:=by
 refine rW (mJ ..) ?_;have:=Nat.mod_lt k hd;exact ⟨iA (Int.natCast_nonneg (k%d)),Int.ofNat_lt.mpr (lA this)⟩
section
variable {G:Gc}(X:GX G){n:Nat}{η:Hm}{Q:V->Hm->Prop}{E:Prop}
include X
theorem lV {codes:List Int}{count:Nat}{big:Bool}(hc:codes.length<2^20)(hn:count<2^20)(q:Q (.lst ((gM codes count big).map .int)) η):ah G (n+1) (.ref dC) [.lst (codes.map .int), .int count, .bool big] η Q E:=by
 refine spec X 8 rfl rfl rfl ?_
 have e7:((count:Int)+7).fdiv 8=(((count+7)/8:Nat):Int):=gZ (count+7) 8
 refine ⟨⟨by decide,cM (by decide)⟩,?_⟩
 refine rW e7 ?_
 refine ⟨⟨nP,iL (2^63) (lB hn (Nat.div_le_self (count+7) 8)),by refine (?_:1*((count+7)/8)<=2^24);exact lB hn (Nat.div_le_self (count+7) 8)⟩,λa ha=>?_⟩
 refine rW (Int.toNat_natCast ..) (rW (gm ..) ?_)
 refine ⟨(show (codes.map V.int).length<2^63 by refine rW (List.length_map ..) ?_;exact fb ‹_› (by rfl)),_,tB (by exact fb ‹_› (by rfl)),?_⟩
 unfold gM at q
 have loop:∀(ks:List Nat) (r:List Int) s4,(∀k∈ks,k<min count codes.length)->r.length=(count+7)/8->ks.foldl (fq codes big) r=(List.range (min count codes.length)).foldl (fq codes big) (List.replicate ((count+7)/8) 0)->
   forL G n E Q (gE.sl.tl 1) [4] false (ks.map λ(k:Nat)=> .int k) (upd η a (.list (r.map .int))) [some (.lst (codes.map .int)),some (.int count),some (.bool big),some (.ref a),s4]:=by
  intro ks
  induction ks with
  | nil=>
   intro r s4 _ _ h
   refine .inl ⟨_,ag,?_⟩
   refine rW (bJ ha) (rW (show r=_ from h) ?_);exact q
  | cons k ks ih=>
   intro r s4 hk hr h
   have hk0:=hk k List.mem_cons_self
   rw [List.foldl_cons] at h
   have hstep:=kX codes big r k
   refine ⟨_,bX (gz (show k<codes.length by exact ka ‹_› (by exact lA (Nat.min_le_right count codes.length)))) (by exact ka ‹_› (by exact lB hc (Nat.min_le_right count codes.length))),λhb=>?_,λhb=>?_⟩
   ·have hb':¬Builtin.bitAnd (codes.getD k 0) 1=0:=hb
    have fin:∀W,W=bitAt big k->ru (.ref a) (.int ((k:Int).fdiv 8)) (.int (Builtin.bitOr (r.getD (k/8) 0) W)) (upd η a (.list (r.map .int))) (λη5=>forL G n E Q (gE.sl.tl 1) [4] false (ks.map λ(k:Nat)=> .int k) η5 [some (.lst (codes.map .int)),some (.int count),some (.bool big),some (.ref a),some (.int k)]):=by
     intro W hW
     refine rW (show (k:Int).fdiv 8=((k/8:Nat):Int) from gZ k 8) ?_
     refine ⟨_,ag,Int.natCast_nonneg _,by refine rW (List.length_map ..) (rW hr ?_);exact Int.ofNat_lt.mpr (Bo (lC (Nat.div_mul_le_self k 8) (Nat.lt_min.mp hk0).1 (D6 (count+7)))),by refine rW (List.length_map ..) ?_;exact lC hn (eL hr) (Nat.div_mul_le_self (count+7) 8),?_⟩
     refine rW ak (rW (Int.toNat_natCast ..) (rV List.map_set ?_))
     refine ih _ _ (λk' h'=>hk k' (List.mem_cons_of_mem _ h')) (by simpa using hr) ?_
     refine rV h ?_;unfold fq;exact rW (if_neg hb') (rW hW rfl)
    have hm:0<=(k:Int).fmod 8/\(k:Int).fmod 8<8:=zm (d:=8) (by decide)
    refine ⟨⟨by decide,cM (by decide)⟩,_,_,ag,(by rw [show (k:Int).fdiv 8=((k/8:Nat):Int) from gZ k 8];exact bX (gz (rW hr (Bo (lC (Nat.div_mul_le_self k 8) (Nat.lt_min.mp hk0).1 (D6 (count+7)))))) (by exact x9 (by exact lC hc hk0 (Nat.min_le_right count codes.length)))),λhb=>?_,λhb=>?_⟩
    ·clear hstep h ih q;subst hb;exact ⟨by decide,hm.1,fin _ rfl⟩
    ·clear hstep h ih q;subst hb;exact ⟨by decide,⟨hm.1,by exact iA hm.2,by decide⟩,fin _ rfl⟩
   ·have hb':Builtin.bitAnd (codes.getD k 0) 1=0:=Decidable.not_not.mp hb
    refine ih _ _ (λk' h'=>hk k' (List.mem_cons_of_mem _ h')) hr ?_
    refine rV h ?_;unfold fq;exact rW (if_pos hb') rfl
 exact loop _ _ none (λk hk=>by simpa using hk) (by simp) rfl
end
noncomputable def pU (c:Int):Int:=if (65<=c/\c<=90)\/(97<=c/\c<=122) then Builtin.bitAnd (c+9) 15 else Builtin.bitAnd c 15
noncomputable def gn (codes:List Int)(big:Bool)(r:List Int)(k:Nat):List Int:=
 r.set (k/2) (Builtin.bitOr (r.getD (k/2) 0) (pU (codes.getD k 0)*2^(if (decide ((k:Int).fmod 2=0)==big)=true then 4 else 0:Nat)))
noncomputable def gG (codes:List Int)(count:Nat)(big:Bool):List Int:=(List.range (min count codes.length)).foldl (gn codes big) (List.replicate ((count+1)/2) 0)
theorem dS {x:Int}{m:Nat}:0<=Builtin.bitAnd x m/\Builtin.bitAnd x m<=m:=by
 by_cases hx:0<=x
 ·refine rW (bitAnd_pp hx (Int.natCast_nonneg _)) ?_
  exact ⟨Int.natCast_nonneg _,Int.ofNat_le.mpr Nat.and_le_right⟩
 ·refine rW (bitAnd_np hx (Int.natCast_nonneg _)) ?_
  have:(m:Int).toNat&&&(Builtin.bitNot x).toNat<=m:=Nat.and_le_left
  exact ⟨Int.sub_nonneg_of_le (Int.ofNat_le.mpr this),Int.sub_le_self _ (Int.natCast_nonneg _)⟩
theorem kp (c:Int):0<=pU c/\pU c<=15:=by
 unfold pU
 split
 ·exact dS (m:=15)
 ·exact dS (m:=15)
theorem qI (codes:List Int)(big:Bool)(r:List Int)(k:Nat):(gn codes big r k).length=r.length:=by
 unfold gn;simp
section
variable {G:Gc}(X:GX G){n:Nat}{η:Hm}{Q:V->Hm->Prop}{E:Prop}
include X
theorem oJ {c:Int}(q:Q (.int (pU c)) η):ah G (n+1) (.ref eZ) [.int c] η Q E:=by
 refine spec X 10 rfl rfl rfl ?_
 unfold pU at q
 refine ⟨λh1=>⟨λh2=>?_,λh2=>⟨λh3=>⟨λh4=>?_,λh4=>?_⟩,λh3=>?_⟩⟩,λh1=>⟨λh3=>⟨λh4=>?_,λh4=>?_⟩,λh3=>?_⟩⟩
 ·rw [if_pos (.inl ⟨h1,h2⟩)] at q;exact q
 ·rw [if_pos (.inr ⟨h3,h4⟩)] at q;exact q
 ·rw [if_neg λz=>z.elim (λz=>h2 z.2) λz=>h4 z.2] at q;exact q
 ·rw [if_neg λz=>z.elim (λz=>h2 z.2) λz=>h3 z.1] at q;exact q
 ·rw [if_pos (.inr ⟨h3,h4⟩)] at q;exact q
 ·rw [if_neg λz=>z.elim (λz=>h1 z.1) λz=>h4 z.2] at q;exact q
 ·rw [if_neg λz=>z.elim (λz=>h1 z.1) λz=>h3 z.1] at q;exact q
theorem jL {codes:List Int}{count:Nat}{big:Bool}(hc:codes.length<2^20)(hn:count<2^20)(q:Q (.lst ((gG codes count big).map .int)) η):ah G (n+2) (.ref b8) [.lst (codes.map .int), .int count, .bool big] η Q E:=by
 refine spec X 11 rfl rfl rfl ?_
 have e7:((count:Int)+1).fdiv 2=(((count+1)/2:Nat):Int):=gZ (count+1) 2
 refine ⟨⟨by decide,cM (by decide)⟩,?_⟩
 refine rW e7 ?_
 refine ⟨⟨nP,iL (2^63) (lB hn (Nat.div_le_self (count+1) 2)),by refine (?_:1*((count+1)/2)<=2^24);exact lB hn (Nat.div_le_self (count+1) 2)⟩,λa ha=>?_⟩
 refine rW (Int.toNat_natCast ..) (rW (gm ..) ?_)
 refine ⟨(show (codes.map V.int).length<2^63 by refine rW (List.length_map ..) ?_;exact fb ‹_› (by rfl)),_,tB (by exact fb ‹_› (by rfl)),?_⟩
 unfold gG at q
 have loop:∀(ks:List Nat) (r:List Int) s4 s5,(∀k∈ks,k<min count codes.length)->r.length=(count+1)/2->ks.foldl (gn codes big) r=(List.range (min count codes.length)).foldl (gn codes big) (List.replicate ((count+1)/2) 0)->
   forL G (n+1) E Q (eE.sl.tl 1) [4] false (ks.map λ(k:Nat)=> .int k) (upd η a (.list (r.map .int))) [some (.lst (codes.map .int)),some (.int count),some (.bool big),some (.ref a),s4,s5]:=by
  intro ks
  induction ks with
  | nil=>
   intro r s4 s5 _ _ h
   refine .inl ⟨_,ag,?_⟩
   refine rW (bJ ha) (rW (show r=_ from h) ?_);exact q
  | cons k ks ih=>
   intro r s4 s5 hk hr h
   have hk0:=hk k List.mem_cons_self
   have hr8:k/2<r.length:=rW hr (D5 (lC (Nat.div_mul_le_self k 2) (Nat.lt_min.mp hk0).1 (D7 (count+1))))
   have e8:(k:Int).fdiv 2=((k/2:Nat):Int):=gZ k 2
   refine ⟨by decide,⟨by decide,cM (by decide)⟩,_,_,ag,(by rw [e8];exact bX (gz hr8) (by exact ka ‹_› (by exact lC hn (eL hr) (Nat.div_mul_le_self (count+1) 2)))),_,bX (gz (show k<codes.length by exact ka ‹_› (by exact lA (Nat.min_le_right count codes.length)))) (by exact ka ‹_› (by exact lB hc (Nat.min_le_right count codes.length))),?_⟩
   refine oJ X ?_
   have nb:=kp (codes.getD k 0)
   have finish:∀W s5,W=pU (codes.getD k 0)*2^(if (decide ((k:Int).fmod 2=0)==big)=true then 4 else 0:Nat)->ru (.ref a) (.int ((k:Int).fdiv 2)) (.int (Builtin.bitOr (r.getD (k/2) 0) W)) (upd η a (.list (r.map .int)))
     (λη5=>forL G (n+1) E Q (eE.sl.tl 1) [4] false (ks.map λ(k:Nat)=> .int k) η5 [some (.lst (codes.map .int)),some (.int count),some (.bool big),some (.ref a),some (.int k),s5]):=by
    intro W s5 hW
    refine rW e8 ?_
    refine ⟨_,ag,Int.natCast_nonneg _,by refine rW (List.length_map ..) ?_;exact Int.ofNat_lt.mpr hr8,by refine rW (List.length_map ..) ?_;exact lC hn (eL hr) (Nat.div_mul_le_self (count+1) 2),?_⟩
    refine rW ak (rW (Int.toNat_natCast ..) (rV List.map_set ?_))
    refine ih _ _ _ (λk' h'=>hk k' (List.mem_cons_of_mem _ h')) (by simpa using hr) ?_
    refine rV h (rW List.foldl_cons ?_);unfold gn;exact rW hW rfl
   refine ⟨λhb=>?_,λhb=>?_⟩
   ·rw [hb] at finish;exact ⟨⟨by decide,by decide,Cu (n:=2^64) nb.1 (Int.lt_of_le_of_lt nb.2 (by decide))⟩,finish _ _ rfl⟩
   ·rw [hb] at finish;exact ⟨⟨by decide,by decide,Cu (n:=2^64) nb.1 (Int.lt_of_le_of_lt nb.2 (by decide))⟩,finish _ _ rfl⟩
 exact loop _ _ none none (λk hk=>by simpa using hk) (by simp) rfl
end
theorem zD:∀cs:List Nat,Txt.join (Str.ofString "") (cs.map λc=>ls [c])=ls cs:=by
 intro cs
 have h:=join_nil_signs (ls cs)
 have e:signs (ls cs)=cs.map λc=>ls [c]:=by
  unfold signs
  first|rfl|simp [ls]
 rw [e] at h
 refine rW (show Str.ofString ""=(⟨#[]⟩:Str) by decide+kernel) ?_
 refine (?_:Builtin.Str.glued _ _=_)
 refine rW (PySem.StrLaws.glued_eq_join ..) ?_
 exact h
theorem ti:∀cs:List Nat,strsOf (cs.map λc=>V.str (ls [c]))=some (cs.map λc=>ls [c])
 | []=>rfl
 | c::cs=>congrArg (Option.map (ls [c]::·)) (ti cs)
theorem vS:∀cs:List Nat,((cs.map λc=>ls [c]).map (·.length)).sum=cs.length
 | []=>rfl
 | c::cs=>by simp only [List.map_cons,List.sum_cons,vS cs,av,List.length_cons,List.length_nil];exact Nat.add_comm _ _
theorem lI {G:Gc}{η:Hm}{x:V}{cs:List Nat}{Q:V->Hm->Prop}(hx:IsL η x (cs.map λc=> .str (ls [c])))(hl:cs.length<2^20)(q:Q (.str (ls cs)) η):Ac G.K .join false [.str (Str.ofString ""),x] η Q:=by
 refine hx.on ⟨_,ti cs,?_,?_⟩
 ·refine rW (show (Str.ofString "").length=0 by decide+kernel) (rW (vS ..) ?_);exact lA hl
 ·refine rW (zD ..) ?_;exact q
noncomputable def nJ (row:List Int)(big:Bool)(k:Nat):Int:=Builtin.bitAnd ((row.getD (k/8) 0).fdiv (2^(if big then 7-k%8 else k%8))) 1
noncomputable def iG (row:List Int)(count:Nat)(big:Bool):List Nat:=(List.range count).map λk=>48+(nJ row big k).toNat
theorem B9 {b:Int}(h:0<=b/\b<=1):jo (Str.ofString "01").cps.toList b=some (48+b.toNat):=by
 have:b=0\/b=1:=by lia
 clear h;rcases this with rfl|rfl<;>decide+kernel
section
variable {G:Gc}(X:GX G){n:Nat}{η:Hm}{Q:V->Hm->Prop}{E:Prop}
include X
theorem l9 {row:List Int}{count:Nat}{big:Bool}{x:V}(hx:IsL η x (row.map .int))(hr:(count+7)/8<=row.length)(hn:count<2^20)(q:Q (.str (ls (iG row count big))) η):ah G (n+1) (.ref dJ) [x, .int count, .bool big] η Q E:=by
 refine ah.drop (spec X 9 rfl rfl rfl ?_)
 intro a ha
 refine ⟨_,aO (by exact fb ‹_› (by rfl)),?_⟩
 have hxa:∀y,IsL (upd η a y) x (row.map .int):=λy=>hx.upd ha
 have loop:∀(k m:Nat) s4 s5,k+m=count->
   forL G n E (λX η'=>∃η'',Sub η'' η'/\Q X η'') (eS.sl.tl 1) [4] false
    (((List.range count).drop m).map λ(k:Nat)=> .int k) (upd η a (.list ((iG row m big).map λc=> .str (ls [c])))) [some x,some (.int count),some (.bool big),some (.ref a),s4,s5]:=by
  intro k
  induction k with
  | zero=>
   intro m s4 s5 hm
   clear hr;obtain rfl:m=count:=by exact qA hm
   refine rW (List.drop_eq_nil_of_le (by simp)) ?_
   exact lI (G:=G) (.inr ⟨_,rfl,ag⟩) (by simpa [iG] using hn) ⟨η,i5 ha,q⟩
  | succ k ih=>
   intro m s4 s5 hm
   have hlt:m<count:=by exact lA (eL hm)
   refine rW (List.drop_eq_getElem_cons (by simpa using hlt)) (rW (List.getElem_range ..) ?_)
   have hr8:m/8<row.length:=Nat.lt_of_lt_of_le (Bo (lC (Nat.div_mul_le_self m 8) (eL hm) (D6 (count+7)))) hr
   have hm8:(m:Int).fmod 8=((m%8:Nat):Int):=mJ m 8
   have nb:0<=nJ row big m/\nJ row big m<=1:=dS (m:=1)
   have fin':∀B,B=nJ row big m->aQ G n ((S.body (eS.sl.tl 1).hd).tl 1) E (upd η a (.list ((iG row m big).map λc=> .str (ls [c])))) [some x,some (.int count),some (.bool big),some (.ref a),some (.int m),some (.int B)]
     ⟨λη ρ=>forL G n E (λX η'=>∃η'',Sub η'' η'/\Q X η'') (eS.sl.tl 1) [4] false (((List.range count).drop (m+1)).map λ(k:Nat)=> .int k) η ρ,λξ ξ=>False,λξ ξ=>False,λξ ξ=>False⟩:=by
    rintro B rfl
    refine ⟨_,ag,_,B9 nb,_,ag,sz (by simp [iG];exact ka ‹_› (by exact lA hn)),?_⟩
    refine rW ak ?_
    have:=ih (m+1) (some (.int m)) (some (.int (nJ row big m))) (by exact qA hm)
    rw [show (iG row (m+1) big).map (λc=>V.str (ls [c]))=(iG row m big).map (λc=>V.str (ls [c]))++ [V.str (ls [48+(nJ row big m).toNat])] by simp [iG,List.range_succ]] at this
    exact this
   refine ⟨⟨by decide,cM (by decide)⟩,?_⟩
   refine (hxa _).sub (k:=(m:Int).fdiv 8) (by rw [show (m:Int).fdiv 8=((m/8:Nat):Int) from gZ m 8];exact bX (gz hr8) (by exact x9 (by exact lB hn (eL hm)))) ⟨λhb=>?_,λhb=>?_⟩
   ·clear nb ih q;subst hb
    refine ⟨by decide,by refine rW hm8 ?_;grind,fin' _ ?_⟩
    refine rW hm8 ?_;unfold nJ;exact rW (if_pos rfl) (rW (Int.toNat_sub 7 (m%8)) (by with_reducible rfl))
   ·clear nb ih q;subst hb
    refine ⟨by decide,by refine rW hm8 ?_;exact Int.natCast_nonneg _,fin' _ ?_⟩
    refine rW hm8 ?_;unfold nJ;exact rW (if_neg (by decide)) (rW (Int.toNat_natCast ..) rfl)
 exact loop count 0 none none (by simp+arith)
end
noncomputable def lu (d:Nat):Nat:=if d<10 then 48+d else 87+d
noncomputable def nH (row:List Int)(big:Bool)(k:Nat):Int:=Builtin.bitAnd ((row.getD (k/2) 0).fdiv (2^(if (decide ((k:Int).fmod 2=0)==big)=true then 4 else 0))) 15
noncomputable def iz (row:List Int)(count:Nat)(big:Bool):List Nat:=(List.range count).map λk=>lu (nH row big k).toNat
theorem zI:∀d∈List.range 16,[48,49,50,51,52,53,54,55,56,57,97,98,99,100,101,102][d]?=some (lu d):=by decide+kernel
theorem pA {b:Int}(h:0<=b/\b<=15):jo (Str.ofString "0123456789abcdef").cps.toList b=some (lu b.toNat):=by
 obtain ⟨d,rfl⟩:=Int.eq_ofNat_of_zero_le h.1
 have hd:d<16:=by omega
 refine rW (Int.toNat_natCast ..) (rW (show (Str.ofString "0123456789abcdef").cps.toList= [48,49,50,51,52,53,54,55,56,57,97,98,99,100,101,102] by decide+kernel) ?_)
 exact bX (zI _ (List.mem_range.mpr hd)) (Nat.lt_trans hd (by decide))
section
variable {G:Gc}(X:GX G){n:Nat}{η:Hm}{Q:V->Hm->Prop}{E:Prop}
include X
theorem jN {row:List Int}{count:Nat}{big:Bool}{x:V}(hx:IsL η x (row.map .int))(hr:(count+1)/2<=row.length)(hn:count<2^20)(q:Q (.str (ls (iz row count big))) η):ah G (n+1) (.ref cb) [x, .int count, .bool big] η Q E:=by
 refine ah.drop (spec X 12 rfl rfl rfl ?_)
 intro a ha
 refine ⟨_,aO (by exact fb ‹_› (by rfl)),?_⟩
 have hxa:∀y,IsL (upd η a y) x (row.map .int):=λy=>hx.upd ha
 have loop:∀(k m:Nat) s4 s5,k+m=count->
   forL G n E (λX η'=>∃η'',Sub η'' η'/\Q X η'') (gS.sl.tl 1) [4] false
    (((List.range count).drop m).map λ(k:Nat)=> .int k) (upd η a (.list ((iz row m big).map λc=> .str (ls [c])))) [some x,some (.int count),some (.bool big),some (.ref a),s4,s5]:=by
  intro k
  induction k with
  | zero=>
   intro m s4 s5 hm
   clear hr;obtain rfl:m=count:=by exact qA hm
   refine rW (List.drop_eq_nil_of_le (by simp)) ?_
   exact lI (G:=G) (.inr ⟨_,rfl,ag⟩) (by simpa [iz] using hn) ⟨η,i5 ha,q⟩
  | succ k ih=>
   intro m s4 s5 hm
   have hlt:m<count:=by exact lA (eL hm)
   refine rW (List.drop_eq_getElem_cons (by simpa using hlt)) (rW (List.getElem_range ..) ?_)
   have hr8:m/2<row.length:=Nat.lt_of_lt_of_le (D5 (lC (Nat.div_mul_le_self m 2) (eL hm) (D7 (count+1)))) hr
   have nb:0<=nH row big m/\nH row big m<=15:=dS (m:=15)
   have nx:=ih (m+1) (some (.int m)) (some (.bool (decide ((m:Int).fmod 2=0)==big))) (by exact qA hm)
   rw [show (iz row (m+1) big).map (λc=>V.str (ls [c]))=(iz row m big).map (λc=>V.str (ls [c]))++ [V.str (ls [lu (nH row big m).toNat])] by simp [iz,List.range_succ]] at nx
   refine ⟨by decide,_,ag,⟨by decide,cM (by decide)⟩,?_⟩
   refine (hxa _).sub (k:=(m:Int).fdiv 2) (by rw [show (m:Int).fdiv 2=((m/2:Nat):Int) from gZ m 2];exact bX (gz hr8) (by exact x9 (by exact lB hn (eL hm)))) ⟨λhb=>?_,λhb=>?_⟩
   ·have hk:nH row big m=Builtin.bitAnd ((row.getD (m/2) 0).fdiv (2^(4:Int).toNat)) 15:=by unfold nH;refine rW (if_pos hb) ?_;rfl
    refine ⟨by decide,_,(by rw [<-hk];exact pA nb),_,ag,sz (by simp [iz];exact ka ‹_› (by exact lA hn)),?_⟩
    refine rW ak ?_;exact nx
   ·have hk:nH row big m=Builtin.bitAnd ((row.getD (m/2) 0).fdiv (2^(0:Int).toNat)) 15:=by unfold nH;refine rW (show (decide ((m:Int).fmod 2=0)==big)=false from hb) ?_;rfl
    refine ⟨by decide,_,(by rw [<-hk];exact pA nb),_,ag,sz (by simp [iz];exact lB hn (eL hm)),?_⟩
    refine rW ak ?_;exact nx
 exact loop count 0 none none (by simp+arith)
end
noncomputable def rX:Option Int->V
 | none=> .none
 | some i=> .int i
structure PA where
 p:Addr
 dx:Addr
 o:Addr
 st:Addr
 vs:List SV
structure PS where
 out:List Int
 at':Nat
 starts:List Int
 steps:Nat
 len:Option Int
noncomputable def Ct:List Str:= ["out","values","at","starts","limits","steps","length"]
noncomputable def Cs (A:PA)(s:PS):List V:= [.ref A.o, .lst (A.vs.map SV.v), .int s.at', .ref A.st,gI, .int s.steps,rX s.len]
structure Pk (A:PA)(s:PS)(η:Hm):Prop where
 p:η A.p=some (.inst a9 A.dx)
 d:η A.dx=some (.aZ Ct (Cs A s))
 o:η A.o=some (.list (s.out.map .int))
 st:η A.st=some (.list (s.starts.map .int))
 os:A.o≠A.st
 lv:A.vs.length<2^20
 ok:∀v∈A.vs,v.ok
theorem cn {G:Gc}{η:Hm}{x:V}{nm:Str}{C:Addr}{ks:List Str}{vs:List V}{Y:V}(hf:eI η x=some (C,ks,vs))(hm:(C,nm)∈G.dP)(hl:BC ks vs nm=some Y)(hh:hand Y=true):eu G.dP x nm η=some Y:=by
 unfold eu
 refine rW hf ?_
 simp [hm,hl,hh]
theorem fU {η:Hm}{a b:Addr}{x y:AO}(ha:η a=some x)(hb:η b=some y)(h:x≠y):a≠b:=by
 rintro rfl;rw [ha] at hb;exact h (Option.some.inj hb)
section
variable {G:Gc}(X:GX G){n:Nat}{η:Hm}{E:Prop}{A:PA}{s:PS}
theorem Pk.aZ (h:Pk A s η):eI η (.ref A.p)=some (a9,Ct,Cs A s):=pD h.p h.d
theorem Pk.EE (h:Pk A s η){s':PS}(ho:s'.out=s.out)(hs:s'.starts=s.starts):Pk A s' (upd η A.dx (.aZ Ct (Cs A s'))):=
 ⟨by refine rW (af (fU h.p h.d (by simp))) ?_;exact h.p,ag,by refine rW (af (fU h.o h.d (by simp))) (rW ho ?_);exact h.o,by refine rW (af (fU h.st h.d (by simp))) (rW hs ?_);exact h.st,h.os,h.lv,h.ok⟩
theorem Pk.ED (h:Pk A s η)(l:List Int):Pk A {s with out:=l} (upd η A.o (.list (l.map .int))):=
 ⟨by refine rW (af (fU h.p h.o (by simp))) ?_;exact h.p,by refine rW (af (fU h.d h.o (by simp))) ?_;exact h.d,ag,by refine rW (af (Ne.symm h.os)) ?_;exact h.st,h.os,h.lv,h.ok⟩
theorem Pk.EC (h:Pk A s η)(l:List Int):Pk A {s with starts:=l} (upd η A.st (.list (l.map .int))):=
 ⟨by refine rW (af (fU h.p h.st (by simp))) ?_;exact h.p,by refine rW (af (fU h.d h.st (by simp))) ?_;exact h.d,by refine rW (af h.os) ?_;exact h.o,ag,h.os,h.lv,h.ok⟩
include X
theorem bl {C:Addr}{nm:Str}(h:kY.contains (C,nm)=true):(C,nm)∈G.dP:=X.dP _ (List.contains_iff_mem.mp h)
theorem i6 (h:Pk A s η):eu G.dP (.ref A.p) "values" η=some (.lst (A.vs.map SV.v)):=cn h.aZ (bl X (by decide+kernel)) (by kernel_rfl) rfl
theorem qH (h:Pk A s η):eu G.dP (.ref A.p) "at" η=some (.int s.at'):=cn h.aZ (bl X (by decide+kernel)) (by kernel_rfl) rfl
theorem jx (h:Pk A s η):eu G.dP (.ref A.p) "out" η=some (.ref A.o):=cn h.aZ (bl X (by decide+kernel)) (by kernel_rfl) rfl
theorem nY (h:Pk A s η):eu G.dP (.ref A.p) "starts" η=some (.ref A.st):=cn h.aZ (bl X (by decide+kernel)) (by kernel_rfl) rfl
theorem ft (h:Pk A s η):eu G.dP (.ref A.p) "limits" η=some gI:=cn h.aZ (bl X (by decide+kernel)) (by kernel_rfl) rfl
theorem qG (h:Pk A s η):eu G.dP (.ref A.p) "steps" η=some (.int s.steps):=cn h.aZ (bl X (by decide+kernel)) (by kernel_rfl) rfl
theorem uJ (h:Pk A s η):eu G.dP (.ref A.p) "length" η=some (rX s.len):=cn h.aZ (bl X (by decide+kernel)) (by kernel_rfl) (by cases s.len<;>rfl)
theorem j0:eu G.dP gI "text" η=some (.int 100000):=cn rfl (bl X (by decide+kernel)) (by kernel_rfl) rfl
theorem n7:eu G.dP gI "steps" η=some (.int 1000000):=cn rfl (bl X (by decide+kernel)) (by kernel_rfl) rfl
theorem kx:eu G.dP gI "width" η=some (.int 64):=cn rfl (bl X (by decide+kernel)) (by kernel_rfl) rfl
theorem o8 {nm:Str}{Y:V}(h:Pk A s η){s':PS}(ho:s'.out=s.out)(hs:s'.starts=s.starts)(hm:kY.contains (a9,nm)=true)(e:gQ Ct (Cs A s) nm Y=(Ct,Cs A s')){Q:Hm->Prop}(q:∀η',Pk A s' η'->Q η'):jq G.dP (.ref A.p) nm Y η Q:=by
 unfold jq
 refine ⟨A.p,a9,A.dx,Ct,Cs A s,rfl,h.p,h.d,bl X hm,by decide,?_⟩
 refine rW e ?_
 exact q _ (h.EE ho hs)
variable {Q:V->Hm->Prop}{o:List Int}{i:Nat}{st:List Int}{k:Nat}{tl:Option Int}
omit X in
theorem Pk.lo (h:Pk A ⟨o,i,st,k,tl⟩ η):η A.o=some (.list (o.map .int)):=h.o
omit X in
theorem Pk.ls (h:Pk A ⟨o,i,st,k,tl⟩ η):η A.st=some (.list (st.map .int)):=h.st
omit X in
theorem Pk.sS (h:Pk A ⟨o,i,st,k,tl⟩ η)(l:List Int):Pk A ⟨o,i,l,k,tl⟩ (upd η A.st (.list (l.map .int))):=h.EC l
theorem bH (h:Pk A ⟨o,i,st,k,tl⟩ η)(q:Q (.int (A.vs.length-i:Int)) η):ah G (n+1) (.ref bc) [.ref A.p] η Q E:=by
 refine spec X 31 rfl rfl rfl ?_
 have hl:=h.lv
 refine ⟨_,i6 X h,by refine rW (List.length_map ..) ?_;exact fb ‹_› (by rfl),_,qH X h,?_⟩
 refine rW (List.length_map ..) ?_;exact q
theorem bD (h:Pk A ⟨o,i,st,k,tl⟩ η)(hs:k<1000000)(q:∀η',Pk A ⟨o,i,st,k+1,tl⟩ η'->Q .none η'):ah G (n+1) (.ref cq) [.ref A.p] η Q E:=by
 refine spec X 46 rfl rfl rfl ?_
 refine ⟨_,qG X h,?_⟩
 refine o8 X h (nm:="steps") (s':=⟨o,i,st,k+1,tl⟩) rfl rfl (by decide+kernel) (by kernel_rfl) λη' h'=>?_
 exact ⟨_,qG X h',_,ft X h',_,n7 X,tF (Int.not_lt.mpr (Int.ofNat_le.mpr hs)) (q η' h')⟩
theorem dy {row:List Int}(h:Pk A ⟨o,i,st,k,tl⟩ η)(hl:o.length+row.length<=100000)
  (q:∀η',Pk A ⟨o++row,i,st,k,tl⟩ η'->Q .none η'):ah G (n+1) (.ref bu) [.ref A.p, .lst (row.map .int)] η Q E:=by
 refine spec X 35 rfl rfl rfl ?_
 refine ⟨_,jx X h,_,h.lo,by refine rW (List.length_map ..) ?_;exact lA hl,by refine rW (List.length_map ..) ?_;exact lA hl,_,ft X h,_,j0 X,λz=>?_,λξ=>?_⟩
 ·rw [List.length_map,List.length_map] at z;lia
 ·refine ⟨_,jx X h,_,h.lo,_,h.lo,sz (by refine rW (List.length_map ..) (rW (List.length_map ..) ?_);exact bt ‹_› (by rfl)),?_⟩
  refine rV List.map_append ?_
  exact q _ (h.ED _)
noncomputable def dw (tl:Option Int)(vs:List SV)(at':Nat):SV×Nat:=
 match tl with
 | some i=>(.num i,at')
 | none=>match vs[at']? with
  | some v=>(v,at'+1)
  | none=>(.txt [],at')
theorem jf (h:Pk A ⟨o,i,st,k,tl⟩ η)(q:∀η',Pk A ⟨o,(dw tl A.vs i).2,st,k,tl⟩ η'->Q (dw tl A.vs i).1.v η'):ah G (n+1) (.ref dh) [.ref A.p] η Q E:=by
 refine spec X 32 rfl rfl rfl ?_
 have hlv:=h.lv
 have hL:=uJ X h
 cases tl with
 | some j=>exact ⟨_,hL,_,hL,q η h⟩
 | none=>
  refine ⟨_,hL,_,qH X h,_,i6 X h,by refine rW (List.length_map ..) ?_;exact lA hlv,λz=>?_,λz=>?_⟩
  ·rw [List.length_map] at z
   unfold dw at q
   dsimp only at q
   rw [List.getElem?_eq_none (Int.ofNat_le.mp z)] at q
   exact q η h
  ·rw [List.length_map] at z
   have hlt:i<A.vs.length:=Nat.lt_of_not_le λy=>z (Int.ofNat_le.mpr y)
   unfold dw at q
   dsimp only at q
   rw [List.getElem?_eq_getElem hlt] at q
   refine ⟨_,qH X h,?_⟩
   refine o8 X h (nm:="at") (s':=⟨o,i+1,st,k,none⟩) rfl rfl (by decide+kernel) (by kernel_rfl) λη' h'=>?_
   refine ⟨_,i6 X h',_,qH X h',_,(by rw [show ((i+1:Nat):Int)-1=(i:Int) by simp+arith];exact bX (by rw [List.getElem?_map,List.getElem?_eq_getElem hlt];rfl) (by exact ka ‹_› (by exact lA hlv))),?_⟩
   exact q η' h'
set_option tactic.hygienic true in
omit X in
theorem tX {s:PS}(h:Pk A s η)(hl:∀i,tl=some i->i.natAbs<10^30):(dw tl A.vs i).1.ok:=by
 unfold dw
 split
 ·rename_i i;exact hl i rfl
 ·split
  ·rename_i v e;exact h.ok v (List.mem_of_getElem? e)
  ·exact List.mem_cons_self
theorem l4 (h:Pk A ⟨o,i,st,k,tl⟩ η)(hn:∀i,tl=some i->i.natAbs<10^30)
  (q:∀η',Pk A ⟨o,(dw tl A.vs i).2,st,k,tl⟩ η'->Q (.int (dw tl A.vs i).1.nat) η'):ah G (n+4) (.ref dI) [.ref A.p] η Q E:=by
 refine spec X 33 rfl rfl rfl ?_
 refine jf X h λη' h'=>?_
 exact ⟨_,ft X h',jK X (tX h hn) (kx X) (q η' h')⟩
noncomputable def aD (t:List Nat):List Int:=t.map λ(c:Nat)=>Builtin.bitAnd (c:Int) 255
theorem jg (h:Pk A ⟨o,i,st,k,none⟩ η)(ht:(dw none A.vs i).1.text.length<1000000)
  (q:∀η',Pk A ⟨o,(dw none A.vs i).2,st,k,none⟩ η'->Q (.lst ((aD (dw none A.vs i).1.text).map .int)) η'):ah G (n+4) (.ref di) [.ref A.p] η Q E:=by
 refine spec X 34 rfl rfl rfl ?_
 refine jf X h λη' h'=>?_
 refine jt X (n:=n) (tX h λi e=>nomatch e) ?_
 generalize (dw none A.vs i).1.text=tx at q ht
 have loop:∀(cs:List Nat) (acc:List V),acc.length+cs.length<1000000->acc++(aD cs).map V.int=(aD tx).map V.int->
   cX (λY η Q=>(wp G (n+3) (.bin false .BitAnd (.bi .ord false (.c (.l 1) .n)) (.int 255))).1 False η ((yn [.ref A.p] 2).set 1 (some Y)) Q) (cs.map λc=> .str ⟨#[c]⟩) acc η' λl η2=>eA false l η2 Q:=by
  intro cs
  induction cs with
  | nil=>
   intro acc _ e
   obtain rfl:acc=(aD tx).map V.int:=by simpa [aD] using e
   exact q η' h'
  | cons c cs ih=>
   intro acc hl e
   rw [List.length_cons] at hl
   refine ⟨by exact lA hl,c,rfl,?_⟩
   refine ih _ (by refine rW List.length_append (rW List.length_singleton ?_);exact lA hl) ?_
   refine rV e ?_;simp [aD]
 exact loop tx [] (by simpa using ht) rfl
end
set_option genCtorIdx false in
inductive bB where
 | au
 | num (k:Nat)
 | star
noncomputable def bB.i:bB->Int
 | .au=> -2
 | .num k=>k
 | .star=> -1
noncomputable def tm (c:bB)(star:Nat):Nat:=match c with
 | .au=>1
 | .num k=>k
 | .star=>star
theorem vP (c:bB){s:Int}{m:Nat}(h:s=m):times c.i s=tm c m:=by
 subst h
 cases c with
 | au=>rfl
 | star=>rfl
 | num k=>
  refine (?_:(if (k:Int)= -1 then (m:Int) else if (k:Int)= -2 then 1 else (k:Int))=_)
  refine rW (if_neg (by simp+arith)) (rW (if_neg (by simp+arith)) ?_);rfl
noncomputable abbrev cS (t o:Str)(b:Bool)(c:Int)(inner:V):V:= .tup [.str t, .str o, .bool b, .int c,inner]
noncomputable def TL.row (t:TL)(c:bB)(tx:List Nat):List Int:=
 let codes:=aD tx
 let size:=tm c (codes.length+if t.str="Z" then 1 else 0)
 let kept:=if t.str="Z" then codes.take (size-1) else codes.take size
 kept++List.replicate (size-kept.length) (if t.str="A" then 32 else 0)
noncomputable def DL.row (t:DL)(c:bB)(tx:List Nat):List Int:=
 let codes:=aD tx
 if Txt.contains "bB" t.str=true then gM codes (tm c codes.length) (decide (t.str="B")) else gG codes (tm c codes.length) (decide (t.str="H"))
section
variable {G:Gc}(X:GX G){n:Nat}{η:Hm}{E:Prop}{A:PA}{Q:V->Hm->Prop}{o:List Int}{i:Nat}{st:List Int}{k:Nat}{tl:Option Int}
include X
theorem l8 {t o:Str}{b:Bool}{c:bB}{inner:V}{m:Nat}{i:Int}(hi:i=m)(q:Q (.int (tm c m)) η):ah G (n+1) (.ref aL) [cS t o b c.i inner, .int i] η Q E:=
 kf X rfl (by refine rW (vP c hi) ?_;exact q)
theorem l5 {m:Nat}(h:Pk A ⟨o,i,st,k,tl⟩ η)(hl:o.length+m<=100000)
  (q:∀η',Pk A ⟨o++List.replicate m 0,i,st,k,tl⟩ η'->Q .none η'):ah G (n+2) (.ref cI) [.ref A.p, .int m] η Q E:=by
 refine spec X 36 rfl rfl rfl ?_
 refine ⟨_,ft X h,_,j0 X,tF (by lia) ⟨⟨nP,iL (2^63) (lA hl),by refine (?_:1*m<=_);exact lA hl⟩,?_⟩⟩
 refine rW (Int.toNat_natCast ..) (rW (gm ..) ?_)
 exact dy X h (by simpa using hl) q
theorem l7 {m:Nat}{c:Str}{p:Int}(hp:p=(o.length+m:Nat))(h:Pk A ⟨o,i,st,k,tl⟩ η)(hl:o.length+m<=100000)
  (q:∀η',Pk A ⟨o++List.replicate m 0,i,st,k,tl⟩ η'->Q .none η'):ah G (n+3) (.ref cJ) [.ref A.p, .int p, .str c] η Q E:=by
 subst hp
 refine spec X 37 rfl rfl rfl ?_
 refine tF (by exact Int.not_lt.mpr (iA (Int.natCast_nonneg (o.length+m)))) ⟨_,jx X h,_,h.lo,by refine rW (List.length_map ..) ?_;exact lA hl,λz=>?_,λξ=>⟨_,jx X h,_,h.lo,by refine rW (List.length_map ..) ?_;exact lA hl,?_⟩⟩
 ·rw [List.length_map] at z;omega
 ·refine (?_:ah G (n+2) (.ref cI) [.ref A.p, .int (((o.length+m:Nat):Int)-(((o.map V.int).length:Nat):Int))] η _ E)
  rw [show ((o.length+m:Nat):Int)-(((o.map V.int).length:Nat):Int)=(m:Int) by refine rW (List.length_map ..) ?_;simp+arith]
  exact l5 X h hl q
theorem oH {c:bB}(h:Pk A ⟨o,i,st,k,tl⟩ η)(hl:o.length+tm c 0<=100000)
  (q:∀η',Pk A ⟨o++List.replicate (tm c 0) 0,i,st,k,tl⟩ η'->Q .none η'):ah G (n+4) (.ref eY) [.ref A.p,cS "x" "" false c.i .none] η Q E:=by
 refine spec X 43 rfl rfl rfl ?_
 refine l8 X (m:=0) rfl (tF (by decide+kernel) ⟨_,jx X h,_,h.lo,by refine rW (List.length_map ..) ?_;exact lA hl,?_⟩)
 refine qd X ?_
 refine l7 X (m:=tm c 0) ?_ h hl q
 refine rW (List.length_map ..) ?_;exact Int.natCast_add _ _
theorem k9 {t:NL}{od:Str}{b:Bool}{c:Int}(h:Pk A ⟨o,i,st,k,tl⟩ η)(hn:∀i,tl=some i->i.natAbs<10^30)
  (q:∀η',Pk A ⟨o,(dw tl A.vs i).2,st,k,tl⟩ η'->Q (.lst ((rowOf (dw tl A.vs i).1.nat (t.size b) (t.big od)).map .int)) η'):ah G (n+5) (.ref c0) [.ref A.p,cS t.str od b c .none] η Q E:=by
 refine spec X 41 rfl rfl rfl ?_
 refine l4 X h hn λη' h'=>?_
 have h8:t.size b<=8/\t.str≠"w"/\t.str≠"U":=by clear q;cases t<;>cases b<;>decide+kernel
 refine tF h8.2.1 (tF h8.2.2 ?_)
 refine jj X ?_
 refine ir X ?_
 exact kd X h8.1 (q η' h')
noncomputable def layNum (f:Int->List Int)(tl:Option Int)(vs:List SV):Nat->Nat->List Int×Nat
 | 0,at'=>([],at')
 | k+1,at'=>(f (dw tl vs at').1.nat++(layNum f tl vs k (dw tl vs at').2).1,(layNum f tl vs k (dw tl vs at').2).2)
omit X in
theorem cN (i:Int)(k:Nat)(b:Bool):(rowOf i k b).length=k:=by
 unfold rowOf jy;split<;>simp
omit X in
theorem size_le (t:NL)(b:Bool):t.size b<=8:=by cases t<;>cases b<;>decide+kernel
theorem lb {t:NL}{od:Str}{b:Bool}{c:bB}{m:Nat}(h:Pk A ⟨o,i,st,k,tl⟩ η)(hn:∀i,tl=some i->i.natAbs<10^30)(hi:i<=A.vs.length)(hm:tm c (A.vs.length-i)=m)(hm2:m<2^20)(hs:k+m<=1000000)(hl:o.length+8*m<=100000)
  (q:∀η',Pk A ⟨o++(layNum (λi=>rowOf i (t.size b) (t.big od)) tl A.vs m i).1,(layNum (λi=>rowOf i (t.size b) (t.big od)) tl A.vs m i).2,st,k+m,tl⟩ η'->Q .none η'):
  ah G (n+6) (.ref c6) [.ref A.p,cS t.str od b c.i .none] η Q E:=by
 refine spec X 42 rfl rfl rfl ?_
 refine bH X h ?_
 refine l8 X (m:=A.vs.length-i) (by exact (Int.natCast_sub (by assumption)).symm) ?_
 refine rW hm ?_
 refine ⟨_,aO (by exact fb ‹_› (by rfl)),?_⟩
 clear hm hi hm2
 have loop:∀(is:List V) (o:List Int) (i k:Nat) (η:Hm) s2,k+is.length<=1000000->o.length+8*is.length<=100000->Pk A ⟨o,i,st,k,tl⟩ η->
   (∀η',Pk A ⟨o++(layNum (λi=>rowOf i (t.size b) (t.big od)) tl A.vs is.length i).1,(layNum (λi=>rowOf i (t.size b) (t.big od)) tl A.vs is.length i).2,st,k+is.length,tl⟩ η'->Q .none η')->
   forL G (n+5) E Q iT.sl [2] false is η [some (.ref A.p),some (cS t.str od b c.i .none),s2]:=by
  intro is
  induction is with
  | nil=>
   intro o i k η s2 _ _ h q
   refine q η ?_
   simp only [layNum,List.append_nil,List.length_nil,Nat.add_zero]
   exact h
  | cons x is ih=>
   intro o i k η s2 hs hl h q
   rw [List.length_cons] at hs hl q
   have h8:=size_le t b
   refine bD X h (by exact sR ‹_›) λη1 h1=>?_
   refine k9 X h1 hn λη2 h2=>?_
   refine dy X h2 (by refine rW (cN ..) ?_;exact lB hl h8) λη3 h3=>?_
   refine ih _ _ _ η3 _ (by exact lA hs) (by refine rW List.length_append (rW (cN ..) ?_);exact lB hl h8) h3 λη' h'=>q η' ?_
   simp only [layNum]
   refine rW (show k+(is.length+1)=k+1+is.length by simp+arith) (rV (List.append_assoc ..) ?_)
   exact h'
 have hlen:((List.range m).map λ(k:Nat)=>V.int k).length=m:=by simp
 exact loop _ o i k η none (by refine rW hlen ?_;exact hs) (by refine rW hlen ?_;exact hl) h (by refine rW hlen ?_;exact q)
end
section
variable {G:Gc}(X:GX G){n:Nat}{η:Hm}{E:Prop}{A:PA}{Q:V->Hm->Prop}{o:List Int}{i:Nat}{st:List Int}{k:Nat}
include X
omit X in
theorem bk (t:List Nat):(aD t).length=t.length:=by simp [aD]
omit X in
theorem TL.cN (t:TL)(c:bB)(tx:List Nat):(t.row c tx).length=tm c (tx.length+if t.str="Z" then 1 else 0):=by
 unfold TL.row
 dsimp only
 refine rW (bk ..) ?_
 refine rW List.length_append (rW List.length_replicate ?_)
 have:∀(l:List Int) (s:Nat),l.length<=s->l.length+(s-l.length)=s:=λl s h=>by exact Nat.add_sub_cancel' (by assumption)
 refine this _ _ ?_
 split
 ·exact Nat.le_trans (List.length_take_le _ _) (Nat.sub_le _ _)
 ·exact List.length_take_le _ _
theorem oG {t:TL}{c:bB}{tx:List Nat}(h:Pk A ⟨o,i,st,k,none⟩ η)(e:(dw none A.vs i).1.text=tx)(ht:tx.length<1000)(hl:o.length+tm c (tx.length+if t.str="Z" then 1 else 0)<=100000)
  (q:∀η',Pk A ⟨o++t.row c tx,(dw none A.vs i).2,st,k,none⟩ η'->Q .none η'):ah G (n+5) (.ref eX) [.ref A.p,cS t.str "" false c.i .none] η Q E:=by
 refine spec X 39 rfl rfl rfl ?_
 refine jg X h (by refine rW e ?_;exact fb ‹_› (by rfl)) λη1 h1=>?_
 refine rW e ?_
 refine ⟨by refine rW (List.length_map ..) (rW (bk ..) ?_);exact fb ‹_› (by rfl),?_⟩
 refine l8 X (m:=tx.length+if t.str="Z" then 1 else 0) ?_ ?_
 ·refine rW (List.length_map ..) (rW (bk ..) (rW (Int.natCast_add ..) ?_))
  congr 1
  by_cases z:t.str="Z"
  ·refine rW (if_pos z) (rW (if_pos (decide_eq_true z)) ?_);rfl
  ·rw [if_neg z,if_neg (by refine rW (decide_eq_false z) ?_;exact Bool.false_ne_true)];rfl
 have hrow:=t.cN c tx
 unfold TL.row at q hrow
 dsimp only at q hrow
 rw [bk] at q hrow
 generalize tm c (tx.length+if t.str="Z" then 1 else 0)=size at q hl hrow ⊢
 refine ⟨_,ft X h1,_,j0 X,tF (by lia) ?_⟩
 refine ⟨sz (by refine rW (List.length_map ..) (rW (bk ..) ?_);exact fb ‹_› (by rfl)),?_⟩
 refine rW (iu ..) (rV List.map_take ?_)
 have fin:∀kept:List Int,kept.length<=size->kept=(if t.str="Z" then (aD tx).take (size-1) else (aD tx).take size)->
   aQ G (n+4) (kM.sl.tl 5) E η1 [some (.ref A.p),some (cS t.str "" false c.i .none),some (.lst ((aD tx).map .int)),some (.int size),some (.lst (kept.map .int))] (fin Q):=by
  intro kept hk e
  rw [<-e] at q hrow
  have last:∀w:Int,w=(if t.str="A" then 32 else 0)->((kept.map V.int).length<2^63/\(-(2^63:Int)<=(size:Int)-(kept.map V.int).length/\(size:Int)-(kept.map V.int).length<2^63/\1*((size:Int)-(kept.map V.int).length).toNat<=2^24)/\
    (kept.map V.int).length+(List.replicate ((size:Int)-(kept.map V.int).length).toNat [V.int w]).flatten.length<=sizeLine/\ah G (n+4) (.ref bu) [.ref A.p, .lst (kept.map V.int++(List.replicate ((size:Int)-(kept.map V.int).length).toNat [V.int w]).flatten)] η1 (λξ=>Q .none) E):=by
   intro w hw
   rw [List.length_map,show ((size:Int)-kept.length).toNat=size-kept.length by simp,gm, <-List.map_append,List.length_map,List.length_replicate,hw]
   refine ⟨by exact DX ‹_› (by exact lA hl),⟨by lia,by lia,by exact lB hl (Nat.sub_le size kept.length)⟩,sz (by exact lB hl (sC hk)),dy X h1 ?_ q⟩
   refine rW hrow ?_;exact hl
  refine ⟨λz=>?_,λz=>?_⟩
  ·obtain ⟨a1,a2,a3,a4⟩:=last 32 (by exact rW (if_pos z) rfl)
   exact ⟨a1,a2,a3,a4⟩
  ·obtain ⟨a1,a2,a3,a4⟩:=last 0 (by exact rW (if_neg z) rfl)
   exact ⟨a1,a2,a3,a4⟩
 refine ⟨λz=>?_,λz=>?_⟩
 ·refine ⟨sz (by refine rW (List.length_map ..) (rW (bk ..) ?_);exact lA ht),?_⟩
  refine rW (show max ((size:Int)-1) 0=((size-1:Nat):Int) from (Int.max_comm ..).trans Cw) (rW (iu ..) (rV List.map_take ?_))
  exact fin _ (Nat.le_trans (List.length_take_le _ _) (Nat.sub_le _ _)) (by exact rW (if_pos z) rfl)
 ·exact fin _ (List.length_take_le _ _) (by exact rW (if_neg z) rfl)
omit X in
theorem xY (codes:List Int)(count:Nat)(big:Bool):(gM codes count big).length=(count+7)/8:=by
 unfold gM
 have:∀(ks:List Nat) (r:List Int),(ks.foldl (fq codes big) r).length=r.length:=by
  intro ks
  induction ks with
  | nil=>intro r;rfl
  | cons k ks ih=>intro r;exact rW List.foldl_cons (rW (ih ..) (rW (kX ..) rfl))
 exact rW (this ..) (rW List.length_replicate rfl)
omit X in
theorem w4 (codes:List Int)(count:Nat)(big:Bool):(gG codes count big).length=(count+1)/2:=by
 unfold gG
 have:∀(ks:List Nat) (r:List Int),(ks.foldl (gn codes big) r).length=r.length:=by
  intro ks
  induction ks with
  | nil=>intro r;rfl
  | cons k ks ih=>intro r;exact rW List.foldl_cons (rW (ih ..) (rW (qI ..) rfl))
 exact rW (this ..) (rW List.length_replicate rfl)
omit X in
theorem DL.Bk (t:DL)(c:bB)(tx:List Nat):(t.row c tx).length<=(tm c tx.length+1)/2+1:=by
 unfold DL.row
 dsimp only
 split
 ·refine rW (xY ..) (rW (bk ..) ?_);exact Bo (lB (Nat.div_mul_le_self (tm c tx.length+7) 8) (D7 (tm c tx.length+1)))
 ·refine rW (w4 ..) (rW (bk ..) ?_);exact Nat.le_succ _
theorem lY {t:DL}{c:bB}{tx:List Nat}(h:Pk A ⟨o,i,st,k,none⟩ η)(e:(dw none A.vs i).1.text=tx)(ht:tx.length<1000)(hc:tm c tx.length<1000)(hl:o.length+(t.row c tx).length<=100000)
  (q:∀η',Pk A ⟨o++t.row c tx,(dw none A.vs i).2,st,k,none⟩ η'->Q .none η'):ah G (n+5) (.ref dG) [.ref A.p,cS t.str "" false c.i .none] η Q E:=by
 refine spec X 40 rfl rfl rfl ?_
 refine jg X h (by refine rW e ?_;exact lA ht) λη1 h1=>?_
 refine rW e ?_
 refine ⟨by refine rW (List.length_map ..) (rW (bk ..) ?_);exact lA ht,?_⟩
 refine l8 X (m:=tx.length) (by exact rW (List.length_map ..) (rW (bk ..) rfl)) ?_
 unfold DL.row at q hl
 dsimp only at q hl
 rw [bk] at q hl
 generalize tm c tx.length=size at q hc hl ⊢
 refine ⟨_,ft X h1,_,j0 X,IntMulOk.of_left (by decide),tF (by lia) ⟨λz=>?_,λz=>?_⟩⟩
 ·rw [if_pos z] at q hl
  refine lV X (by refine rW (bk ..) ?_;exact lA ht) (by exact fb ‹_› (by rfl)) ?_
  exact dy X h1 hl q
 ·rw [if_neg (by refine rW (show Txt.contains (Str.ofString "bB") t.str=false from z) ?_;exact Bool.false_ne_true)] at q hl
  refine jL X (by refine rW (bk ..) ?_;exact lA ht) (by exact lA hc) ?_
  exact dy X h1 hl q
end
set_option genCtorIdx false in
inductive PI where
 | num (t:NL) (o:Str) (b:Bool) (c:bB)
 | text (t:TL) (c:bB)
 | dig (t:DL) (c:bB)
 | fS (c:bB)
set_option genCtorIdx false in
mutual
inductive LI where
 | pl (p:PI)
 | aI (o:Str) (c:bB) (l:LL)
 | cnt (t:NL) (i:LI)
inductive LL where
 | nil
 | cons (i:LI) (r:LL)
end
noncomputable def bB.ov (c:bB):Option Nat->bB
 | none=>c
 | some k=> .num k
noncomputable def PI.v (ov:Option Nat):PI->V
 | .num t o b c=>cS t.str o b (c.ov ov).i .none
 | .text t c=>cS t.str "" false (c.ov ov).i .none
 | .dig t c=>cS t.str "" false (c.ov ov).i .none
 | .fS c=>cS "x" "" false (c.ov ov).i .none
mutual
noncomputable def LI.v:LI->Option Nat->V
 | .pl p,ov=>p.v ov
 | .aI _ c l,ov=>cS "(" "" false (c.ov ov).i (.lst l.v)
 | .cnt t i,_=>cS "/" "" false (-2) (.lst [cS t.str "" false (-2) .none,i.v none])
noncomputable def LL.v:LL->List V
 | .nil=> []
 | .cons i r=>i.v none::r.v
end
noncomputable def PI.lay (tl:Option Int)(vs:List SV)(ov:Option Nat):PI->Nat->List Int×Nat
 | .num t o b c,i=>layNum (λx=>rowOf x (t.size b) (t.big o)) tl vs (tm (c.ov ov) (vs.length-i)) i
 | .text t c,i=>(t.row (c.ov ov) (dw none vs i).1.text,(dw none vs i).2)
 | .dig t c,i=>(t.row (c.ov ov) (dw none vs i).1.text,(dw none vs i).2)
 | .fS c,i=>(List.replicate (tm (c.ov ov) 0) 0,i)
noncomputable def rep (f:Nat->List Int×Nat)(star:Bool)(len:Nat):Nat->Nat->List Int×Nat
 | 0,i=>([],i)
 | k+1,i=>if star=true/\len-(f i).2=0 then f i else ((f i).1++(rep f star len k (f i).2).1,(rep f star len k (f i).2).2)
noncomputable def bB.isStar:bB->Bool
 | .star=>true
 | _=>false
noncomputable def bB.sel (c:bB)(f:Nat->Nat)(d:Nat):Nat:=match c with
 | .num k=>f k
 | _=>d
noncomputable def many (vs:List SV)(i:Nat):LI->Nat
 | .pl (.text t c)=>c.sel (λk=>k) ((dw none vs i).1.text.length+if t.str="Z" then 1 else 0)
 | .pl (.num _ _ _ c)=>c.sel (λk=>min k (vs.length-i)) (vs.length-i)
 | .pl (.dig _ c)=>c.sel (λk=>min k (vs.length-i)) (vs.length-i)
 | .aI _ c _=>c.sel (λk=>min k (vs.length-i)) (vs.length-i)
 | _=>0
mutual
noncomputable def LI.lay (vs:List SV):LI->Option Nat->Nat->List Int×Nat
 | .pl p,ov,i=>p.lay none vs ov i
 | .aI _ c l,ov,i=>rep (λi=>LL.lay vs l i) (c.ov ov).isStar vs.length (tm (c.ov ov) (vs.length-i)) i
 | .cnt t j,_,i=>(rowOf (many vs i j) (t.size false) (t.big "")++(LI.lay vs j (some (many vs i j)) i).1,(LI.lay vs j (some (many vs i j)) i).2)
noncomputable def LL.lay (vs:List SV):LL->Nat->List Int×Nat
 | .nil,i=>([],i)
 | .cons j r,i=>((LI.lay vs j none i).1++(LL.lay vs r (LI.lay vs j none i).2).1,(LL.lay vs r (LI.lay vs j none i).2).2)
end
noncomputable def bB.le (c:bB)(m:Nat):Prop:=match c with
 | .num k=>k<=m
 | _=>True
noncomputable def PI.ok (ov:Option Nat):PI->Prop
 | .num _ _ _ c=>(c.ov ov).le 7
 | .text _ c=>(c.ov ov).le 40
 | .dig _ c=>(c.ov ov).le 40
 | .fS c=>(c.ov ov).le 40
mutual
noncomputable def LI.ok:LI->Option Nat->Prop
 | .pl p,ov=>p.ok ov
 | .aI _ c l,ov=>(c.ov ov).le 7/\l.ok
 | .cnt _ i,_=>i.ok none/\(match i with
  | .pl (.fS _)=>False
  | .cnt _ _=>False
  | _=>True)
noncomputable def LL.ok:LL->Prop
 | .nil=>True
 | .cons i r=>i.ok none/\r.ok
end
mutual
noncomputable def LI.cst:LI->Nat
 | .pl _=>64
 | .aI _ _ l=>1+7*(1+l.cst)
 | .cnt _ i=>100+i.cst
noncomputable def LL.cst:LL->Nat
 | .nil=>0
 | .cons i r=>i.cst+r.cst
end
mutual
noncomputable def LI.ht:LI->Nat
 | .pl _=>0
 | .aI _ _ l=>1+l.ht
 | .cnt _ i=>1+i.ht
noncomputable def LL.ht:LL->Nat
 | .nil=>0
 | .cons i r=>max i.ht r.ht
end
structure Vals (vs:List SV):Prop where
 l:vs.length<=7
 ok:∀v∈vs,v.ok
theorem jr {v:SV}(h:v.ok):v.text.length<=31:=by
 cases v with
 | au=>exact Nat.zero_le _
 | txt l=>exact (show ∀l∈eN,l.length<=31 by decide+kernel) l h
 | num i=>
  have h:i.natAbs<10^30:=h
  refine (?_:(kn i).length<=31)
  unfold kn
  split
  ·refine rW List.length_cons ?_;exact Nat.succ_le_succ (pI (by decide) (by lia))
  ·exact Nat.le_succ_of_le (pI (by decide) (by lia))
theorem ib {vs:List SV}(h:Vals vs)(i:Nat):(dw none vs i).1.ok:=by
 refine (?_:(match vs[i]? with|some v=>(v,i+1)|none=>(SV.txt [],i)).1.ok)
 cases e:vs[i]? with
 | some v=>exact h.ok v (List.mem_of_getElem? e)
 | none=>exact List.mem_cons_self
theorem pa {vs:List SV}{tl:Option Int}{i:Nat}(h:i<=vs.length):(dw tl vs i).2<=vs.length:=by
 unfold dw
 cases tl with
 | some j=>exact h
 | none=>
  dsimp only
  cases e:vs[i]? with
  | some v=>exact (List.getElem?_eq_some_iff.mp e).1
  | none=>exact h
theorem qK {f:Int->List Int}{tl:Option Int}{vs:List SV}{w:Nat}(hf:∀x,(f x).length<=w):∀(k i:Nat),i<=vs.length->(layNum f tl vs k i).1.length<=w*k/\(layNum f tl vs k i).2<=vs.length
 | 0,i,h=>⟨by simp [layNum],h⟩
 | k+1,i,h=>by
  obtain ⟨a,b⟩:=qK (tl:=tl) hf k (dw tl vs i).2 (pa h)
  refine ⟨?_,b⟩
  simp only [layNum,List.length_append]
  have:=hf (dw tl vs i).1.nat
  refine rW (Nat.mul_succ ..) ?_;exact vD ‹_› ‹_› (by simp+arith only)
theorem gi {c:bB}{m s:Nat}(h:c.le m)(hm:1<=m)(hs:s<=m):tm c s<=m:=by
 cases c with
 | au=>exact hm
 | num k=>exact h
 | star=>exact hs
theorem PI.b {vs:List SV}(hv:Vals vs){tl:Option Int}{ov:Option Nat}{p:PI}(hp:p.ok ov){i:Nat}(hi:i<=vs.length):(p.lay tl vs ov i).1.length<=56/\(p.lay tl vs ov i).2<=vs.length:=by
 have hl:=hv.l
 have hx:=jr (ib hv i)
 cases p with
 | num t o b c=>
  have h7:tm (c.ov ov) (vs.length-i)<=7:=gi hp (by decide) (by exact jF ‹_›)
  obtain ⟨a,b⟩:=qK (tl:=tl) (f:=λx=>rowOf x (t.size b) (t.big o)) (w:=8) (λx=>by refine rW (cN ..) ?_;exact size_le t b) (tm (c.ov ov) (vs.length-i)) i hi
  exact ⟨Nat.le_trans a (by exact lA (Nat.mul_le_mul_left 8 h7)),b⟩
 | text t c=>
  refine ⟨?_,pa hi⟩
  refine (?_:(t.row _ _).length<=56)
  refine rW (TL.cN ..) ?_
  exact Nat.le_trans (gi hp (by decide) (by split<;>exact lA hx)) (by decide)
 | dig t c=>
  refine ⟨Nat.le_trans (t.Bk _ _) ?_,pa hi⟩
  have:=gi (s:=(dw none vs i).1.text.length) hp (by decide) (by exact j7 ‹_› (by rfl))
  exact x9 (by exact lA this)
 | fS c=>
  refine ⟨?_,hi⟩
  refine (?_:(List.replicate _ _).length<=56)
  refine rW List.length_replicate ?_
  exact Nat.le_trans (gi (s:=0) hp (by decide) (by exact Nat.zero_le _)) (by decide)
theorem An {f:Nat->List Int×Nat}{star:Bool}{len w:Nat}(hf:∀i,i<=len->(f i).1.length<=w/\(f i).2<=len):∀(k i:Nat),i<=len->(rep f star len k i).1.length<=w*k/\(rep f star len k i).2<=len
 | 0,i,h=>⟨by simp [rep],h⟩
 | k+1,i,h=>by
  obtain ⟨a,b⟩:=hf i h
  obtain ⟨c,d⟩:=An (star:=star) hf k _ b
  simp only [rep]
  split
  ·exact ⟨Nat.le_trans a (Nat.le_mul_of_pos_right _ (Nat.succ_pos _)),b⟩
  ·refine ⟨?_,d⟩
   simp only [List.length_append]
   refine rW (Nat.mul_succ ..) ?_;exact vD ‹_› ‹_› (by simp+arith only)
theorem pj {vs:List SV}(hv:Vals vs)(i:Nat){j:LI}(hj:(LI.cnt NL.c j).ok none):many vs i j<=40/\j.ok (some (many vs i j)):=by
 obtain ⟨h1,h2⟩:=hj
 have hl:=hv.l
 have hx:=jr (ib hv i)
 have h7:∀c:bB,c.sel (λk=>min k (vs.length-i)) (vs.length-i)<=7:=λc=>by cases c<;>first|exact Nat.le_trans (Nat.min_le_right _ _) (Nat.le_trans (Nat.sub_le _ _) hl)|exact Nat.le_trans (Nat.sub_le _ _) hl
 cases j with
 | cnt=>exact h2.elim
 | aI o c l=>exact ⟨Nat.le_trans (h7 c) (by decide),h7 c,h1.2⟩
 | pl p=>
  cases p with
  | fS=>exact h2.elim
  | num t o b c=>exact ⟨Nat.le_trans (h7 c) (by decide),h7 c⟩
  | dig t c=>exact ⟨Nat.le_trans (h7 c) (by decide),Nat.le_trans (h7 c) (by decide)⟩
  | text t c=>
   have:many vs i (.pl (.text t c))<=40:=by
    clear h2;cases c with
    | num k=>exact h1
    | au=>show _+(if t.str="Z" then 1 else 0)<=40;split<;>exact lA hx
    | star=>show _+(if t.str="Z" then 1 else 0)<=40;split<;>exact lA hx
   exact ⟨this,this⟩
mutual
theorem LI.b {vs:List SV}(hv:Vals vs):(j:LI)->∀{ov:Option Nat} {i:Nat},j.ok ov->i<=vs.length->(j.lay vs ov i).1.length<=j.cst/\(j.lay vs ov i).2<=vs.length
 | .pl p,ov,i,h,hi=>⟨Nat.le_trans (PI.b hv h hi).1 (by simp [LI.cst]),(PI.b hv h hi).2⟩
 | .aI o c l,ov,i,h,hi=>by
  have h7:tm (c.ov ov) (vs.length-i)<=7:=gi h.1 (by decide) (by have:=hv.l;exact jF ‹_›)
  obtain ⟨a,b⟩:=An (star:=(c.ov ov).isStar) (f:=λi=>LL.lay vs l i) (len:=vs.length) (w:=l.cst) (λi hi=>LL.b hv l h.2 hi) (tm (c.ov ov) (vs.length-i)) i hi
  refine ⟨Nat.le_trans a ?_,b⟩
  have:=Nat.mul_le_mul_left l.cst h7
  refine (?_:_<=1+7*(1+l.cst))
  exact jG ‹_› (by simp+arith only)
 | .cnt t j,ov,i,h,hi=>by
  obtain ⟨-,h2⟩:=pj hv i (j:=j) h
  obtain ⟨a,b⟩:=LI.b hv j h2 hi
  refine ⟨?_,b⟩
  refine (?_:(_++_:List Int).length<=100+j.cst)
  refine rW List.length_append (rW (cN ..) ?_)
  have:=size_le t false
  exact vD ‹_› ‹_› (by simp+arith only)
theorem LL.b {vs:List SV}(hv:Vals vs):(l:LL)->∀{i:Nat},l.ok->i<=vs.length->(l.lay vs i).1.length<=l.cst/\(l.lay vs i).2<=vs.length
 | .nil,i,_,hi=>⟨Nat.le_refl 0,hi⟩
 | .cons j r,i,h,hi=>by
  obtain ⟨a,b⟩:=LI.b hv j h.1 hi
  obtain ⟨c,d⟩:=LL.b hv r h.2 b
  refine ⟨?_,d⟩
  refine (?_:(_++_:List Int).length<=j.cst+r.cst)
  refine rW List.length_append ?_;exact Nat.add_le_add (by assumption) (by assumption)
end
section
variable {G:Gc}(X:GX G){n:Nat}{η:Hm}{E:Prop}{A:PA}{Q:V->Hm->Prop}{o:List Int}{i:Nat}{st:List Int}{k:Nat}{tl:Option Int}
include X
theorem nQ {t:NL}{od:Str}{b:Bool}{c:bB}(h:Pk A ⟨o,i,st,k,tl⟩ η)(hn:∀i,tl=some i->i.natAbs<10^30)(hi:i<=A.vs.length){m:Nat}(hm:tm c (A.vs.length-i)=m)(hm2:m<=7)(hs:k+64<=1000000)(hl:o.length+64<=100000)
  (q:∀η',Pk A ⟨o++(layNum (λx=>rowOf x (t.size b) (t.big od)) tl A.vs m i).1,(layNum (λx=>rowOf x (t.size b) (t.big od)) tl A.vs m i).2,st,k+1+m,tl⟩ η'->Q .none η'):
  ah G (n+7) (.ref bP) [.ref A.p,cS t.str od b c.i .none] η Q E:=by
 refine spec X 47 rfl rfl rfl ?_
 refine bD X h (by exact sR ‹_›) λη1 h1=>?_
 have ht:(t.str≠"("/\t.str≠"/")/\Txt.contains "aAZ" t.str≠true/\Txt.contains "bBhH" t.str≠true/\Txt.contains "xX@" t.str≠true/\t.str≠"."/\t.str≠"u":=by clear q;cases t<;>decide+kernel
 refine ⟨λz=>absurd z ht.1.1,λξ=>⟨λz=>absurd z ht.1.2,λξ=>⟨λz=>absurd z ht.2.1,λξ=>⟨λz=>absurd z ht.2.2.1,λξ=>⟨λz=>absurd z ht.2.2.2.1,λξ=>⟨λz=>absurd z ht.2.2.2.2.1,λξ=>⟨λz=>absurd z ht.2.2.2.2.2,λξ=>?_⟩⟩⟩⟩⟩⟩⟩
 exact lb X h1 hn hi hm (by exact bt ‹_› (by rfl)) (by exact ot ‹_› (by exact lA hs)) (by exact lB hl (Nat.mul_le_mul_left 8 hm2)) q
theorem CU {p:PI}{ov:Option Nat}(hv:Vals A.vs)(h:Pk A ⟨o,i,st,k,none⟩ η)(hp:p.ok ov)(hi:i<=A.vs.length)(hl:o.length+64<=100000)(hs:k+64<=1000000)
  (q:∀η' k',k'<=k+64->Pk A ⟨o++(p.lay none A.vs ov i).1,(p.lay none A.vs ov i).2,st,k',none⟩ η'->Q .none η'):ah G (n+7) (.ref bP) [.ref A.p,p.v ov] η Q E:=by
 have hb:=(PI.b hv (tl:=none) hp hi).1
 have hx:=jr (ib hv i)
 have hl7:=hv.l
 cases p with
 | num t od b c=>
  have h7:tm (c.ov ov) (A.vs.length-i)<=7:=gi hp (by decide) (by exact jF ‹_›)
  exact nQ X h (λi e=>nomatch e) hi rfl h7 hs hl λη' h'=>q η' _ (by exact ot ‹_› (by simp+arith only)) h'
 | text t c=>
  refine spec X 47 rfl rfl rfl ?_
  refine bD X h (by exact lA hs) λη1 h1=>?_
  have ht:t.str≠"("/\t.str≠"/"/\Txt.contains "aAZ" t.str≠false:=by clear hb q hp;cases t<;>decide+kernel
  refine tF ht.1 (tF ht.2.1 ⟨λξ=>?_,λz=>absurd z ht.2.2⟩)
  refine oG X (n:=n+1) h1 rfl (by exact bt ‹_› (by rfl)) ?_ λη' h'=>q η' _ (by simp+arith) h'
  refine rV (TL.cN ..) ?_
  have:(t.row (c.ov ov) (dw none A.vs i).1.text).length<=56:=hb
  exact ot ‹_› (by exact lA hl)
 | dig t c=>
  refine spec X 47 rfl rfl rfl ?_
  refine bD X h (by exact lA hs) λη1 h1=>?_
  have ht:t.str≠"("/\t.str≠"/"/\Txt.contains "aAZ" t.str≠true/\Txt.contains "bBhH" t.str≠false:=by clear hb q hp;cases t<;>decide+kernel
  refine tF ht.1 (tF ht.2.1 (bF ht.2.2.1 ⟨λξ=>?_,λz=>absurd z ht.2.2.2⟩))
  refine lY X (n:=n+1) h1 rfl (by exact lA hx) ?_ ?_ λη' h'=>q η' _ (by simp+arith only) h'
  ·have:=gi (s:=(dw none A.vs i).1.text.length) (c:=c.ov ov) hp (by decide) (by exact j7 ‹_› (by rfl))
   exact bt ‹_› (by rfl)
  ·have:(t.row (c.ov ov) (dw none A.vs i).1.text).length<=56:=hb
   exact ot ‹_› (by exact lA hl)
 | fS c=>
  refine spec X 47 rfl rfl rfl ?_
  refine bD X h (by exact lA hs) λη1 h1=>?_
  have ht:Str.ofString "x"≠"("/\Str.ofString "x"≠"/"/\Txt.contains "aAZ" (Str.ofString "x")≠true/\Txt.contains "bBhH" (Str.ofString "x")≠true/\Txt.contains "xX@" (Str.ofString "x")≠false:=by decide+kernel
  refine tF ht.1 (tF ht.2.1 (bF ht.2.2.1 (bF ht.2.2.2.1 ⟨λξ=>?_,λz=>absurd z ht.2.2.2.2⟩)))
  refine oH X (n:=n+2) h1 ?_ λη' h'=>q η' _ (by simp+arith only) h'
  have:tm (c.ov ov) 0<=40:=gi hp (by decide) (by exact Nat.zero_le _)
  exact ot ‹_› (by exact lA hl)
structure FG (G:Gc)(A:PA)(n:Nat)(l:LL):Prop where
 of:∀{m:Nat} {η:Hm} {E:Prop} {Q:V->Hm->Prop} {o:List Int} {i:Nat} {st:List Int} {k:Nat},l.ok->st.length+l.ht<=100->i<=A.vs.length->Pk A ⟨o,i,st,k,none⟩ η->o.length+l.cst<=100000->k+l.cst<=1000000->
 (∀η' k',k'<=k+l.cst->Pk A ⟨o++(l.lay A.vs i).1,(l.lay A.vs i).2,st,k',none⟩ η'->Q .none η')->ah G (m+n) (.ref dg) [.ref A.p, .lst l.v] η Q E
structure yu (G:Gc)(A:PA)(n:Nat)(j:LI):Prop where
 of:∀{m:Nat} {η:Hm} {E:Prop} {Q:V->Hm->Prop} {o:List Int} {i:Nat} {st:List Int} {k:Nat} {ov:Option Nat},j.ok ov->st.length+j.ht<=100->i<=A.vs.length->Pk A ⟨o,i,st,k,none⟩ η->o.length+j.cst<=100000->k+j.cst<=1000000->
 (∀η' k',k'<=k+j.cst->Pk A ⟨o++(j.lay A.vs ov i).1,(j.lay A.vs ov i).2,st,k',none⟩ η'->Q .none η')->ah G (m+n) (.ref bP) [.ref A.p,j.v ov] η Q E
theorem nf (hv:Vals A.vs){l:LL}{N:Nat}(IH:FG G A N l){c:bB}(hc:c.le 7)(hlo:l.ok)(ht:st.length+1+l.ht<=100)(hi:i<=A.vs.length)(h:Pk A ⟨o,i,st,k,none⟩ η)(hl:o.length+7*(1+l.cst)<=100000)(hs:k+7*(1+l.cst)<=1000000)(hN:1<=N)
  (q:∀η' k',k'<=k+7*(1+l.cst)->Pk A ⟨o++(rep (λi=>l.lay A.vs i) c.isStar A.vs.length (tm c (A.vs.length-i)) i).1,(rep (λi=>l.lay A.vs i) c.isStar A.vs.length (tm c (A.vs.length-i)) i).2,st,k',none⟩ η'->Q .none η'):
  ah G (n+N+1) (.ref eo) [.ref A.p,cS "(" "" false c.i (.lst l.v)] η Q E:=by
 obtain ⟨N,rfl⟩:∃N',N=N'+1:=⟨N-1,by exact qA ((Nat.sub_add_cancel hN).symm)⟩
 refine spec X 44 rfl rfl rfl ?_
 refine bH X h ?_
 refine l8 X (m:=A.vs.length-i) (by exact (Int.natCast_sub (by assumption)).symm) ?_
 have h7:tm c (A.vs.length-i)<=7:=gi hc (by decide) (by have:=hv.l;exact jF ‹_›)
 refine ⟨_,aO (by exact bt ‹_› (by rfl)),?_⟩
 generalize tm c (A.vs.length-i)=m at q h7 ⊢
 have loop:∀(is:List V) (o:List Int) (i k:Nat) (η:Hm) s2,i<=A.vs.length->o.length+is.length*(1+l.cst)<=100000->k+is.length*(1+l.cst)<=1000000->Pk A ⟨o,i,st,k,none⟩ η->
   (∀η' k',k'<=k+is.length*(1+l.cst)->Pk A ⟨o++(rep (λi=>l.lay A.vs i) c.isStar A.vs.length is.length i).1,(rep (λi=>l.lay A.vs i) c.isStar A.vs.length is.length i).2,st,k',none⟩ η'->Q .none η')->
   forL G (n+(N+1)) E Q dc.sl [2] false is η [some (.ref A.p),some (cS "(" "" false c.i (.lst l.v)),s2]:=by
  intro is
  induction is with
  | nil=>
   intro o i k η s2 _ _ _ h q
   refine q η k (Nat.le_add_right _ _) ?_
   simp only [rep,List.length_nil,List.append_nil]
   exact h
  | cons x is ih=>
   intro o i k η s2 hi hl hs h q
   rw [List.length_cons,Nat.succ_mul] at hl hs q
   have hlast:∀(η:Hm) (k':Nat),k'<=k+1+l.cst->Pk A ⟨o++(l.lay A.vs i).1,(l.lay A.vs i).2,st,k',none⟩ η->
     (wS G (n+(N+1)) ((dc.sl.hd.body.tl 4).hd)) E η [some (.ref A.p),some (cS "(" "" false c.i (.lst l.v)),some x] ⟨λη ρ=>forL G (n+(N+1)) E Q dc.sl [2] false is η ρ,λξ ξ=>False,λη ρ=>forL G (n+(N+1)) E Q dc.sl [2] false is η ρ,Q⟩:=by
    intro η k' hk' h
    obtain ⟨b1,b2⟩:=LL.b hv l hlo hi
    have go:(¬(c.isStar=true/\A.vs.length-(l.lay A.vs i).2=0))->forL G (n+(N+1)) E Q dc.sl [2] false is η [some (.ref A.p),some (cS "(" "" false c.i (.lst l.v)),some x]:=λz=>by
     refine ih _ _ k' η _ b2 (by refine rW List.length_append ?_;exact lB hl b1) (by exact vp ‹_› (by exact lA hs)) h λη' k2 hk2 h'=>q η' k2 (by exact jG ‹_› (by exact lA hk')) ?_
     simp only [rep]
     refine rW (if_neg z) (rV (List.append_assoc ..) ?_)
     exact h'
    have hst:c.i= -1 ↔ c.isStar=true:=by
     clear go q ih hc;cases c with
     | au=>decide
     | star=>decide
     | num m=>exact ⟨λz=>absurd (show (m:Int)= -1 from z) (by simp+arith),λz=>nomatch z⟩
    refine ⟨λz=>?_,λz=>go λy=>z (hst.mpr y.1)⟩
    refine bH X h ⟨λy=>q η k' (by exact jG ‹_› (by simp+arith only)) ?_,λy=>go λw=>y (cz b2 w.2)⟩
    simp only [rep]
    refine rW (if_pos ⟨hst.mp z,zc y⟩) ?_
    exact h
   refine bD X h (by exact lA hs) λη1 h1=>?_
   refine ⟨_,nY X h1,_,h1.ls,_,jx X h1,_,h1.lo,by refine rW (List.length_map ..) ?_;exact lA hl,_,h1.ls,sz (by refine rW (List.length_map ..) ?_;exact lA ht),?_⟩
   rw [show st.map V.int++ [V.int ((o.map V.int).length:Nat)]=(st++ [((o.length:Nat):Int)]).map V.int by refine rW List.map_append (rW (List.length_map ..) ?_);rfl]
   refine IH.of (m:=n) hlo (by refine rW List.length_append ?_;exact ht) hi (h1.sS (st++ [((o.length:Nat):Int)])) (by exact lA hl) (by exact lA hs) λη3 k3 hk3 h3=>?_
   refine ⟨_,nY X h3,_,h3.ls,st.map V.int,V.int o.length,by refine rW h3.ls (rW List.map_append ?_);rfl,Nat.lt_of_le_of_lt (show (st.map V.int).length<=100 by refine rW (List.length_map ..) ?_;exact lA ht) (by refine rW sizeLine_eq ?_;decide),?_⟩
   exact hlast _ k3 hk3 (h3.sS st)
 have hlen:((List.range m).map λ(k:Nat)=>V.int k).length=m:=by simp
 have hm:m*(1+l.cst)<=7*(1+l.cst):=Nat.mul_le_mul_right _ h7
 exact loop _ o i k η none hi (by refine rW hlen ?_;exact ot ‹_› ‹_›) (by refine rW hlen ?_;exact ot ‹_› ‹_›) h λη' k' hk' h'=>by rw [hlen] at hk' h';exact q η' k' (by exact jG ‹_› (by exact lA hm)) h'
end
theorem uY {t:NL}{j:LI}(h:(LI.cnt t j).ok none)(vs:List SV)(i:Nat):∃(L O:Str) (B:Bool) (c:bB) (inner:V),(∀ov,j.v ov=cS L O B (c.ov ov).i inner)/\
  ((Txt.contains "aAZ" L=true/\many vs i j=c.sel (λk=>k) ((dw none vs i).1.text.length+if L="Z" then 1 else 0))\/
   (Txt.contains "aAZ" L=false/\many vs i j=c.sel (λk=>min k (vs.length-i)) (vs.length-i))):=by
 obtain ⟨h1,h2⟩:=h
 cases j with
 | cnt=>exact h2.elim
 | aI o c l=>exact ⟨_,_,_,c,_,λov=>rfl, .inr ⟨by decide+kernel,rfl⟩⟩
 | pl p=>
  cases p with
  | fS=>exact h2.elim
  | num t o b c=>exact ⟨_,_,_,c,_,λov=>rfl, .inr ⟨by clear h2 h1;cases t<;>decide+kernel,rfl⟩⟩
  | dig t c=>exact ⟨_,_,_,c,_,λov=>rfl, .inr ⟨by clear h2 h1;cases t<;>decide+kernel,rfl⟩⟩
  | text t c=>exact ⟨_,_,_,c,_,λov=>rfl, .inl ⟨by clear h2 h1;cases t<;>decide+kernel,rfl⟩⟩
theorem D9 (c:bB):c.ov none=c:=rfl
theorem tR {vs:List SV}{i:Nat}(h:i<vs.length):(dw none vs i).1=vs[i]:=by
 refine (?_:(match vs[i]? with|some v=>(v,i+1)|none=>(SV.txt [],i)).1=_)
 exact rW (List.getElem?_eq_getElem h) rfl
theorem tS {vs:List SV}{i:Nat}(h:vs.length<=i):(dw none vs i).1= .txt []:=by
 refine (?_:(match vs[i]? with|some v=>(v,i+1)|none=>(SV.txt [],i)).1=_)
 exact rW (List.getElem?_eq_none h) rfl
section
variable {G:Gc}(X:GX G){n:Nat}{η:Hm}{E:Prop}{A:PA}{Q:V->Hm->Prop}{o:List Int}{i:Nat}{st:List Int}{k:Nat}{tl:Option Int}
include X
theorem lg (hv:Vals A.vs){t:NL}{j:LI}{N:Nat}(IH:yu G A (N+7) j)(hj:(LI.cnt t j).ok none)(ht:st.length+j.ht<=100)(hi:i<=A.vs.length)(h:Pk A ⟨o,i,st,k,none⟩ η)(hl:o.length+(72+j.cst)<=100000)(hs:k+(72+j.cst)<=1000000)
  (q:∀η' k',k'<=k+(72+j.cst)->Pk A ⟨o++((LI.cnt t j).lay A.vs none i).1,((LI.cnt t j).lay A.vs none i).2,st,k',none⟩ η'->Q .none η'):
  ah G (n+(N+7)+1) (.ref c7) [.ref A.p,cS "/" "" false (-2) (.lst [cS t.str "" false (-2) .none,j.v none])] η Q E:=by
 refine spec X 45 rfl rfl rfl ?_
 obtain ⟨L,O,B,c,inner,hL,hm⟩:=uY hj A.vs i
 obtain ⟨hm40,hjm⟩:=pj hv i (j:=j) hj
 have tail:∀s9,aQ G (n+(N+7)) (fN.sl.tl 3) E η [some (.ref A.p),some (cS "/" "" false (-2) (.lst [cS t.str "" false (-2) .none,j.v none])),some (cS t.str "" false (-2) .none),some (j.v none),some (.str L),some (.str O),some (.bool B),some (.int (many A.vs i j)),some inner,s9] (fin Q):=by
  intro s9
  refine o8 X h (nm:="length") (s':=⟨o,i,st,k,some (many A.vs i j:Int)⟩) rfl rfl (by decide+kernel) (by kernel_rfl) λη1 h1=>?_
  refine nQ X (n:=n+N) (c:= .au) (od:="") (m:=1) h1 (λi e=>by cases e;exact bt ‹_› (by rfl)) hi rfl (by decide) (by exact lA hs) (by exact lA hl) λη2 h2=>?_
  have hrow:(layNum (λx=>rowOf x (t.size false) (t.big "")) (some (many A.vs i j:Int)) A.vs 1 i)=(rowOf (many A.vs i j) (t.size false) (t.big ""),i):=by
   simp only [layNum,List.append_nil];rfl
  rw [hrow] at h2
  refine o8 X h2 (nm:="length") (s':=⟨o++rowOf (many A.vs i j) (t.size false) (t.big ""),i,st,k+1+1,none⟩) rfl rfl (by decide+kernel) (by kernel_rfl) λη3 h3=>?_
  have hw:=size_le t false
  have:=IH.of (m:=n) (E:=E) (Q:=λξ=>Q .none) (ov:=some (many A.vs i j)) hjm ht hi h3 (by refine rW List.length_append (rW (cN ..) ?_);exact lB hl hw) (by exact lA hs) λη' k' hk' h'=>q η' k' (by exact jG ‹_› (by simp+arith only)) (by
   rw [List.append_assoc] at h';exact h')
  rw [hL] at this
  exact this
 rw [hL none] at tail ⊢
 have hlv:=hv.l
 clear hL;rcases hm with ⟨hLt,hm⟩|⟨hLf,hm⟩
 ·refine ⟨λξ=>⟨λhc=>?_,λhc=>?_⟩,λz=>absurd (hLt.symm.trans z) (by decide)⟩
  ·have fin':∀s9:Option V,aQ G (n+(N+7)) (fN.sl.tl 3) E η [some (.ref A.p),some (cS "/" "" false (-2) (.lst [cS t.str "" false (-2) .none,cS L O B (c.ov none).i inner])),some (cS t.str "" false (-2) .none),some (cS L O B (c.ov none).i inner),some (.str L),some (.str O),some (.bool B),some (.int (((dw none A.vs i).1.text.length:Int)+if decide (L=Str.ofString "Z")=true then 1 else 0)),some inner,s9] (fin Q):=by
    intro s9
    have:=tail s9
    rw [hm] at this
    have e:((c.sel (λk=>k) ((dw none A.vs i).1.text.length+if L="Z" then 1 else 0):Nat):Int)=((dw none A.vs i).1.text.length:Int)+if decide (L=Str.ofString "Z")=true then 1 else 0:=by
     have hz:((if L=Str.ofString "Z" then 1 else 0:Nat):Int)=if decide (L=Str.ofString "Z")=true then 1 else 0:=by
      by_cases z:L="Z"
      ·refine rW (if_pos z) (rW (if_pos (decide_eq_true z)) ?_);rfl
      ·rw [if_neg z,if_neg (by refine rW (decide_eq_false z) ?_;exact Bool.false_ne_true)];rfl
     cases c with
     | num k=>exact absurd (show (k:Int)<0 from hc) (by simp)
     | au=>refine rV hz ?_;exact Int.natCast_add _ _
     | star=>refine rV hz ?_;exact Int.natCast_add _ _
    rw [e] at this
    exact this
   have hx:=jr (ib hv i)
   refine bH X h ⟨λz=>?_,λz=>?_⟩
   ·have hlt:i<A.vs.length:=by lia
    refine ⟨_,i6 X h,_,qH X h,_,bX (k:=i) (by rw [List.getElem?_map,List.getElem?_eq_getElem hlt];rfl) (by exact ka ‹_› (by exact lA hlv)),?_⟩
    have hvv:=ib hv i
    rw [tR hlt] at fin' hx hvv
    refine jt X (n:=n+N+4) hvv ⟨by refine rW (av ..) ?_;exact bt ‹_› (by rfl),?_⟩
    refine rW (av ..) ?_
    exact fin' _
   ·rw [tS (by lia)] at fin' hx
    refine jt X (s:= .txt []) (n:=n+N+4) List.mem_cons_self ⟨by decide,?_⟩
    exact fin' _
  ·have:=tail none
   rw [hm] at this
   cases c with
   | num k=>exact this
   | au=>exact absurd (show (-2:Int)<0 by decide) hc
   | star=>exact absurd (show (-1:Int)<0 by decide) hc
 ·refine ⟨λz=>absurd (hLf.symm.trans z) (by decide),λξ=>?_⟩
  have t0:=tail none
  rw [hm] at t0
  have e:∀c:bB,¬c.i<0->¬(A.vs.length:Int)-i<c.i->((c.sel (λk=>min k (A.vs.length-i)) (A.vs.length-i):Nat):Int)=c.i:=λc h1 h2=>by
   cases c with
   | num k=>
    have h2:¬(A.vs.length:Int)-i<k:=h2
    exact congrArg _ (Nat.min_eq_left (Int.ofNat_le.mp (rW (Int.natCast_sub hi) (Int.not_lt.mp h2))))
   | au=>exact absurd (show (-2:Int)<0 by decide) h1
   | star=>exact absurd (show (-1:Int)<0 by decide) h1
  have e2:c.i<0\/(A.vs.length:Int)-i<c.i->((c.sel (λk=>min k (A.vs.length-i)) (A.vs.length-i):Nat):Int)=(A.vs.length:Int)-i:=λh=>by
   cases c with
   | num k=>
    have h:(k:Int)<0\/(A.vs.length:Int)-i<k:=h
    refine (congrArg (Nat.cast (R:=Int)) (Nat.min_eq_right (a:=k) (Int.ofNat_le.mp (rW (Int.natCast_sub hi) ?_)))).trans (Int.natCast_sub hi)
    exact h.elim (λz=>absurd z (Int.not_lt.mpr (Int.natCast_nonneg k))) Int.le_of_lt
   | au=>show ((A.vs.length-i:Nat):Int)=_;exact Int.natCast_sub (by assumption)
   | star=>exact Int.natCast_sub hi
  refine ⟨λhc=>?_,λhc=>?_⟩
  ·refine bH X h ?_
   rw [e2 (.inl hc)] at t0
   exact t0
  ·refine bH X h ⟨λhc2=>?_,λhc2=>?_⟩
   ·refine bH X h ?_
    rw [e2 (.inr hc2)] at t0
    exact t0
   ·rw [e c hc hc2] at t0
    exact t0
end
noncomputable def LL.all (P:LI->Prop):LL->Prop
 | .nil=>True
 | .cons j r=>P j/\r.all P
theorem LL.aq {P P':LI->Prop}(h:∀j,P j->P' j):∀l:LL,l.all P->l.all P'
 | .nil,_=>trivial
 | .cons j r,q=>⟨h j q.1,LL.aq h r q.2⟩
section
variable {G:Gc}(X:GX G){n:Nat}{η:Hm}{E:Prop}{A:PA}{Q:V->Hm->Prop}
omit X in
theorem yu.up {N M:Nat}{j:LI}(h:yu G A N j)(hm:N<=M):yu G A M j:=⟨λ{m} {η} {E} {Q} {o} {i} {st} {k} {ov} a b c d e f g=>by
 have:=h.of (m:=m+(M-N)) (E:=E) (Q:=Q) a b c d e f g
 rw [show m+(M-N)+N=m+M by exact qA (Nat.sub_add_cancel hm)] at this
 exact this⟩
include X
theorem wG (hv:Vals A.vs){N:Nat}{l:LL}(h:l.all (yu G A N)):FG G A (N+1) l:=⟨λ{m} {η} {E} {Q} {o} {i} {st} {k} hl ht hi hp ho hk q=>by
 refine spec X 48 rfl rfl rfl ?_
 have loop:∀(r:LL) (o:List Int) (i k:Nat) (η:Hm) s2,r.all (yu G A N)->r.ok->st.length+r.ht<=100->i<=A.vs.length->Pk A ⟨o,i,st,k,none⟩ η->o.length+r.cst<=100000->k+r.cst<=1000000->
   (∀η' k',k'<=k+r.cst->Pk A ⟨o++(r.lay A.vs i).1,(r.lay A.vs i).2,st,k',none⟩ η'->Q .none η')->forL G (m+N) E Q jT.sl [2] false r.v η [some (.ref A.p),some (.lst l.v),s2]:=by
  intro r
  induction r using LL.rec (motive_1:=λξ=>True) with
  | nil=>
   intro o i k η s2 _ _ _ _ h _ _ q
   refine q η k (Nat.le_add_right _ _) ?_
   refine rW (show (LL.nil.lay A.vs i)=([],i) from rfl) (rW (List.append_nil ..) ?_)
   exact h
  | cons j r _ ih=>
   intro o i k η s2 ha hok ht hi h ho hk q
   have ht':st.length+max j.ht r.ht<=100:=ht
   have ho':o.length+(j.cst+r.cst)<=100000:=ho
   have hk':k+(j.cst+r.cst)<=1000000:=hk
   obtain ⟨b1,b2⟩:=LI.b hv j (ov:=none) hok.1 hi
   refine ha.1.of (m:=m) (ov:=none) hok.1 (by exact lB ht' (Nat.le_max_left j.ht r.ht)) hi h (by exact lA ho') (by exact lA hk') λη1 k1 hk1 h1=>?_
   refine ih _ _ k1 η1 _ ha.2 hok.2 (by exact lB ht' (Nat.le_max_right j.ht r.ht)) b2 h1 (by refine rW List.length_append ?_;exact lB ho' b1) (by exact vp ‹_› (by exact lA hk')) λη2 k2 hk2 h2=>q η2 k2 (by refine (?_:k2<=k+(j.cst+r.cst));exact jG ‹_› (by exact lA hk1)) ?_
   rw [List.append_assoc] at h2
   exact h2
  | pl|aI|cnt=>trivial
 exact loop l o i k η none h hl ht hi hp ho hk q⟩
mutual
theorem F9 (hv:Vals A.vs):(j:LI)->yu G A (7+3*j.ht) j
 | .pl p=>⟨λ{m} {η} {E} {Q} {o} {i} {st} {k} {ov} a b c d e f g=>CU X (n:=m) hv d a c e f g⟩
 | .aI od c l=>by
  refine ⟨λ{m} {η} {E} {Q} {o} {i} {st} {k} {ov} a b hi d e f g=>?_⟩
  have hN:FG G A (7+3*l.ht+1) l:=wG X hv (EK hv l)
  have e':o.length+(1+7*(1+l.cst))<=100000:=e
  have f':k+(1+7*(1+l.cst))<=1000000:=f
  have b':st.length+(1+l.ht)<=100:=b
  refine rW (show m+(7+3*(LI.aI od c l).ht)=m+(7+3*l.ht+1)+1+1 by refine (?_:m+(7+3*(1+l.ht))=_);simp+arith) ?_
  refine spec X 47 rfl rfl rfl ?_
  refine bD X d (by exact lA f') λη1 h1=>?_
  refine tT rfl ?_
  refine nf X hv (n:=m) hN a.1 a.2 (by exact lA b') hi h1 (by exact lA e') (by exact lA f') (by exact Nat.succ_pos _) λη' k' hk' h'=>g η' k' (by refine (?_:k'<=k+(1+7*(1+l.cst)));exact jG ‹_› (by simp+arith only)) h'
 | .cnt t j=>by
  refine ⟨λ{m} {η} {E} {Q} {o} {i} {st} {k} {ov} a b hi d e f g=>?_⟩
  have hN:yu G A (7+3*j.ht) j:=F9 hv j
  have e':o.length+(100+j.cst)<=100000:=e
  have f':k+(100+j.cst)<=1000000:=f
  have b':st.length+(1+j.ht)<=100:=b
  refine rW (show m+(7+3*(LI.cnt t j).ht)=m+1+(3*j.ht+7)+1+1 by refine (?_:m+(7+3*(1+j.ht))=_);simp+arith) ?_
  refine spec X 47 rfl rfl rfl ?_
  refine bD X d (by exact lA f') λη1 h1=>?_
  refine tF (by decide+kernel) (tT rfl ?_)
  refine lg X hv (n:=m+1) (N:=3*j.ht) (hN.up (by simp+arith)) a (by exact lA b') hi h1 (by exact lA e') (by exact lA f') λη' k' hk' h'=>g η' k' (by refine (?_:k'<=k+(100+j.cst));exact jG ‹_› (by simp+arith only)) h'
theorem EK (hv:Vals A.vs):(l:LL)->l.all (yu G A (7+3*l.ht))
 | .nil=>trivial
 | .cons j r=>⟨(F9 hv j).up (by refine (?_:_<=7+3*max j.ht r.ht);exact lA (Nat.mul_le_mul_left 3 (Nat.le_max_left j.ht r.ht))),LL.aq (λξ h=>h.up (by refine (?_:_<=7+3*max j.ht r.ht);exact lA (Nat.mul_le_mul_left 3 (Nat.le_max_right j.ht r.ht)))) r (EK hv r)⟩
end
end
section
variable {G:Gc}(X:GX G){n:Nat}{η:Hm}{E:Prop}{Q:V->Hm->Prop}
include X
theorem uB {vs:List SV}(hv:Vals vs)(q:∀A η',A.vs=vs->Pk A ⟨[],0,[0],0,none⟩ η'->Q (.ref A.p) η'):ah G (n+2) (.ref a9) [.lst (vs.map SV.v),gI] η Q E:=by
 obtain ⟨m1,m2,m3⟩:=X.EU (a9,bR) (by simp)
 refine ik m1 m2 m3 λx dx hx hd hne=>?_
 refine spec X 30 rfl rfl rfl ?_
 have hl:=hv.l
 intro o ho
 obtain ⟨ho1,ho⟩:=cw ho
 obtain ⟨ho2,ho⟩:=cw ho
 have am:∀nm,kY.contains (a9,nm)=true->(a9,nm)∈G.dP:=λnm=>bl X
 refine cu (C:=a9) (dx:=dx) (ks':= ["out"]) (vs':= [.ref o]) (by exact rW (af (Ne.symm ho1)) (rW ag rfl)) (by exact rW (af (Ne.symm ho2)) (rW (af (Ne.symm hne)) (rW ag rfl))) (am _ (by decide+kernel)) (by decide) (by kernel_rfl) ?_
 refine ⟨sz (by refine rW (List.length_map ..) ?_;exact bt ‹_› (by rfl)),?_⟩
 refine cu (C:=a9) (dx:=dx) (ks':= ["out","values"]) (vs':= [.ref o, .lst (vs.map SV.v)]) (by exact rW (af hne) (rW (af (Ne.symm ho1)) (rW ag rfl))) ag (am _ (by decide+kernel)) (by decide) (by kernel_rfl) ?_
 refine rW ak ?_
 refine cu (C:=a9) (dx:=dx) (ks':= ["out","values","at"]) (vs':= [.ref o, .lst (vs.map SV.v), .int 0]) (by exact rW (af hne) (rW (af (Ne.symm ho1)) (rW ag rfl))) ag (am _ (by decide+kernel)) (by decide) (by kernel_rfl) ?_
 refine rW ak ?_
 intro st hst
 obtain ⟨hs1,hst⟩:=cw hst
 obtain ⟨hs2,hst⟩:=cw hst
 obtain ⟨hs3,hst⟩:=cw hst
 refine cu (C:=a9) (dx:=dx) (ks':= ["out","values","at","starts"]) (vs':= [.ref o, .lst (vs.map SV.v), .int 0, .ref st]) (by exact rW (af (Ne.symm hs3)) (rW (af hne) (rW (af (Ne.symm ho1)) (rW ag rfl)))) (by exact rW (af (Ne.symm hs1)) (rW ag rfl)) (am _ (by decide+kernel)) (by decide) (by kernel_rfl) ?_
 refine cu (C:=a9) (dx:=dx) (ks':= ["out","values","at","starts","limits"]) (vs':= [.ref o, .lst (vs.map SV.v), .int 0, .ref st,gI]) (by exact rW (af hne) (rW (af (Ne.symm hs3)) (rW (af hne) (rW (af (Ne.symm ho1)) (rW ag rfl))))) ag (am _ (by decide+kernel)) (by decide) (by kernel_rfl) ?_
 refine rW ak ?_
 refine cu (C:=a9) (dx:=dx) (ks':= ["out","values","at","starts","limits","steps"]) (vs':= [.ref o, .lst (vs.map SV.v), .int 0, .ref st,gI, .int 0]) (by exact rW (af hne) (rW (af (Ne.symm hs3)) (rW (af hne) (rW (af (Ne.symm ho1)) (rW ag rfl))))) ag (am _ (by decide+kernel)) (by decide) (by kernel_rfl) ?_
 refine rW ak ?_
 refine cu (C:=a9) (dx:=dx) (ks':= ["out","values","at","starts","limits","steps","length"]) (vs':= [.ref o, .lst (vs.map SV.v), .int 0, .ref st,gI, .int 0, .none]) (by exact rW (af hne) (rW (af (Ne.symm hs3)) (rW (af hne) (rW (af (Ne.symm ho1)) (rW ag rfl))))) ag (am _ (by decide+kernel)) (by decide) (by kernel_rfl) ?_
 refine rW ak ?_
 refine ⟨rfl,q ⟨x,dx,o,st,vs⟩ _ rfl ⟨?_,ag,?_,?_,Ne.symm hs2,Nat.lt_of_le_of_lt hl (by decide),hv.ok⟩⟩
 ·exact rW (af hne) (rW (af (Ne.symm hs3)) (rW (af hne) (rW (af (Ne.symm ho1)) (rW ag rfl))))
 ·refine rW (af ho2) (rW (af (Ne.symm hs2)) (rW (af ho2) (rW ag ?_)));rfl
 ·refine rW (af hs1) (rW ag ?_);rfl
noncomputable def du (l:List Int):Str:=ls (l.map Int.toNat)
omit X in
theorem pK {i:Nat}{ρ:Ro}{m:Nat}{o:List Int}(ho:∀x∈o,0<=x/\x<=255)(hl:o.length<2^20)(hi:i<ρ.length)(q:Q (.str (du o)) η):
  cX (λY η Q=>(wp G m (.bi .chr false (.c (.l i) .n))).1 False η (ρ.set i (some Y)) Q) (o.map .int) [] η λl η2=>Ac G.K .join false [.str (Str.ofString ""), .lst l] η2 Q:=by
 have loop:∀(cs:List Int) (acc:List Nat),(∀x∈cs,0<=x/\x<=255)->acc.length+cs.length=o.length->acc++cs.map Int.toNat=o.map Int.toNat->
   cX (λY η Q=>(wp G m (.bi .chr false (.c (.l i) .n))).1 False η (ρ.set i (some Y)) Q) (cs.map .int) (acc.map λc=> .str (ls [c])) η λl η2=>Ac G.K .join false [.str (Str.ofString ""), .lst l] η2 Q:=by
  intro cs
  induction cs with
  | nil=>
   intro acc _ hl' e
   rw [List.map_nil,List.append_nil] at e
   refine lI (G:=G) (cs:=acc) (.inl rfl) (by simp at hl';exact lB hl (eL hl')) ?_
   refine rW e ?_;exact q
  | cons c cs ih=>
   intro acc hc hl' e
   rw [List.length_cons] at hl'
   obtain ⟨c1,c2⟩:=hc c List.mem_cons_self
   refine ⟨by refine rW (List.length_map ..) ?_;exact lB hl (eL hl'),ez (X:= .int c) (by exact rW (List.getElem?_set_self hi) rfl) ⟨⟨c1,by exact Int.le_trans (by assumption) (by decide)⟩,?_⟩⟩
   have:=ih (acc++ [c.toNat]) (λx hx=>hc x (List.mem_cons_of_mem _ hx)) (by refine rW List.length_append (rW List.length_singleton ?_);exact qA hl') (by refine rV e (rW (List.append_assoc ..) ?_);rfl)
   rw [List.map_append] at this
   exact this
 exact loop o [] ho (by simp) rfl
theorem lX {vs:List SV}(hv:Vals vs){l:LL}{text:Str}(hl:l.ok)(hh:l.ht<=10)(hc:l.cst<=100000)(hb:∀x∈(l.lay vs 0).1,0<=x/\x<=255)
  (hp:∀{η:Hm} {Q:V->Hm->Prop},Q (.lst l.v) η->ah G (n+50) (.ref aF) [.str text] η Q E) (q:∀η',Q (.str (du (l.lay vs 0).1)) η'):
  ah G (n+51) (.ref dF) [.str text, .lst (vs.map SV.v),gI] η Q E:=by
 refine spec X 49 rfl rfl rfl ?_
 refine uB X (n:=n+48) hv λA η1 hA h1=>?_
 subst hA
 refine hp ?_
 have hI:=wG X hv (LL.aq (λj (h:yu G A _ j)=>h.up (show 7+3*l.ht<=49 by exact lA (Nat.mul_le_mul_left 3 hh))) l (EK X hv l))
 have hcst:=LL.b hv l (i:=0) hl (Nat.zero_le _)
 refine hI.of (m:=n) hl (by refine (?_:1+_<=100);exact Cc ‹_› (by rfl)) (Nat.zero_le _) h1 (by refine (?_:0+_<=_);exact Nat.add_le_add_left (by assumption) _) (by exact Cc ‹_› (by rfl)) λη2 k2 hk2 h2=>?_
 rw [List.nil_append] at h2
 refine ⟨_,jx X h2, .inl ⟨_,h2.lo,?_⟩⟩
 exact pK hb (by exact lB hc hcst.1) (Nat.lt_of_sub_pos Nat.one_pos) (q _)
end
noncomputable def kI:List Nat:= [99,67,115,83,108,76,113,81,105,73,106,74,110,78,118,86,97,65,90,98,66,104,72,120,40,41,47,33,60,62,91,93,42,48,49,50,51,52,53,54,55,56,57,32,10,35]
noncomputable def pw (c:Nat):Bool:=c==32||c==10||c==35
noncomputable def jC (c:Nat):Bool:=c==33||c==60||c==62
theorem AB:∀c∈kI,Txt.contains (Str.ofString " \t\n\r\x0c"++Str.ofString "#") (ls [c])=pw c/\Txt.contains "0123456789" (ls [c])=gX c/\Txt.contains "!<>" (ls [c])=jC c/\c≠44:=by decide+kernel
structure RA where
 r:Addr
 dx:Addr
 t:List Nat
noncomputable def rK:List Str:= ["text","at"]
noncomputable def RA.to (A:RA)(η:Hm)(i:Nat):Hm:=upd η A.dx (.aZ rK [.str (ls A.t), .int i])
structure Rd (A:RA)(i:Nat)(η:Hm):Prop where
 p:η A.r=some (.inst aa A.dx)
 d:η A.dx=some (.aZ rK [.str (ls A.t), .int i])
 l:A.t.length<2^20
 al:∀c∈A.t,c∈kI
theorem Rd.ne {A:RA}{i:Nat}{η:Hm}(h:Rd A i η):A.r≠A.dx:=fU h.p h.d (by simp)
theorem Rd.to {A:RA}{i:Nat}{η:Hm}(h:Rd A i η)(j:Nat):Rd A j (A.to η j):=⟨by unfold RA.to;refine rW (af h.ne) ?_;exact h.p,ag,h.l,h.al⟩
theorem RA.gh {A:RA}{i j:Nat}{η:Hm}:A.to (A.to η i) j=A.to η j:=ak
theorem Rd.same {A:RA}{i:Nat}{η:Hm}(h:Rd A i η):A.to η i=η:=by
 funext b;unfold RA.to
 by_cases q:b=A.dx
 ·subst q;exact rW ag (rW h.d rfl)
 ·exact rW (af q) rfl
theorem dq {t:List Nat}{i c:Nat}{r:List Nat}(h:t.drop i=c::r):c∈t/\t.drop (i+1)=r/\i<t.length:=by
 refine ⟨List.mem_of_mem_drop (h▸List.mem_cons_self),?_,?_⟩
 ·refine rV List.drop_drop (rW h ?_);rfl
 ·refine Nat.lt_of_not_le λz=>?_
  rw [List.drop_eq_nil_of_le z] at h;cases h
theorem tY {c d:Nat}:ls [c]=ls [d] ↔ c=d:=⟨λh=>by have:=xe h;simpa using this,λh=>by exact rW h rfl⟩
section
variable {G:Gc}(X:GX G){n:Nat}{η:Hm}{E:Prop}{Q:V->Hm->Prop}{A:RA}{i:Nat}{c:Nat}{r:List Nat}
include X
theorem oP (h:Rd A i η):eI η (.ref A.r)=some (aa,rK,[.str (ls A.t), .int i]):=pD h.p h.d
theorem tD (h:Rd A i η):eu G.dP (.ref A.r) "text" η=some (.str (ls A.t)):=cn (oP X h) (bl X (by decide+kernel)) rfl rfl
theorem fh (h:Rd A i η):eu G.dP (.ref A.r) "at" η=some (.int i):=cn (oP X h) (bl X (by decide+kernel)) (by kernel_rfl) rfl
theorem fJ (h:Rd A i η){j:Nat}{Q:Hm->Prop}(q:Q (A.to η j)):jq G.dP (.ref A.r) "at" (.int j) η Q:=
 cu (ks':=rK) (vs':= [.str (ls A.t), .int j]) h.p h.d (bl X (by decide+kernel)) (by decide) (by kernel_rfl) q
theorem Ao {nm:Str}(h:Rd A i η)(hn:(rK.contains nm)=false):∃ks vs,eI η (.ref A.r)=some (aa,ks,vs)/\nm∉ks:=⟨_,_,oP X h,λz=>by rw [List.contains_iff_mem.mpr z] at hn;cases hn⟩
theorem ba (h:Rd A i η):∃ks vs,eI η (.ref A.r)=some (aa,ks,vs)/\Str.ofString "peek"∉ks:=Ao X h (by decide+kernel)
theorem pg (h:Rd A i η):∃ks vs,eI η (.ref A.r)=some (aa,ks,vs)/\Str.ofString "skip"∉ks:=Ao X h (by decide+kernel)
theorem tj (h:Rd A i η)(q:Q (.str (ls ((A.t.drop i).take 1))) η):ah G (n+1) (.ref ae) [.ref A.r] η Q E:=by
 refine spec X 17 rfl rfl rfl ?_
 refine ⟨_,tD X h,_,fh X h,_,fh X h,sz (by refine rW (av ..) ?_;exact h.l),?_⟩
 refine (?_:Q (.str (q7 (some (i:Int)) (some ((i+1:Nat):Int)) none (ls A.t))) η)
 refine rW (oO ..) (rW (Nat.add_sub_cancel_left ..) ?_)
 exact q
theorem bL (h:Rd A i η)(e:A.t.drop i=c::r)(q:Q (.str (ls [c])) η):ah G (n+1) (.ref ae) [.ref A.r] η Q E:=by
 refine tj X h ?_
 refine rW e ?_;exact q
theorem ed (h:Rd A i η)(e:A.t.drop i= [])(q:Q (.str (ls [])) η):ah G (n+1) (.ref ae) [.ref A.r] η Q E:=by
 refine tj X h ?_
 refine rW e ?_;exact q
omit X in
theorem jz:ls [c]≠Str.ofString "":=λh=>by
 have:=congrArg (λx:Str=>x.cps.size) h
 have e:(Str.ofString "").cps.size=0:=by decide+kernel
 simp only [e,ls,List.size_toArray,List.length_singleton] at this
 cases this
omit X in
theorem nil_eq:ls []=Str.ofString "":=by decide+kernel
theorem jY {S:Str}{p:Nat->Bool}{x:Mine.X}{ρ:Ro}{P:Bool->Hm->Prop}(h:Rd A i η)(h0:gv ρ 0 λY=>Y= .ref A.r)(hS:∀(η:Hm) (Q:V->Hm->Prop),Q (.str S) η->(wp G (n+1) x).1 E η ρ Q)(hp:∀c∈kI,Txt.contains S (ls [c])=p c)
  (q1:∀c r,A.t.drop i=c::r->p c=true->P true η) (q0:(∀c r,A.t.drop i=c::r->p c=false)->P false η):
  (wp G (n+1) (.eJ true (.c (.q (.mi "peek" aa ae (.l 0) .n) .NotEq (.str "")) (.c (.q (.mi "peek" aa ae (.l 0) .n) .In x) .n)))).2 E η ρ P:=by
 obtain ⟨Y,e0,rfl⟩:=kT h0
 refine ez e0 ⟨ba X h,?_⟩
 cases e:A.t.drop i with
 | nil=>
  refine ed X h e ⟨λξ=>q0 λc r e'=>(by rw [e] at e';cases e'),λz=>absurd nil_eq z⟩
 | cons c r=>
  refine bL X h e ⟨λz=>absurd z jz,λξ=>ez e0 ⟨ba X h,?_⟩⟩
  refine bL X h e ?_
  refine hS η _ ?_
  have hc:=hp c (h.al c (dq e).1)
  refine ⟨λz=>q1 c r e (hc.symm.trans z),λz=>q0 λc' r' e'=>?_⟩
  rw [e] at e';cases e'
  exact hc.symm.trans z
end
noncomputable def gW (c:Nat):Bool:= !(c==10)
noncomputable def rH:Nat->List Nat->Nat
 | 0,_=>0
 | n+1,l=>match l with
  | []=>0
  | c::r=>if c=35 then run gW (c::r)+rH n ((c::r).drop (run gW (c::r))) else if pw c=true then 1+rH n r else 0
noncomputable abbrev F5 (G:Gc)(n:Nat)(E:Prop):Hm->Ro->(Bool->Hm->Prop)->Prop:=λη ρ Q=>(wp G n bo.sl.hd.cond).2 E η ρ Q
noncomputable abbrev F7 (G:Gc)(n:Nat)(E:Prop):Hm->Ro->Kp->Prop:=λη ρ K=>aQ G n bo.sl.hd.body E η ρ K
noncomputable abbrev CX (G:Gc)(n:Nat)(E:Prop):Hm->Ro->(Bool->Hm->Prop)->Prop:=λη ρ Q=>(wp G n (bo.sl.hd.body.tl 1).hd.cond).2 E η ρ Q
noncomputable abbrev CY (G:Gc)(n:Nat)(E:Prop):Hm->Ro->Kp->Prop:=λη ρ K=>aQ G n (bo.sl.hd.body.tl 1).hd.body E η ρ K
theorem hash_eq:Str.ofString "#"=ls [35]:=by decide+kernel
theorem Aq:Str.ofString "\n"=ls [10]:=by decide+kernel
section
variable {G:Gc}(X:GX G){n:Nat}{η:Hm}{E:Prop}{Q:V->Hm->Prop}{A:RA}{i:Nat}{c:Nat}{r:List Nat}
include X
theorem rI {K:Kp}:∀(d i:Nat) (η:Hm),A.t.length-i<=d->Rd A i η->K.nx (A.to η (i+run gW (A.t.drop i))) [some (.ref A.r)]->
  fy (CX G (n+1) E) (CY G (n+1) E) K (m6 (CX G (n+1) E) (CY G (n+1) E) K d) η [some (.ref A.r)]:=by
 intro d
 induction d with
 | zero=>
  intro i η hd h hK
  have e:A.t.drop i= []:=List.drop_eq_nil_of_le (by exact lB hd (sA A.t.length i))
  rw [e,run,Nat.add_zero,h.same] at hK
  exact ⟨ba X h,ed X h e ⟨λξ=>hK,λz=>absurd nil_eq z⟩⟩
 | succ d ih=>
  intro i η hd h hK
  cases e:A.t.drop i with
  | nil=>
   rw [e,run,Nat.add_zero,h.same] at hK
   exact ⟨ba X h,ed X h e ⟨λξ=>hK,λz=>absurd nil_eq z⟩⟩
  | cons c r=>
   obtain ⟨e1,e2,e3⟩:=dq e
   rw [e,run] at hK
   refine ⟨ba X h,bL X h e ⟨λz=>absurd z jz,λξ=>⟨ba X h,bL X h e ⟨λz=>?_,λz=>?_⟩⟩⟩⟩
   ·rw [Aq,tY] at z
    rw [if_neg (by unfold gW;refine rW z ?_;decide),Nat.add_zero,h.same] at hK
    exact hK
   ·rw [Aq,tY] at z
    have hc:gW c=true:=by unfold gW;simp [z]
    rw [if_pos hc] at hK
    refine ⟨_,fh X h,?_⟩
    refine fJ X h (j:=i+1) (.inr ?_)
    refine ih (i+1) _ (by exact lC hd (sA A.t.length i) (sC e3)) (h.to (i+1)) ?_
    refine rW RA.gh (rW e2 (rW (show i+1+run gW r=i+(run gW r+1) by exact Nat.add_right_comm _ _ _) ?_))
    exact hK
theorem yT {K:Kp}:∀(d i:Nat) (η:Hm),A.t.length-i<=d->Rd A i η->K.nx (A.to η (i+rH d (A.t.drop i))) [some (.ref A.r)]->
  fy (F5 G (n+1) E) (F7 G (n+1) E) K (m6 (F5 G (n+1) E) (F7 G (n+1) E) K d) η [some (.ref A.r)]:=by
 intro d
 induction d with
 | zero=>
  intro i η hd h hK
  have e:A.t.drop i= []:=List.drop_eq_nil_of_le (by exact lB hd (sA A.t.length i))
  rw [rH,Nat.add_zero,h.same] at hK
  exact ⟨ba X h,ed X h e ⟨λξ=>hK,λz=>absurd nil_eq z⟩⟩
 | succ d ih=>
  intro i η hd h hK
  refine jY X h (S:=Str.ofString " \t\n\r\x0c"++Str.ofString "#") (p:=pw) rfl (λη Q q=>⟨by decide+kernel,q⟩) (λc hc=>(AB c hc).1) (λc r e hb=>?_) λhb=>?_
  ·obtain ⟨e1,e2,e3⟩:=dq e
   rw [e,rH] at hK
   refine ⟨ba X h,bL X h e ⟨λz=>?_,λz=>?_⟩⟩
   ·rw [hash_eq,tY] at z
    rw [if_pos z] at hK
    refine jd (A.t.length-i) (rI X (A.t.length-i) i η (Nat.le_refl _) h ?_)
    refine rW e ?_
    refine .inr (ih _ _ ?_ (h.to _) ?_)
    ·have:1<=run gW (c::r):=by
      rw [run,if_pos (by refine rW z ?_;decide)];exact Nat.le_add_left 1 _
     exact Nat.sub_le_of_le_add (lC hd this (sA A.t.length i))
    ·refine rW RA.gh (rV List.drop_drop (rW e (rW (Nat.add_assoc ..) ?_)))
     exact hK
   ·rw [hash_eq,tY] at z
    rw [if_neg z,if_pos hb] at hK
    refine ⟨_,fh X h,?_⟩
    refine fJ X h (j:=i+1) (.inr ?_)
    refine ih (i+1) _ (by exact Nat.sub_le_of_le_add (lB hd (sA A.t.length i))) (h.to (i+1)) ?_
    refine rW RA.gh (rW e2 (rW (Nat.add_assoc ..) ?_))
    exact hK
  ·have e0:rH (d+1) (A.t.drop i)=0:=by
    cases e:A.t.drop i with
    | nil=>rfl
    | cons c r=>
     have:=hb c r e
     rw [rH]
     rw [if_neg (by rintro rfl;cases this),if_neg (by refine rW this ?_;exact Bool.false_ne_true)]
   rw [e0,Nat.add_zero,h.same] at hK
   exact hK
theorem yI (h:Rd A i η)(q:Q .none (A.to η (i+rH (A.t.length-i) (A.t.drop i)))):ah G (n+2) (.ref aA) [.ref A.r] η Q E:=by
 refine spec X 18 rfl rfl rfl ?_
 exact jd (A.t.length-i) (yT X (A.t.length-i) i η (Nat.le_refl _) h q)
noncomputable def sL:List (List Nat):= [[],[32],[10],[35,32,97,35,40,10]]
omit X in
theorem iO (n c:Nat)(r:List Nat):rH (n+1) (c::r)=if c=35 then run gW (c::r)+rH n ((c::r).drop (run gW (c::r))) else if pw c=true then 1+rH n r else 0:=rfl
omit X in
theorem Bd {d:Nat}{b tl:List Nat}(hb:b∈sL)(ht:∀c r,tl=c::r->pw c=false)(hd:b.length<=d):rH d (b++tl)=b.length:=by
 have h0:∀d,rH d tl=0:=λd=>by
  cases d with
  | zero=>rfl
  | succ d=>
   cases tl with
   | nil=>rfl
   | cons c r=>
    have:=ht c r rfl
    rw [rH]
    rw [if_neg (by rintro rfl;cases this),if_neg (by refine rW this ?_;exact Bool.false_ne_true)]
 simp only [sL,List.mem_cons,List.not_mem_nil,or_false] at hb
 rcases hb with rfl|rfl|rfl|rfl
 ·exact h0 d
 ·obtain ⟨d,rfl⟩:∃e,d=e+1:=⟨d-1,by simp at hd;exact qA ((Nat.sub_add_cancel hd).symm)⟩
  rw [List.cons_append,List.nil_append,iO,if_neg (by decide),if_pos (by decide),h0];rfl
 ·obtain ⟨d,rfl⟩:∃e,d=e+1:=⟨d-1,by simp at hd;exact qA ((Nat.sub_add_cancel hd).symm)⟩
  rw [List.cons_append,List.nil_append,iO,if_neg (by decide),if_pos (by decide),h0];rfl
 ·obtain ⟨d,rfl⟩:∃e,d=e+2:=⟨d-2,by simp at hd;exact (Nat.sub_add_cancel (lA hd)).symm⟩
  have e5:run gW ([35,32,97,35,40,10]++tl)=5:=by simp [run,gW]
  rw [show [35,32,97,35,40,10]++tl=35::([32,97,35,40,10]++tl) from rfl] at e5 ⊢
  rw [iO,if_pos rfl,e5,show (35::([32,97,35,40,10]++tl)).drop 5=10::tl from rfl,iO,if_neg (by decide),if_pos (by decide),h0];rfl
end
noncomputable def NB (tl:List Nat):Prop:=∀c r,tl=c::r->pw c=false
noncomputable def vz (b:List Nat):Prop:=∀d tl,NB tl->b.length<=d->rH d (b++tl)=b.length
theorem vz.of {b:List Nat}(h:b∈sL):vz b:=λξ ξ ht hd=>Bd h ht hd
theorem vz.sp {b:List Nat}(h:vz b):vz (32::b):=λd tl ht hd=>by
 rw [List.length_cons] at hd
 obtain ⟨d,rfl⟩:∃e,d=e+1:=⟨d-1,(Nat.sub_add_cancel (lA hd)).symm⟩
 rw [List.cons_append,iO,if_neg (by decide),if_pos (by decide),h d tl ht (by exact Nat.le_of_lt_succ (by assumption)),List.length_cons,Nat.add_comm]
theorem cW {t a b:List Nat}{i:Nat}(h:t.drop i=a++b):t.drop (i+a.length)=b:=by
 exact rV List.drop_drop (rW h (rW List.drop_left rfl))
theorem qT:Str.ofString ","=ls [44]:=by decide+kernel
theorem j5:∀k∈List.range 10,PySem.intText? (ls [48+k])=some (k:Int)/\(48+k)∈kI/\gX (48+k)=true/\(ls [48+k]≠"*"/\ls [48+k]≠"["):=by decide+kernel
section
variable {G:Gc}(X:GX G){n:Nat}{η:Hm}{E:Prop}{Q:V->Hm->Prop}{A:RA}{i:Nat}{c:Nat}{r b tl:List Nat}
include X
theorem ju (h:Rd A i η)(e:A.t.drop i=b++tl)(hb:vz b)(ht:NB tl)(q:Q .none (A.to η (i+b.length))):ah G (n+2) (.ref aA) [.ref A.r] η Q E:=by
 refine yI X h ?_
 rw [e,hb _ _ ht ?_]
 ·exact q
 ·have:=congrArg List.length e
  rw [List.length_drop,List.length_append] at this
  exact lA (eR this)
theorem g9 (h:Rd A i η)(e:A.t.drop i=b++tl)(hb:vz b)(ht:NB tl)(q:Q .none (A.to η (i+b.length))):ah G (n+3) (.ref eM) [.ref A.r] η Q E:=by
 refine spec X 25 rfl rfl rfl ?_
 refine ⟨pg X h,ju X h e hb ht ?_⟩
 have h1:=h.to (i+b.length)
 have e1:=cW e
 refine jd 0 ⟨ba X h1,?_⟩
 clear ht e;cases tl with
 | nil=>exact ed X h1 e1 (tF (by decide+kernel) q)
 | cons c r=>
  refine bL X h1 e1 ⟨λz=>?_,λξ=>q⟩
  rw [qT,tY] at z
  exact absurd z (AB c (h.al c (dq e1).1)).2.2.2
theorem iq {k:Nat}(h:Rd A i η)(hk:k<10)(e:A.t.drop i=(48+k)::tl)(ht:∀c r,tl=c::r->gX c=false)(q:Q (.int k) (A.to η (i+1))):ah G (n+2) (.ref b9) [.ref A.r] η Q E:=by
 refine spec X 19 rfl rfl rfl ?_
 refine ⟨_,fh X h,?_⟩
 obtain ⟨d1,d2,d3, -⟩:=j5 k (List.mem_range.mpr hk)
 obtain ⟨-,e2,e3⟩:=dq e
 have hw':∀{j:Nat} {i:Nat} {η:Hm} {P:Bool->Hm->Prop},Rd A i η->(∀c r,A.t.drop i=c::r->gX c=true->P true η)->((∀c r,A.t.drop i=c::r->gX c=false)->P false η)->
   (wp G (n+1) (fM.sl.tl 1).hd.cond).2 E η (List.set (yn [V.ref A.r] fM.N) 1 (some (.int j))) P:=λ{j i η P} h q1 q0=>
  jY X h (S:=Str.ofString "0123456789") (p:=gX) rfl (λη Q q=>q) (λc hc=>(AB c hc).2.1) q1 q0
 refine jd 1 (hw' h (λc r e' hc=>?_) λz=>absurd (z _ _ e) (by refine rW d3 ?_;decide))
 refine ⟨_,fh X h,?_⟩
 refine fJ X h (j:=i+1) (.inr ?_)
 have h1:=h.to (i+1)
 refine hw' h1 (λc r e' hc=>?_) λξ=>?_
 ·rw [e2] at e'
  exact absurd hc (by refine rW (ht c r e') ?_;decide)
 ·refine ⟨_,tD X h1,_,fh X h1,sz (by refine rW (av ..) ?_;exact h.l),?_⟩
  refine rW (oO ..) (rW (Nat.add_sub_cancel_left ..) (rW e ?_))
  exact ⟨(show (ls [48+k]).length<2^63 by refine rW (av ..) ?_;refine (?_:1<2^63);decide),λz=>absurd (show (9:Int)<((ls [48+k]).length:Nat) from z) (by refine rW (av ..) ?_;refine (?_:¬(9:Int)<(1:Nat));decide),λξ=>⟨_,d1,by refine rW (show (List.take 1 ((48+k)::tl))= [48+k] from rfl) (rW (av ..) ?_);refine (?_:1<=640);decide,q⟩⟩
end
noncomputable def cT:bB->List Nat->Prop
 | .au,l=>l= []
 | .star,l=>l= [42]
 | .num k,l=>k<10/\(l= [48+k]\/l= [91,48+k,93])
noncomputable def Fw (tl:List Nat):Prop:=∀c r,tl=c::r->gX c=false/\jC c=false/\c≠42/\c≠91
noncomputable def NM (tl:List Nat):Prop:=∀c r,tl=c::r->jC c=false
theorem oD:Str.ofString "*"=ls [42]:=by decide+kernel
theorem AA:Str.ofString "["=ls [91]:=by decide+kernel
theorem B8:Str.ofString "]"=ls [93]:=by decide+kernel
section
variable {G:Gc}(X:GX G){n:Nat}{η:Hm}{E:Prop}{Q:V->Hm->Prop}{A:RA}{i:Nat}{c:Nat}{r b tl:List Nat}
include X
theorem lW {k:Nat}(h:Rd A i η)(hk:k<10)(e:A.t.drop i=91::(48+k)::93::tl)(q:Q (.int k) (A.to η (i+3))):ah G (n+3) (.ref dE) [.ref A.r] η Q E:=by
 refine spec X 20 rfl rfl rfl ?_
 obtain ⟨-,e1, -⟩:=dq e
 obtain ⟨-,e2, -⟩:=dq e1
 obtain ⟨-,e3, -⟩:=dq e2
 refine ⟨_,fh X h,?_⟩
 refine fJ X h (j:=i+1) ?_
 have h1:=h.to (i+1)
 refine ⟨_,fh X h1,?_⟩
 refine jY X h1 (n:=n+1) (x:= .fm 3) (ρ:=List.set (yn [V.ref A.r] jl.N) 1 (some (.int (i+1:Nat)))) (S:=Str.ofString "0123456789") (p:=gX) rfl (λη Q q=>q) (λc hc=>(AB c hc).2.1) (λc r e' hc=>?_) λz=>?_
 ·refine iq X (n:=n) h1 hk e1 (λc r e=>by cases e;decide) ?_
  refine rW RA.gh ?_
  have h2:=h.to (i+1+1)
  refine ⟨ba X h2,bL X h2 e2 ⟨λξ=>?_,λz=>absurd B8.symm z⟩⟩
  refine ⟨_,fh X h2,?_⟩
  refine fJ X h2 (j:=i+1+1+1) ?_
  refine rW RA.gh ?_
  exact q
 ·have:=z _ _ e1
  rw [(j5 k (List.mem_range.mpr hk)).2.2.1] at this
  cases this
theorem iM {c:bB}{ct:List Nat}(h:Rd A i η)(hc:cT c ct)(e:A.t.drop i=ct++tl)(ht:Fw tl)(q:Q (.int c.i) (A.to η (i+ct.length))):ah G (n+4) (.ref dD) [.ref A.r] η Q E:=by
 refine spec X 21 rfl rfl rfl ?_
 refine ⟨ba X h,?_⟩
 have hd:∀c∈kI,Txt.contains "0123456789" (ls [c])=gX c:=λc hc=>(AB c hc).2.1
 cases c with
 | star=>
  obtain rfl:ct= [42]:=hc
  refine bL X h e (tT oD.symm ?_)
  refine ⟨_,fh X h,?_⟩
  exact fJ X h (j:=i+1) q
 | num k=>
  obtain ⟨hk,rfl|rfl⟩:=hc
  ·obtain ⟨-,d2,d3,d4,d5⟩:=j5 k (List.mem_range.mpr hk)
   refine bL X h e ⟨λz=>absurd z d4,λξ=>⟨λz=>absurd z d5,λξ=>⟨λz=>absurd z jz,λξ=>⟨λξ=>?_,λz=>?_⟩⟩⟩⟩
   ·exact iq X (n:=n+1) h hk e (λc r e=>(ht c r e).1) q
   ·rw [hd _ d2,d3] at z;cases z
  ·refine bL X h e ⟨λz=>?_,λξ=>tT AA.symm ?_⟩
   ·rw [oD,tY] at z;cases z
   ·exact lW X (n:=n) h hk e q
 | au=>
  obtain rfl:ct= []:=hc
  have q':Q (.int (-2)) η:=by
   have:=q
   rw [List.length_nil,Nat.add_zero,h.same] at this
   exact this
  rw [List.nil_append] at e
  cases tl with
  | nil=>exact ed X h e ⟨λz=>absurd z (by decide+kernel),λξ=>⟨λz=>absurd z (by decide+kernel),λξ=>⟨λξ=>q',λz=>absurd nil_eq z⟩⟩⟩
  | cons c r=>
   obtain ⟨t1,t2,t3,t4⟩:=ht c r rfl
   refine bL X h e ⟨λz=>?_,λξ=>⟨λz=>?_,λξ=>⟨λz=>absurd z jz,λξ=>⟨λz=>?_,λξ=>q'⟩⟩⟩⟩
   ·rw [oD,tY] at z;exact absurd z t3
   ·rw [AA,tY] at z;exact absurd z t4
   ·rw [hd _ (h.al c (dq e).1),t1] at z;cases z
noncomputable def pT (L:Str):Str->List Nat->Prop
 | _,[]=>True
 | od,c::m=>if c=33 then Txt.contains "sSiIlLnNvVxX@." L=true/\pT L od m else jC c=true/\(L="("\/Txt.contains "sSlLqQiIjJ" L=true)/\(od=""\/od=ls [c])/\pT L (ls [c]) m
noncomputable def mF:Str×Bool->List Nat->Str×Bool
 | p,[]=>p
 | p,c::m=>if c=33 then mF (p.1,true) m else mF (ls [c],p.2) m
noncomputable abbrev EP (G:Gc)(n:Nat)(E:Prop):Hm->Ro->(Bool->Hm->Prop)->Prop:=λη ρ Q=>(wp G n (hV.sl.tl 2).hd.cond).2 E η ρ Q
noncomputable abbrev ER (G:Gc)(n:Nat)(E:Prop):Hm->Ro->Kp->Prop:=λη ρ K=>aQ G n (hV.sl.tl 2).hd.body E η ρ K
omit X in
theorem ux:Str.ofString "!"=ls [33]:=by decide+kernel
theorem xa {L:Str}{K:Kp}:∀(m:List Nat) (i:Nat) (η:Hm) (od:Str) (b:Bool) (s4:Option V),A.t.drop i=m++tl->pT L od m->NM tl->Rd A i η->(∀s4,K.nx (A.to η (i+m.length)) [some (.ref A.r),some (.str L),some (.str (mF (od,b) m).1),some (.bool (mF (od,b) m).2),s4])->
  fy (EP G (n+1) E) (ER G (n+1) E) K (m6 (EP G (n+1) E) (ER G (n+1) E) K m.length) η [some (.ref A.r),some (.str L),some (.str od),some (.bool b),s4]:=by
 intro m
 induction m with
 | nil=>
  intro i η od b s4 e _ ht h hK
  refine jY X h (S:=Str.ofString "!<>") (p:=jC) rfl (λη Q q=>q) (λc hc=>(AB c hc).2.2.1) (λc r e' hc=>?_) λξ=>?_
  ·rw [List.nil_append] at e
   rw [e] at e'
   exact absurd hc (by refine rW (ht c r e') ?_;decide)
  ·have:=hK s4
   rw [List.length_nil,Nat.add_zero,h.same] at this
   exact this
 | cons c m ih=>
  intro i η od b s4 e ho ht h hK
  have hc:jC c=true:=by
   rw [pT] at ho
   by_cases z:c=33
   ·refine rW z ?_;decide
   ·rw [if_neg z] at ho;exact ho.1
  obtain ⟨e1,e2,e3⟩:=dq e
  refine jY X h (S:=Str.ofString "!<>") (p:=jC) rfl (λη Q q=>q) (λc hc=>(AB c hc).2.2.1) (λξ ξ ξ ξ=>?_) λz=>absurd (z _ _ e) (by refine rW hc ?_;decide)
  refine ⟨ba X h,bL X h e ⟨_,fh X h,?_⟩⟩
  refine fJ X h (j:=i+1) ?_
  have go:∀od' b',pT L od' m->(mF (od,b) (c::m))=mF (od',b') m->m6 (EP G (n+1) E) (ER G (n+1) E) K (m.length+1) (A.to η (i+1)) [some (.ref A.r),some (.str L),some (.str od'),some (.bool b'),some (.str (ls [c]))]:=λod' b' ho' hF=>by
   refine .inr (ih (i+1) _ od' b' _ e2 ho' ht (h.to _) λs4=>?_)
   refine rW RA.gh (rW (Nat.add_assoc ..) (rW (Nat.add_comm 1 ..) (rV hF ?_)))
   exact hK s4
  rw [pT] at ho
  refine ⟨λz=>?_,λz=>?_⟩
  ·rw [ux,tY] at z
   rw [if_pos z] at ho
   refine ⟨λξ=>?_,λy=>absurd ho.1 (by refine rW (show Txt.contains "sSiIlLnNvVxX@." L=false from y) ?_;decide)⟩
   exact go od true ho.2 (by rw [mF,if_pos z])
  ·rw [ux,tY] at z
   rw [if_neg z] at ho
   clear hK;obtain ⟨-,o1,o2,o3⟩:=ho
   have any1:([Str.ofString ""==od,ls [c]==od].any id)=true:=by
    rcases o2 with rfl|rfl<;>simp
   have g:=go (ls [c]) b o3 (by rw [mF,if_neg z])
   have no:([Str.ofString ""==od,ls [c]==od].any id)=false->False:=λw=>by rw [any1] at w;cases w
   refine ⟨λy=>⟨_,rfl,λξ=>g,λw=>(no w).elim⟩,λy=>⟨λw=>⟨_,rfl,λξ=>g,λw=>(no w).elim⟩,λw=>?_⟩⟩
   rcases o1 with o1|o1
   ·exact absurd o1 y
   ·exact absurd (o1.symm.trans w) (by decide)
theorem je {L:Str}{m:List Nat}(h:Rd A i η)(e:A.t.drop i=m++tl)(ho:pT L "" m)(ht:NM tl)(q:Q (.tup [.str (mF ("",false) m).1, .bool (mF ("",false) m).2]) (A.to η (i+m.length))):ah G (n+2) (.ref ej) [.ref A.r, .str L] η Q E:=by
 refine spec X 22 rfl rfl rfl ?_
 exact jd m.length (xa X m i η "" false none e ho ht h λs4=>q)
end
noncomputable def NL.ord (t:NL):Bool:=t.is "sSlLqQiIjJ"
mutual
noncomputable def LI.so (od:Str):LI->LI
 | .pl p=> .pl (match p with
  | .num t o b c=> .num t (if t.ord=true then od else o) b c
  | .text t c=> .text t c
  | .dig t c=> .dig t c
  | .fS c=> .fS c)
 | .aI o c l=> .aI o c (l.so od)
 | .cnt t i=> .cnt t i
noncomputable def LL.so (od:Str):LL->LL
 | .nil=> .nil
 | .cons i r=> .cons (i.so od) (r.so od)
end
mutual
noncomputable def LI.wM (od:Str):LI->Prop
 | .pl p=>(match p with
  | .num t o _ _=>t.ord=true->o=""\/o=od
  | _=>True)
 | .aI _ _ l=>l.wM od
 | .cnt _ _=>False
noncomputable def LL.wM (od:Str):LL->Prop
 | .nil=>True
 | .cons i r=>i.wM od/\r.wM od
end
structure Er (G:Gc)(od:Str)(N:Nat)(l:LL):Prop where
 of:∀{n:Nat} {η:Hm} {E:Prop} {Q:V->Hm->Prop},l.wM od->l.cst<2^19->Q (.lst (l.so od).v) η->ah G (n+N) (.ref cp) [.lst l.v, .str od] η Q E
noncomputable def Cj (G:Gc)(od:Str)(N:Nat):LI->Prop
 | .aI _ _ l=>Er G od N l
 | _=>True
section
variable {G:Gc}(X:GX G){n:Nat}{η:Hm}{E:Prop}{Q:V->Hm->Prop}{od:Str}
omit X in
theorem Cj.up {N M:Nat}{j:LI}(h:Cj G od N j)(hm:N<=M):Cj G od M j:=by
 cases j with
 | aI o c l=>
  refine ⟨λ{n} {η} {E} {Q} a b c=>?_⟩
  have:=(show Er G od N l from h).of (n:=n+(M-N)) (E:=E) (Q:=Q) a b c
  rw [show n+(M-N)+N=n+M by exact qA (Nat.sub_add_cancel hm)] at this
  exact this
 | pl=>trivial
 | cnt=>trivial
include X
omit X in
theorem LI.lM (j:LI):1<=j.cst:=by
 cases j with
 | pl p=>exact (by decide:1<=64)
 | aI o c l=>exact Nat.le_add_right 1 _
 | cnt t i=>exact Nat.le_trans (by decide:1<=100) (Nat.le_add_right _ _)
theorem xw (ho:od≠""){N:Nat}{l:LL}(h:l.all (Cj G od N)):Er G od (N+1) l:=⟨λ{n} {η} {E} {Q} hk hc q=>by
 refine spec X 23 rfl rfl rfl ?_
 refine ⟨λz=>absurd z ho,λξ a ha=>?_⟩
 have loop:∀(r:LL) (acc:List V) s3 s4 s5 s6 s7,r.all (Cj G od N)->r.wM od->acc.length+r.cst<2^19->acc++(r.so od).v=(l.so od).v->
   forL G (n+N) E Q (fO.sl.tl 2) [3,4,5,6,7] true r.v (upd η a (.list acc)) [some (.lst l.v),some (.str od),some (.ref a),s3,s4,s5,s6,s7]:=by
  intro r
  induction r using LL.rec (motive_1:=λξ=>True) with
  | pl|aI|cnt=>trivial
  | nil=>
   intro acc s3 s4 s5 s6 s7 _ _ _ e
   have e:acc++ []=(l.so od).v:=e
   rw [List.append_nil] at e
   refine .inl ⟨_,ag,?_⟩
   refine rW (bJ ha) (rW e ?_);exact q
  | cons j r _ ih=>
   intro acc s3 s4 s5 s6 s7 hA hO hl e
   have hl':acc.length+(j.cst+r.cst)<2^19:=hl
   have hj:=j.lM
   have e':acc++((j.so od).v none::(r.so od).v)=(l.so od).v:=e
   have fin':∀W s3 s4 s5 s6 s7,W=(j.so od).v none->(∃l',upd η a (.list acc) a=some (.list l')/\l'.length<=sizeLine/\forL G (n+N) E Q (fO.sl.tl 2) [3,4,5,6,7] true r.v (upd (upd η a (.list acc)) a (.list (l'++ [W]))) [some (.lst l.v),some (.str od),some (.ref a),s3,s4,s5,s6,s7]):=by
    rintro W s3 s4 s5 s6 s7 rfl
    refine ⟨_,ag,sz (by exact lA hl),?_⟩
    refine rW ak ?_
    refine ih _ _ _ _ _ _ hA.2 hO.2 (by refine rW List.length_append (rW List.length_singleton ?_);exact lB hl' hj) ?_
    refine rV e' (rW (List.append_assoc ..) ?_);rfl
   have keep:∀{L:Str} {b:Bool} {c:Int} {o:Str},Txt.contains "(/" L=false->Txt.contains "sSlLqQiIjJ" L=false->cS L o b c .none=(j.so od).v none->
     aQ G (n+N) ((fO.sl.tl 2).hd.body) E (upd η a (.list acc)) [some (.lst l.v),some (.str od),some (.ref a),some (.str L),some (.str o),some (.bool b),some (.int c),some .none] ⟨λη ρ=>forL G (n+N) E Q (fO.sl.tl 2) [3,4,5,6,7] true r.v η ρ,λξ ξ=>False,λξ ξ=>False,λξ ξ=>False⟩:=λh1 h2 hv=>by
    refine ⟨λz=>absurd (h1.symm.trans z) (by decide),λξ=>⟨λz=>absurd (h2.symm.trans z) (by decide),λξ=>⟨_,ag,fin' _ _ _ _ _ _ hv⟩⟩⟩
   clear e' hj e hl ih q hk h ho;cases j with
   | cnt=>exact hO.1.elim
   | aI o c l2=>
    refine ⟨λξ=>?_,λz=>absurd z (by decide+kernel)⟩
    have hl2:1+7*(1+l2.cst)+r.cst+acc.length<2^19:=by
     have:acc.length+(1+7*(1+l2.cst)+r.cst)<2^19:=hl'
     exact lA this
    refine (show Er G od N l2 from hA.1).of (n:=n) hO.1 (by exact lA hl2) ?_
    exact ⟨_,ag,fin' _ _ _ _ _ _ rfl⟩
   | pl p=>
    cases p with
    | text t c=>exact keep (by cases t<;>decide+kernel) (by cases t<;>decide+kernel) rfl
    | dig t c=>exact keep (by cases t<;>decide+kernel) (by cases t<;>decide+kernel) rfl
    | fS c=>exact keep (by decide+kernel) (by decide+kernel) rfl
    | num t o b c=>
     have ht:Txt.contains "(/" t.str=false:=by cases t<;>decide+kernel
     refine ⟨λz=>absurd (ht.symm.trans z) (by decide),λξ=>⟨λz=>?_,λz=>?_⟩⟩
     ·have hz:t.ord=true:=z
      have hO1:=hO.1 hz
      have no:([Str.ofString ""==o,od==o].any id)=false->False:=λw=>by rcases hO1 with rfl|rfl<;>simp at w
      refine ⟨_,rfl,λξ=>⟨_,ag,fin' _ _ _ _ _ _ ?_⟩,λw=>(no w).elim⟩
      refine (?_:cS t.str od b c.i .none=cS t.str (if t.ord=true then od else o) b c.i .none)
      exact rW (if_pos hz) rfl
     ·have hz:t.ord=false:=z
      refine ⟨_,ag,fin' _ _ _ _ _ _ ?_⟩
      refine (?_:cS t.str o b c.i .none=cS t.str (if t.ord=true then od else o) b c.i .none)
      refine rW hz ?_;rfl
 exact loop l [] none none none none none h hk (by simpa using hc) rfl⟩
mutual
theorem G0 (ho:od≠""):(j:LI)->Cj G od (j.ht+1) j
 | .pl _=>trivial
 | .aI _ _ l=>by
  have:=xw X ho (Fu ho l)
  rw [show l.ht+1+1=(1+l.ht)+1 by exact Nat.add_comm _ _] at this
  exact this
 | .cnt _ _=>trivial
theorem Fu (ho:od≠""):(l:LL)->l.all (Cj G od (l.ht+1))
 | .nil=>trivial
 | .cons j r=>⟨(G0 ho j).up (Nat.succ_le_succ (Nat.le_max_left _ _)),LL.aq (λξ h=>h.up (Nat.succ_le_succ (Nat.le_max_right _ _))) r (Fu ho r)⟩
end
theorem qi {l:LL}(ho:od≠"")(hk:l.wM od)(hc:l.cst<2^19)(q:Q (.lst (l.so od).v) η):ah G (n+(l.ht+2)) (.ref cp) [.lst l.v, .str od] η Q E:=(xw X ho (Fu X ho l)).of (n:=n) hk hc q
theorem oL {l:V}(q:Q l η):ah G (n+1) (.ref cp) [l, .str ""] η Q E:=by
 refine spec X 23 rfl rfl rfl ?_
 exact tT rfl q
end
noncomputable def NL.ch:NL->Nat
 | .c=>99| .C=>67| .s=>115| .S=>83| .l=>108| .L=>76| .q=>113| .Q=>81| .i=>105| .I=>73| .j=>106| .J=>74| .n=>110| .N=>78| .v=>118| .V=>86
noncomputable def TL.ch:TL->Nat
 | .a=>97| .A=>65| .Z=>90
noncomputable def DL.ch:DL->Nat
 | .b=>98| .B=>66| .h=>104| .H=>72
noncomputable def PI.ch:PI->Nat
 | .num t _ _ _=>t.ch
 | .text t _=>t.ch
 | .dig t _=>t.ch
 | .fS _=>120
noncomputable def PI.o:PI->Str
 | .num _ o _ _=>o
 | _=>""
noncomputable def PI.b':PI->Bool
 | .num _ _ b _=>b
 | _=>false
noncomputable def PI.c:PI->bB
 | .num _ _ _ c=>c
 | .text _ c=>c
 | .dig _ c=>c
 | .fS c=>c
noncomputable def xy (c:Nat):Bool:= !pw c&& !gX c&& !jC c&& !(c==42)&& !(c==91)&& !(c==41)&& !(c==47)
noncomputable def Ay:List Nat:= [99,67,115,83,108,76,113,81,105,73,106,74,110,78,118,86,97,65,90,98,66,104,72,120]
theorem mS:∀c∈Ay,ls [c]≠"("/\Txt.contains "cCsSlLqQiIjJnNvVwUaAZbBhHuxX@." (ls [c])=true/\xy c=true/\c∈kI:=by decide+kernel
theorem NL.ij (t:NL):t.ch∈Ay:=by cases t<;>decide+kernel
theorem NL.dR (t:NL):t.str=ls [t.ch]:=by cases t<;>decide+kernel
theorem PI.ij (p:PI):p.ch∈Ay:=by
 cases p with
 | num t o b c=>exact t.ij
 | text t c=>exact (show t.ch∈Ay by cases t<;>decide+kernel)
 | dig t c=>exact (show t.ch∈Ay by cases t<;>decide+kernel)
 | fS c=>exact (show 120∈Ay by decide+kernel)
theorem PI.v_eq (p:PI):p.v none=cS (ls [p.ch]) p.o p.b' p.c.i .none:=by
 cases p with
 | num t o b c=>exact congrArg (λs=>cS s o b c.i .none) t.dR
 | text t c=>exact congrArg (λs=>cS s "" false c.i .none) (show t.str=ls [t.ch] by cases t<;>decide+kernel)
 | dig t c=>exact congrArg (λs=>cS s "" false c.i .none) (show t.str=ls [t.ch] by cases t<;>decide+kernel)
 | fS c=>exact congrArg (λs=>cS s "" false c.i .none) (show Str.ofString "x"=ls [120] by decide+kernel)
set_option genCtorIdx false in
mutual
inductive PT where
 | pl (p:PI) (m ct:List Nat)
 | aI (o:Str) (c:bB) (m ct:List Nat) (l:PL)
 | cnt (t:NL) (b:List Nat) (i:PT)
inductive PL where
 | nil
 | cons (b:List Nat) (i:PT) (r:PL)
end
mutual
noncomputable def PT.txt:PT->List Nat
 | .pl p m ct=>p.ch::(m++ct)
 | .aI _ _ m ct l=>40::(l.txt++41::(m++ct))
 | .cnt t b i=>t.ch::47::(32::b++i.txt)
noncomputable def PL.txt:PL->List Nat
 | .nil=> []
 | .cons b i r=>b++(i.txt++r.txt)
end
mutual
noncomputable def PT.it:PT->LI
 | .pl p _ _=> .pl p
 | .aI o c _ _ l=> .aI o c (if o="" then l.it else l.it.so o)
 | .cnt t _ i=> .cnt t i.it
noncomputable def PL.it:PL->LL
 | .nil=> .nil
 | .cons _ i r=> .cons i.it r.it
end
noncomputable def PT.ic:PT->Bool
 | .cnt _ _ _=>true
 | _=>false
mutual
noncomputable def PT.ok:PT->Prop
 | .pl p m ct=>pT (ls [p.ch]) "" m/\mF ("",false) m=(p.o,p.b')/\cT p.c ct/\(∀c,p= .fS c->c.i≠ -1)
 | .aI o c m ct l=>pT "(" "" m/\mF ("",false) m=(o,false)/\cT c ct/\l.ok/\(o≠""->l.it.wM o)/\l.it.cst<2^19
 | .cnt _ b i=>b∈sL/\i.ok/\i.ic=false/\(∀c m ct,i≠ .pl (.fS c) m ct)
noncomputable def PL.ok:PL->Prop
 | .nil=>True
 | .cons b i r=>b∈sL/\i.ok/\r.ok
end
mutual
noncomputable def PT.rn:PT->Nat
 | .pl _ _ _=>5
 | .aI _ _ _ _ l=>l.rn+3
 | .cnt _ _ i=>i.rn+1
noncomputable def PL.rn:PL->Nat
 | .nil=>5
 | .cons _ i r=>max i.rn r.rn
end
mutual
noncomputable def PT.dp:PT->Nat
 | .pl _ _ _=>0
 | .aI _ _ _ _ l=>l.dp+1
 | .cnt _ _ i=>i.dp
noncomputable def PL.dp:PL->Nat
 | .nil=>0
 | .cons _ i r=>max i.dp r.dp
end
mutual
theorem LI.ma (o:Str):(j:LI)->(j.so o).ht=j.ht
 | .pl _=>rfl
 | .aI _ _ l=>congrArg (1+·) (LL.ma o l)
 | .cnt _ _=>rfl
theorem LL.ma (o:Str):(l:LL)->(l.so o).ht=l.ht
 | .nil=>rfl
 | .cons j r=>by
  refine (?_:max (j.so o).ht (r.so o).ht=max j.ht r.ht)
  exact rW (LI.ma o j) (rW (LL.ma o r) rfl)
end
mutual
theorem PT.mE:(p:PT)->p.it.ht+5<=p.rn
 | .pl _ _ _=>Nat.le_refl _
 | .aI o c m ct l=>by
  have h:=PL.mE l
  have e:(if o="" then l.it else l.it.so o).ht=l.it.ht:=by
   split
   ·rfl
   ·exact LL.ma _ l.it
  refine (?_:1+(if o="" then l.it else l.it.so o).ht+5<=l.rn+3)
  refine rW e ?_;exact lA h
 | .cnt t b i=>by
  have h:=PT.mE i
  refine (?_:1+i.it.ht+5<=i.rn+1)
  exact lA h
theorem PL.mE:(l:PL)->l.it.ht+5<=l.rn
 | .nil=>Nat.le_refl _
 | .cons b i r=>by
  have h:=PT.mE i
  have h2:=PL.mE r
  refine (?_:max i.it.ht r.it.ht+5<=max i.rn r.rn)
  exact rV (Nat.add_max_add_right _ _ 5) (Nat.max_le.mpr ⟨Nat.le_trans h (Nat.le_max_left _ _),Nat.le_trans h2 (Nat.le_max_right _ _)⟩)
end
structure qZ (G:Gc)(N:Nat)(p:PT):Prop where
 of:∀{n:Nat} {η:Hm} {E:Prop} {Q:V->Hm->Prop} {A:RA} {i d:Nat} {tl:List Nat},p.ok->p.ic=false->Rd A i η->A.t.drop i=p.txt++tl->Fw tl->d+p.dp<=19->Q (p.it.v none) (A.to η (i+p.txt.length))->ah G (n+N) (.ref eK) [.ref A.r, .int d] η Q E
structure Gu (G:Gc)(N:Nat)(l:PL):Prop where
 of:∀{n:Nat} {η:Hm} {E:Prop} {Q:V->Hm->Prop} {A:RA} {i d:Nat} {tl:List Nat},l.ok->Rd A i η->A.t.drop i=l.txt++tl->(d=0/\tl= []\/0<d/\∃r,tl=41::r)->d+l.dp<=19->Q (.lst l.it.v) (A.to η (i+l.txt.length+if d=0 then 0 else 1))->ah G (n+N) (.ref df) [.ref A.r, .int d] η Q E
noncomputable def z6 (G:Gc)(N:Nat):PT->Prop
 | .cnt _ _ i=>qZ G N i
 | p=>qZ G N p
noncomputable def PL.all (P:PT->Prop):PL->Prop
 | .nil=>True
 | .cons _ i r=>P i/\r.all P
theorem PL.aq {P P':PT->Prop}(h:∀j,P j->P' j):∀l:PL,l.all P->l.all P'
 | .nil,_=>trivial
 | .cons _ j r,q=>⟨h j q.1,PL.aq h r q.2⟩
theorem wH:Str.ofString "("=ls [40]:=by decide+kernel
theorem tM:Str.ofString ")"=ls [41]:=by decide+kernel
theorem qo:Str.ofString "/"=ls [47]:=by decide+kernel
section
variable {G:Gc}(X:GX G){n:Nat}{η:Hm}{E:Prop}{Q:V->Hm->Prop}{A:RA}{i d:Nat}{tl:List Nat}
omit X in
theorem qZ.up {N M:Nat}{p:PT}(h:qZ G N p)(hm:N<=M):qZ G M p:=⟨λ{n} {η} {E} {Q} {A} {i} {d} {tl} a b c e f g k=>by
 have:=h.of (n:=n+(M-N)) (E:=E) (Q:=Q) (d:=d) a b c e f g k
 rw [show n+(M-N)+N=n+M by exact qA (Nat.sub_add_cancel hm)] at this
 exact this⟩
omit X in
theorem qJ {c:bB}{ct:List Nat}(hc:cT c ct)(h:Fw tl):NM (ct++tl):=by
 intro x r e
 cases c with
 | au=>
  obtain rfl:ct= []:=hc
  exact (h x r e).2.1
 | star=>
  obtain rfl:ct= [42]:=hc
  cases e;decide
 | num k=>
  obtain ⟨hk,rfl|rfl⟩:=hc
  ·cases e
   have:∀k∈List.range 10,jC (48+k)=false:=by decide
   exact this k (List.mem_range.mpr hk)
  ·cases e;decide
omit X in
theorem bB.BO {c:bB}(h:c.i= -1):c= .star:=by
 cases c with
 | au=>cases h
 | star=>rfl
 | num k=>exact absurd (show (k:Int)= -1 from h) (by simp+arith)
include X
theorem Al (p:PI)(m ct:List Nat):qZ G 5 (.pl p m ct):=⟨λ{n} {η} {E} {Q} {A} {i} {d} {tl} hk ξ h e ht hd q=>by
 clear hd;obtain ⟨hm,hF,hc,hn⟩:=hk
 obtain ⟨c1,c2,c3,c4⟩:=mS _ p.ij
 have e:A.t.drop i=p.ch::(m++(ct++tl)):=by refine rW e ?_;refine (?_:p.ch::((m++ct)++tl)=_);exact rW (List.append_assoc ..) rfl
 obtain ⟨-,e1,e2⟩:=dq e
 refine spec X 24 rfl rfl rfl ?_
 refine ⟨ba X h,bL X h e ⟨_,fh X h,?_⟩⟩
 refine fJ X h (j:=i+1) ?_
 have h1:=h.to (i+1)
 refine tF c1 ⟨λξ=>?_,λz=>absurd (c2.symm.trans z) (by decide)⟩
 refine je X (n:=n+2) h1 e1 hm (qJ hc ht) ?_
 refine rW RA.gh (rW hF ?_)
 have h2:=h.to (i+1+m.length)
 refine iM X (n:=n) h2 hc (cW e1) ht ?_
 refine rW RA.gh ?_
 have q':Q (cS (ls [p.ch]) p.o p.b' p.c.i .none) (A.to η (i+1+m.length+ct.length)):=by
  rw [<-p.v_eq,show i+1+m.length+ct.length=i+(PT.pl p m ct).txt.length by refine (?_:_=i+(p.ch::(m++ct)).length);refine rW List.length_cons (rW List.length_append ?_);simp+arith]
  exact q
 refine ⟨λz=>⟨λw=>?_,λξ=>tF c1 q'⟩,λξ=>tF c1 q'⟩
 have hx:p.ch=120:=by
  have:∀c∈Ay,Txt.contains "xX@" (ls [c])=true->c=120:=by decide+kernel
  exact this _ p.ij w
 cases p with
 | fS c=>exact absurd z (hn c rfl)
 | num t o b c=>exact absurd hx (show t.ch≠120 by cases t<;>decide)
 | text t c=>exact absurd hx (show t.ch≠120 by cases t<;>decide)
 | dig t c=>exact absurd hx (show t.ch≠120 by cases t<;>decide)⟩
theorem Bl {o:Str}{c:bB}{m ct:List Nat}{l:PL}{N:Nat}(hN:l.it.ht+2<=N+4)(H:Gu G (N+4) l):qZ G (N+5) (.aI o c m ct l):=⟨λ{n} {η} {E} {Q} {A} {i} {d} {tl} hk ξ h e ht hd q=>by
 obtain ⟨hm,hF,hc,hl,ho,hcst⟩:=hk
 have e:A.t.drop i=40::(l.txt++41::(m++(ct++tl))):=by refine rW e ?_;refine (?_:40::((l.txt++41::(m++ct))++tl)=_);exact rW (List.append_assoc ..) (rW List.cons_append (rW (List.append_assoc ..) rfl))
 obtain ⟨-,e1,e2⟩:=dq e
 have hd:d+(l.dp+1)<=19:=hd
 refine spec X 24 rfl rfl rfl ?_
 refine ⟨ba X h,bL X h e ⟨_,fh X h,?_⟩⟩
 refine fJ X h (j:=i+1) ?_
 have h1:=h.to (i+1)
 refine tT wH.symm (tF (by lia) ?_)
 refine H.of (n:=n) (d:=d+1) hl h1 e1 (.inr ⟨Nat.succ_pos d,_,rfl⟩) (by exact lA hd) ?_
 refine rW RA.gh (rW (if_neg (Nat.succ_ne_zero d)) ?_)
 have h2:=h.to (i+1+l.txt.length+1)
 have e3:A.t.drop (i+1+l.txt.length+1)=m++(ct++tl):=(dq (cW e1)).2.1
 refine rV wH ?_
 refine je X (n:=n+N+2) h2 e3 hm (qJ hc ht) ?_
 refine rW RA.gh (rW hF ?_)
 have h3:=h.to (i+1+l.txt.length+1+m.length)
 refine iM X (n:=n+N) h3 hc (cW e3) ht ?_
 refine rW RA.gh ?_
 have q':Q (cS "(" "" false c.i (.lst (if o="" then l.it else l.it.so o).v)) (A.to η (i+1+l.txt.length+1+m.length+ct.length)):=by
  refine rW (show i+1+l.txt.length+1+m.length+ct.length=i+(PT.aI o c m ct l).txt.length by refine (?_:_=i+(40::(l.txt++41::(m++ct))).length);simp only [List.length_cons,List.length_append];simp+arith) ?_
  exact q
 have fin':ah G (n+(N+4)) (.ref cp) [.lst l.it.v, .str o] (A.to η (i+1+l.txt.length+1+m.length+ct.length)) (λY η=>Q (cS "(" "" false c.i Y) η) E:=by
  by_cases z:o=""
  ·rw [if_pos z] at q'
   refine rW z ?_
   exact oL X (n:=n+N+3) q'
  ·rw [if_neg z] at q'
   refine ah.up (qi X (n:=0) z (ho z) hcst q') (by exact ot ‹_› (by simp+arith only))
 have no:Txt.contains "xX@" (Str.ofString "(")=false:=by decide+kernel
 exact ⟨λz=>⟨λw=>absurd (no.symm.trans w) (by decide),λξ=>tT rfl fin'⟩,λξ=>tT rfl fin'⟩⟩
end
theorem PT.hd:(p:PT)->∃c r,p.txt=c::r/\xy c=true
 | .pl p m ct=>⟨_,_,rfl,(mS _ p.ij).2.2.1⟩
 | .aI o c m ct l=>⟨_,_,rfl,by decide⟩
 | .cnt t b i=>⟨_,_,rfl,(mS _ t.ij).2.2.1⟩
theorem ue {c:Nat}(h:xy c=true):pw c=false/\gX c=false/\jC c=false/\c≠42/\c≠91/\c≠41/\c≠47:=by
 unfold xy at h
 simpa [and_assoc] using h
theorem NB.of {c:Nat}{r:List Nat}(h:xy c=true):NB (c::r):=λξ ξ e=>by cases e;exact (ue h).1
section
variable {G:Gc}(X:GX G){n:Nat}{η:Hm}{E:Prop}{Q:V->Hm->Prop}{A:RA}{i d:Nat}{tl:List Nat}
include X
theorem la {t:NL}{b:List Nat}{p:PT}{N:Nat}(H:qZ G (N+5) p)(hk:(PT.cnt t b p).ok)(h:Rd A i η)(e:A.t.drop i=47::(32::b++(p.txt++tl)))(ht:Fw tl)(hd:d+p.dp<=19)
  (q:Q ((PT.cnt t b p).it.v none) (A.to η (i+1+(b.length+1)+p.txt.length))):ah G (n+(N+5)+1) (.ref c5) [.ref A.r, .int d,cS t.str "" false (-2) .none] η Q E:=by
 obtain ⟨hb,hp,hic,hx⟩:=hk
 obtain ⟨x,r,ex,hx1⟩:=p.hd
 refine spec X 26 rfl rfl rfl ?_
 obtain ⟨-,e1, -⟩:=dq e
 refine ⟨_,fh X h,?_⟩
 refine fJ X h (j:=i+1) ?_
 have h1:=h.to (i+1)
 have t1:Txt.contains (Str.ofString "("++Str.ofString "xX@.") t.str=false:=by clear q;cases t<;>decide+kernel
 have t2:Txt.contains (Str.ofString "0123456789"++Str.ofString "*[") (ls [32])=false:=by decide+kernel
 refine ⟨by decide+kernel,λz=>absurd (t1.symm.trans z) (by decide),λξ=>⟨ba X h1,bL X h1 e1 ⟨λz=>absurd z jz,λξ=>⟨ba X h1,bL X h1 e1 ⟨by decide+kernel,λz=>absurd (t2.symm.trans z) (by decide),λξ=>?_⟩⟩⟩⟩⟩
 have e1':A.t.drop (i+1)=(32::b)++(p.txt++tl):=e1
 have hnb:NB (p.txt++tl):=by refine rW ex ?_;exact NB.of hx1
 refine g9 X (n:=n+N+2) h1 e1' (vz.of hb).sp hnb ?_
 refine rW RA.gh ?_
 have h2:=h.to (i+1+(32::b).length)
 have e2:=cW e1'
 have e2':=e2
 rw [ex,List.cons_append] at e2'
 have no:([Str.ofString ""==ls [x],Str.ofString ")"==ls [x]].any id)=true->False:=λw=>by
  have a:(Str.ofString ""==ls [x])=false:=by rw [beq_eq_false_iff_ne];exact λz=>jz z.symm
  have b:(Str.ofString ")"==ls [x])=false:=by rw [beq_eq_false_iff_ne,tM];exact λz=>(ue hx1).2.2.2.2.2.1 (tY.mp z).symm
  simp [a,b] at w
 refine ⟨ba X h2,bL X h2 e2' ⟨_,rfl,λw=>(no w).elim,λξ=>?_⟩⟩
 refine H.of (n:=n) hp hic h2 e2 ht hd ?_
 refine rW RA.gh ?_
 have q':Q (cS "/" "" false (-2) (.lst [cS t.str "" false (-2) .none,p.it.v none])) (A.to η (i+1+(32::b).length+p.txt.length)):=q
 clear e2 hnb e1' e1 ex hp q hd e H;cases p with
 | cnt=>cases hic
 | aI o c m ct l=>exact ⟨λz=>absurd z (by decide+kernel),λξ=>q'⟩
 | pl p m ct=>
  have hm:∀L,(p.v none=cS L p.o p.b' p.c.i .none)->Txt.contains "xX@." L=false->aQ G (n+(N+5)) (iS.sl.tl 6) E (A.to η (i+1+(32::b).length+(PT.pl p m ct).txt.length)) [some (.ref A.r),some (.int d),some (cS t.str "" false (-2) .none),some (p.v none)] (fin Q):=λL hL h2=>by
   have q2:Q (cS "/" "" false (-2) (.lst [cS t.str "" false (-2) .none,p.v none])) (A.to η (i+1+(32::b).length+(PT.pl p m ct).txt.length)):=q'
   rw [hL] at q2 ⊢
   exact ⟨λz=>absurd (h2.symm.trans z) (by decide),λξ=>q2⟩
  refine hm _ p.v_eq ?_
  have:∀c∈Ay,c≠120->Txt.contains "xX@." (ls [c])=false:=by decide+kernel
  refine this _ p.ij λz=>?_
  cases p with
  | fS c=>exact hx c m ct rfl
  | num t o b c=>exact absurd z (show t.ch≠120 by cases t<;>decide)
  | text t c=>exact absurd z (show t.ch≠120 by cases t<;>decide)
  | dig t c=>exact absurd z (show t.ch≠120 by cases t<;>decide)
end
noncomputable def PI.ctorIdx (x:PI):Nat:=PI.casesOn x (λξ ξ ξ ξ=>0) (λξ ξ=>1) (λξ ξ=>2) λξ=>3
noncomputable def PL.hb:PL->List Nat
 | .nil=> []
 | .cons b _ _=>b
noncomputable def PL.nt:PL->List Nat
 | .nil=> []
 | .cons _ i r=>i.txt++r.txt
noncomputable def PL.len:PL->Nat
 | .nil=>0
 | .cons _ _ r=>r.len+1
theorem PL.lQ (l:PL):l.txt=l.hb++l.nt:=by cases l<;>rfl
theorem PL.xA {l:PL}(h:l.ok):vz l.hb:=by
 cases l with
 | nil=>exact vz.of List.mem_cons_self
 | cons b i r=>exact vz.of h.1
noncomputable def En (d:Nat)(tl:List Nat):Prop:=d=0/\tl= []\/0<d/\∃r,tl=41::r
theorem wV {l:PL}{d:Nat}{tl:List Nat}(h:En d tl):(l.nt++tl= [])\/∃c r,l.nt++tl=c::r/\pw c=false/\gX c=false/\jC c=false/\c≠42/\c≠91/\c≠47:=by
 cases l with
 | nil=>
  rcases h with ⟨-,rfl⟩|⟨-,r,rfl⟩
  ·exact .inl rfl
  ·exact .inr ⟨41,r,rfl,by decide⟩
 | cons b i r=>
  obtain ⟨c,s,e,hc⟩:=i.hd
  obtain ⟨a1,a2,a3,a4,a5,a6,a7⟩:=ue hc
  refine .inr ⟨c,s++r.txt++tl,?_,a1,a2,a3,a4,a5,a7⟩
  refine (?_:(i.txt++r.txt)++tl=_)
  refine rW e ?_;rfl
theorem tV {l:PL}{d:Nat}{tl:List Nat}(h:En d tl):NB (l.nt++tl):=λc r e=>by
 rcases wV (l:=l) h with h|⟨c',r',h,a1, -⟩
 ·rw [h] at e;cases e
 ·rw [h] at e;clear h;cases e;exact a1
theorem vN {l:PL}(hk:l.ok){d:Nat}{tl:List Nat}(h:En d tl):Fw (l.txt++tl):=λc r e=>by
 rw [l.lQ,List.append_assoc] at e
 have hb:∀b∈sL,∀c∈b,gX c=false/\jC c=false/\c≠42/\c≠91:=by decide
 cases hl:l.hb with
 | nil=>
  rw [hl,List.nil_append] at e
  rcases wV (l:=l) h with h|⟨c',r',h,a1,a2,a3,a4,a5,a6⟩
  ·rw [h] at e;cases e
  ·rw [h] at e;clear a6 a1 h;cases e;exact ⟨a2,a3,a4,a5⟩
 | cons x s=>
  have hm:l.hb∈sL:=by
   clear e;cases l with
   | nil=>cases hl
   | cons b i r=>exact hk.1
  rw [hl] at e hm
  cases e
  exact hb _ hm _ List.mem_cons_self
theorem g8 {A:RA}{η:Hm}{i j:Nat}{a:Addr}{x:AO}(h:a≠A.dx):A.to (upd (A.to η i) a x) j=upd (A.to η j) a x:=by
 funext b;unfold RA.to upd
 by_cases q:b=A.dx
 ·subst q;exact rW (if_pos rfl) (rW (if_neg (Ne.symm h)) (rW (if_pos rfl) rfl))
 ·refine rW (if_neg q) ?_
  by_cases q':b=a
  ·subst q';exact rW (if_pos rfl) (rW (if_pos rfl) rfl)
  ·exact rW (if_neg q') (rW (if_neg q') (rW (if_neg q) (rW (if_neg q) rfl)))
theorem Rd.upd {A:RA}{η:Hm}{i:Nat}{a:Addr}{x:AO}(h:Rd A i η)(ha:η a=none):Rd A i (upd η a x):=⟨gP h.p ha,gP h.d ha,h.l,h.al⟩
theorem z6.up {G:Gc}{N M:Nat}{p:PT}(h:z6 G N p)(hm:N<=M):z6 G M p:=by
 cases p with
 | pl p m ct=>exact qZ.up (p:= .pl p m ct) h hm
 | aI o c m ct l=>exact qZ.up (p:= .aI o c m ct l) h hm
 | cnt t b i=>exact qZ.up (p:=i) h hm
mutual
theorem LI.kg (o:Str):(j:LI)->(j.so o).cst=j.cst
 | .pl _=>rfl
 | .aI _ _ l=>congrArg (λx=>1+7*(1+x)) (LL.kg o l)
 | .cnt _ _=>rfl
theorem LL.kg (o:Str):(l:LL)->(l.so o).cst=l.cst
 | .nil=>rfl
 | .cons j r=>by
  refine (?_:(j.so o).cst+(r.so o).cst=j.cst+r.cst)
  exact rW (LI.kg o j) (rW (LL.kg o r) rfl)
end
theorem PL.pq:(l:PL)->l.len<=l.it.cst
 | .nil=>Nat.le_refl _
 | .cons b i r=>by
  have:=PL.pq r
  have:=i.it.lM
  refine (?_:r.len+1<=i.it.cst+r.it.cst)
  exact vD ‹_› ‹_› (by simp+arith only)
noncomputable abbrev Cp (G:Gc)(n:Nat)(E:Prop):Hm->Ro->(Bool->Hm->Prop)->Prop:=λη ρ Q=>(wp G n (d8.sl.tl 2).hd.cond).2 E η ρ Q
noncomputable abbrev Cq (G:Gc)(n:Nat)(E:Prop):Hm->Ro->Kp->Prop:=λη ρ K=>aQ G n (d8.sl.tl 2).hd.body E η ρ K
section
variable {G:Gc}(X:GX G){n:Nat}{η:Hm}{E:Prop}{Q:V->Hm->Prop}{A:RA}{i d:Nat}{tl:List Nat}{a:Addr}
include X
theorem zf {l:PL}(h:Rd A i η)(he:En d tl)(e:A.t.drop i=l.nt++tl)(q:∀s:List Nat,ls s≠Str.ofString "/"->ls s≠Str.ofString ","->Q (.str (ls s)) η):ah G (n+1) (.ref ae) [.ref A.r] η Q E:=by
 rcases wV (l:=l) he with z|⟨c,r,z,a1,a2,a3,a4,a5,a6⟩
 ·exact ed X h (e.trans z) (q [] (by decide+kernel) (by decide+kernel))
 ·refine bL X h (e.trans z) (q [c] (λw=>?_) λw=>?_)
  ·rw [qo,tY] at w;exact a6 w
  ·rw [qT,tY] at w
   exact (AB c (h.al c (dq (e.trans z)).1)).2.2.2 w
theorem xq {K:Kp}{N:Nat}(h0:Rd A 0 (A.to η 0))(ha:η a=none)(hne:a≠A.dx)(he:En d tl):∀(r:PL) (i:Nat) (acc:List V) (s3:Option V),r.all (z6 G (N+5))->r.ok->d+r.dp<=19->acc.length+r.len<2^19->A.t.drop i=r.nt++tl->(∀s3,K.nx (upd (A.to η (i+r.nt.length)) a (.list (acc++r.it.v))) [some (.ref A.r),some (.int d),some (.ref a),s3])->
  fy (Cp G (n+(N+6)) E) (Cq G (n+(N+6)) E) K (m6 (Cp G (n+(N+6)) E) (Cq G (n+(N+6)) E) K r.len) (upd (A.to η i) a (.list acc)) [some (.ref A.r),some (.int d),some (.ref a),s3]:=by
 have han:∀i,(A.to η i) a=none:=λi=>by unfold RA.to;refine rW (af hne) ?_;exact ha
 have hR:∀i l,Rd A i (upd (A.to η i) a (.list l)):=λi l=>Rd.upd (by have:=h0.to i;rw [RA.gh] at this;exact this) (han i)
 intro r
 induction r using PL.rec (motive_1:=λξ=>True) with
 | pl|aI|cnt=>trivial
 | nil=>
  intro i acc s3 _ _ _ _ e hK
  have hK:∀s3,K.nx (upd (A.to η (i+0)) a (.list (acc++ []))) [some (.ref A.r),some (.int d),some (.ref a),s3]:=hK
  rw [Nat.add_zero,List.append_nil] at hK
  rcases he with ⟨-,rfl⟩|⟨-,r,rfl⟩
  ·refine ⟨ba X (hR i acc),ed X (hR i acc) e ⟨_,rfl,λξ=>hK s3,λz=>absurd z (by decide+kernel)⟩⟩
  ·refine ⟨ba X (hR i acc),bL X (hR i acc) e ⟨_,rfl,λξ=>hK s3,λz=>absurd z (by decide+kernel)⟩⟩
 | cons b p r _ ih=>
  intro i acc s3 hA hok hd hl e hK
  obtain ⟨c,s,ec,hc⟩:=p.hd
  have hd':d+max p.dp r.dp<=19:=hd
  have hl':acc.length+(r.len+1)<2^19:=hl
  have e':A.t.drop i=p.txt++(r.txt++tl):=by refine rW e ?_;refine (?_:(p.txt++r.txt)++tl=_);exact rW (List.append_assoc ..) rfl
  have e1:=e'
  rw [ec,List.cons_append] at e1
  have no:([Str.ofString ""==ls [c],Str.ofString ")"==ls [c]].any id)=true->False:=λw=>by
   have a:(Str.ofString ""==ls [c])=false:=by rw [beq_eq_false_iff_ne];exact λz=>jz z.symm
   have b:(Str.ofString ")"==ls [c])=false:=by rw [beq_eq_false_iff_ne,tM];exact λz=>(ue hc).2.2.2.2.2.1 (tY.mp z).symm
   simp [a,b] at w
  have ef:A.t.drop (i+p.txt.length)=r.txt++tl:=cW e'
  have eg:A.t.drop (i+p.txt.length)=r.hb++(r.nt++tl):=by exact rW ef (rW r.lQ (rW (List.append_assoc ..) rfl))
  have fin':∀s3,aQ G (n+(N+6)) ((d8.sl.tl 2).hd.body.tl 4) E (upd (A.to η (i+p.txt.length+r.hb.length)) a (.list acc)) [some (.ref A.r),some (.int d),some (.ref a),some (p.it.v none)] ⟨λη ρ=>m6 (Cp G (n+(N+6)) E) (Cq G (n+(N+6)) E) K (r.len+1) η ρ,K.nx,λη ρ=>m6 (Cp G (n+(N+6)) E) (Cq G (n+(N+6)) E) K (r.len+1) η ρ,s3⟩:=by
   intro s3
   refine ⟨_,ag,_,ag,sz (by exact lA hl), .inr ?_⟩
   refine rW ak ?_
   refine ih (i+p.txt.length+r.hb.length) _ _ hA.2 hok.2.2 (by exact lB hd' (Nat.le_max_right p.dp r.dp)) (by refine rW List.length_append (rW List.length_singleton ?_);exact lA hl') (cW eg) λs3=>?_
   have:=hK s3
   rw [show i+(PL.cons b p r).nt.length=i+p.txt.length+r.hb.length+r.nt.length by refine (?_:i+(p.txt++r.txt).length=_);refine rW r.lQ ?_;simp only [List.length_append];simp+arith] at this
   refine rW (List.append_assoc ..) ?_
   exact this
  refine ⟨ba X (hR i acc),bL X (hR i acc) e1 ⟨_,rfl,λw=>(no w).elim,λξ=>?_⟩⟩
  have plain:qZ G (N+5) p->p.ic=false->(aQ G (n+(N+6)) (d8.sl.tl 2).hd.body E (upd (A.to η i) a (.list acc)) [some (.ref A.r),some (.int d),some (.ref a),s3] ⟨λη ρ=>m6 (Cp G (n+(N+6)) E) (Cq G (n+(N+6)) E) K (r.len+1) η ρ,K.nx,λη ρ=>m6 (Cp G (n+(N+6)) E) (Cq G (n+(N+6)) E) K (r.len+1) η ρ,K.rt⟩):=λH hic=>by
   refine (H.up (show N+5<=N+6 by exact Nat.le_succ _)).of (n:=n) hok.2.1 hic (hR i acc) e' (vN hok.2.2 he) (by exact lB hd' (Nat.le_max_left p.dp r.dp)) ?_
   refine rW (g8 hne) ?_
   refine ⟨pg X (hR _ acc),ju X (n:=n+N+4) (hR _ acc) eg (PL.xA hok.2.2) (tV he) ?_⟩
   refine rW (g8 hne) ?_
   refine ⟨ba X (hR _ acc),zf X (hR _ acc) he (cW eg) λs h1 h2=>tF h1 ?_⟩
   refine g9 X (n:=n+N+3) (b:= []) (hR _ acc) (cW eg) (vz.of List.mem_cons_self) (tV he) ?_
   rw [g8 hne,List.length_nil,Nat.add_zero]
   exact fin' _
  clear ef ec hK e hl hd;cases p with
  | pl p m ct=>exact plain hA.1 rfl
  | aI o c m ct l=>exact plain hA.1 rfl
  | cnt t b2 p2=>
   have hp2:qZ G (N+5) p2:=hA.1
   have ek:A.t.drop i=(PT.pl (.num t "" false .au) [] []).txt++(47::(32::b2++(p2.txt++(r.txt++tl)))):=by
    refine rW e' ?_
    refine (?_:t.ch::47::(32::b2++p2.txt)++(r.txt++tl)=_)
    simp only [List.cons_append,List.append_assoc]
    rfl
   have el:A.t.drop (i+1)=47::(32::b2++(p2.txt++(r.txt++tl))):=(dq ek).2.1
   refine ((Al X (.num t "" false .au) [] []).up (show 5<=N+6 by exact Nat.le_add_left _ _)).of (n:=n) ⟨trivial,rfl,rfl,λc h=>nomatch h⟩ rfl (hR i acc) ek (λc r e=>by cases e;decide) (by refine (?_:d+0<=19);exact Em ‹_›) ?_
   refine rW (g8 hne) ?_
   refine ⟨pg X (hR _ acc),ju X (n:=n+N+4) (b:= []) (hR _ acc) el (vz.of List.mem_cons_self) (λc r e=>by cases e;decide) ?_⟩
   refine rW (g8 hne) ?_
   refine ⟨ba X (hR _ acc),bL X (hR _ acc) el (tT qo.symm ?_)⟩
   refine la X (n:=n) (tl:=r.txt++tl) hp2 hok.2.1 (hR _ acc) el (vN hok.2.2 he) (by refine (?_:d+p2.dp<=19);have:d+max p2.dp r.dp<=19:=hd';exact lB this (Nat.le_max_left p2.dp r.dp)) ?_
   refine rW (g8 hne) ?_
   have en:i+(PT.cnt t b2 p2).txt.length=i+1+1+(b2.length+1)+p2.txt.length:=by
    refine (?_:i+(t.ch::47::(32::b2++p2.txt)).length=_)
    simp only [List.length_cons,List.length_append];simp+arith
   rw [en] at eg fin'
   refine g9 X (n:=n+N+3) (b:=r.hb) (hR _ acc) eg (PL.xA hok.2.2) (tV he) ?_
   refine rW (g8 hne) ?_
   exact fin' _
theorem wz {N:Nat}{l:PL}(H:l.all (z6 G (N+5)))(hlen:l.len<2^18):Gu G (N+7) l:=⟨λ{n} {η} {E} {Q} {A} {i} {d} {tl} hok h e he hd q=>by
 refine spec X 27 rfl rfl rfl ?_
 intro a ha
 have hne:a≠A.dx:=by rintro rfl;rw [h.d] at ha;cases ha
 have e1:A.t.drop i=l.hb++(l.nt++tl):=by exact rW e (rW l.lQ (rW (List.append_assoc ..) rfl))
 have h0:Rd A 0 (A.to η 0):=h.to 0
 refine g9 X (n:=n+N+3) (h.upd ha) e1 (PL.xA hok) (tV he) ?_
 refine rV h.same (rW (g8 hne) ?_)
 have han:∀i,(A.to η i) a=none:=λi=>by unfold RA.to;refine rW (af hne) ?_;exact ha
 refine jd l.len (xq X h0 ha hne he l _ [] none H hok hd (by simpa using Nat.lt_of_lt_of_le hlen (by decide)) (cW e1) λs3=>?_)
 have hl:i+l.hb.length+l.nt.length=i+l.txt.length:=by refine rW l.lQ (rW List.length_append ?_);exact Nat.add_assoc _ _ _
 refine rW hl (rW (List.nil_append ..) ?_)
 have hr:Rd A (i+l.txt.length) (upd (A.to η (i+l.txt.length)) a (.list l.it.v)):=Rd.upd (h.to _) (han _)
 have e2:A.t.drop (i+l.txt.length)=tl:=cW e
 clear e1 hd e;rcases he with ⟨rfl,rfl⟩|⟨hd0,r,rfl⟩
 ·refine ⟨ba X hr,ed X hr e2 ⟨λξ=>tF (by decide) (.inl ⟨_,ag,?_⟩),λz=>absurd z (by decide+kernel)⟩⟩
  refine rW (bJ (han _)) ?_
  exact q
 ·have hd1:decide ((0:Int)<(d:Int))=true:=decide_eq_true (by exact Int.ofNat_lt.mpr (by assumption))
  refine ⟨ba X hr,bL X hr e2 ⟨λξ=>tT (show (0:Int)<(d:Int) by exact Int.ofNat_lt.mpr (by assumption)) ?_,λz=>?_⟩⟩
  ·refine ⟨_,fh X hr,?_⟩
   refine fJ X hr (j:=i+l.txt.length+1) ?_
   refine rW (g8 hne) ?_
   refine .inl ⟨_,ag,?_⟩
   refine rW (bJ (han _)) ?_
   rw [if_neg (by exact Nat.ne_of_gt (by assumption))] at q
   exact q
  ·have z:(decide (ls [41]=Str.ofString ")")==decide ((0:Int)<(d:Int)))=false:=z
   rw [hd1] at z
   exact absurd z (by decide+kernel)⟩
mutual
theorem F8:(p:PT)->(p.it.cst<2^18)->z6 G p.rn p
 | .pl p m ct,_=>Al X p m ct
 | .aI o c m ct l,h=>by
  have e:(if o="" then l.it else l.it.so o).cst=l.it.cst:=by
   split
   ·rfl
   ·exact LL.kg _ l.it
  have h:1+7*(1+(if o="" then l.it else l.it.so o).cst)<2^18:=h
  rw [e] at h
  have hA:=EH l (by exact lA h)
  have h5:=PL.mE l
  obtain ⟨N,hN⟩:∃N,l.rn=N+5:=⟨l.rn-5,(Nat.sub_add_cancel (lA h5)).symm⟩
  rw [hN] at hA h5
  have:=Bl X (o:=o) (c:=c) (m:=m) (ct:=ct) (N:=N+3) (by exact lA h5) (wz X hA (Nat.lt_of_le_of_lt (PL.pq l) (by exact lA h)))
  refine (?_:qZ G (l.rn+3) _)
  refine rW hN ?_
  exact qZ.up this (Nat.le_refl _)
 | .cnt t b i,h=>by
  have h:100+i.it.cst<2^18:=h
  have:=F8 i (by exact Cd ‹_›)
  clear h;cases i with
  | cnt t2 b2 i2=>exact ⟨λξ h=>nomatch h⟩
  | pl p m ct=>exact qZ.up (N:=(PT.pl p m ct).rn) this (Nat.le_succ _)
  | aI o c m ct l=>exact qZ.up (N:=(PT.aI o c m ct l).rn) this (Nat.le_succ _)
theorem EH:(l:PL)->(l.it.cst<2^18)->l.all (z6 G l.rn)
 | .nil,_=>trivial
 | .cons b i r,h=>by
  have h:i.it.cst+r.it.cst<2^18:=h
  exact ⟨z6.up (F8 i (by exact sR ‹_›)) (Nat.le_max_left _ _),PL.aq (λξ h=>z6.up h (Nat.le_max_right _ _)) r (EH r (by exact Cd ‹_›))⟩
end
end
theorem D0:∀b∈sL,∀c∈b,c∈kI\/c=97:=by decide+kernel
theorem D1 {b:List Nat}(h:b∈sL):∀c∈b,c∈kI:=λc hc=>(D0 b h c hc).elim id λe=>by subst e;decide+kernel
theorem DZ {L:Str}:∀{m:List Nat} {od:Str},pT L od m->∀c∈m,c∈kI:=by
 intro L_
 induction L_ with
 | nil=>
  intro _ _ _ h
  exact nomatch h
 | cons x m ih=>
  intro od h c hc
  rw [pT] at h
  have hx:x∈kI/\∃od',pT L od' m:=by
   by_cases z:x=33
   ·rw [if_pos z] at h;subst z;exact ⟨by decide+kernel,_,h.2⟩
   ·rw [if_neg z] at h
    refine ⟨?_,_,h.2.2.2⟩
    have:=h.1
    unfold jC at this
    simp only [Bool.or_eq_true,beq_iff_eq] at this
    clear z hc h;rcases this with (rfl|rfl)|rfl<;>decide+kernel
  clear h;rcases List.mem_cons.mp hc with rfl|hc
  ·exact hx.1
  ·obtain ⟨od',ho⟩:=hx.2
   exact ih ho c hc
theorem AD {k:bB}{ct:List Nat}(h:cT k ct):∀c∈ct,c∈kI:=λc hc=>by
 cases k with
 | au=>obtain rfl:ct= []:=h;cases hc
 | star=>obtain rfl:ct= [42]:=h;rw [List.mem_singleton] at hc;subst hc;decide+kernel
 | num k=>
  obtain ⟨hk,rfl|rfl⟩:=h
  ·rw [List.mem_singleton] at hc;subst hc;exact (j5 k (List.mem_range.mpr hk)).2.1
  ·simp only [List.mem_cons,List.not_mem_nil,or_false] at hc
   rcases hc with rfl|rfl|rfl
   ·decide+kernel
   ·exact (j5 k (List.mem_range.mpr hk)).2.1
   ·decide+kernel
mutual
theorem PT.al:(p:PT)->p.ok->∀c∈p.txt,c∈kI
 | .pl p m ct,h,c,hc=>by
  rcases List.mem_cons.mp hc with rfl|hc
  ·exact (mS _ p.ij).2.2.2
  ·rcases List.mem_append.mp hc with hc|hc
   ·exact DZ h.1 c hc
   ·exact AD h.2.2.1 c hc
 | .aI o k m ct l,h,c,hc=>by
  rcases List.mem_cons.mp hc with rfl|hc
  ·decide+kernel
  ·rcases List.mem_append.mp hc with hc|hc
   ·exact PL.al l h.2.2.2.1 c hc
   ·rcases List.mem_cons.mp hc with rfl|hc
    ·decide+kernel
    ·rcases List.mem_append.mp hc with hc|hc
     ·exact DZ h.1 c hc
     ·exact AD h.2.2.1 c hc
 | .cnt t b i,h,c,hc=>by
  rcases List.mem_cons.mp hc with rfl|hc
  ·exact (mS _ t.ij).2.2.2
  ·rcases List.mem_cons.mp hc with rfl|hc
   ·decide+kernel
   ·rcases List.mem_append.mp hc with hc|hc
    ·rcases List.mem_cons.mp hc with rfl|hc
     ·decide+kernel
     ·exact D1 h.1 c hc
    ·exact PT.al i h.2.1 c hc
theorem PL.al:(l:PL)->l.ok->∀c∈l.txt,c∈kI
 | .nil,_,_,hc=>nomatch hc
 | .cons b i r,h,c,hc=>by
  rcases List.mem_append.mp hc with hc|hc
  ·exact D1 h.1 c hc
  ·rcases List.mem_append.mp hc with hc|hc
   ·exact PT.al i h.2.1 c hc
   ·exact PL.al r h.2.2 c hc
end
section
variable {G:Gc}(X:GX G){n:Nat}{η:Hm}{E:Prop}{Q:V->Hm->Prop}
include X
theorem vW {l:PL}(hk:l.ok)(hc:l.it.cst<2^18)(hd:l.dp<=19)(hl:l.txt.length<2^20)(hr:l.rn<=40)(q:Q (.lst l.it.v) η):ah G (n+50) (.ref aF) [.str (ls l.txt)] η Q E:=by
 refine ah.drop (spec X 28 rfl rfl rfl ?_)
 obtain ⟨m1,m2,m3⟩:=X.EU (aa,aP) (by simp)
 refine ik (n:=n+48) m1 m2 m3 λx dx hx hd2 hne=>?_
 refine spec X (n:=n+47) 16 rfl rfl rfl ?_
 have am:∀nm,kY.contains (aa,nm)=true->(aa,nm)∈G.dP:=λnm=>bl X
 refine cu (C:=aa) (dx:=dx) (ks:= []) (vs:= []) (ks':= ["text"]) (vs':= [.str (ls l.txt)]) ag (by exact rW (af (Ne.symm hne)) (rW ag rfl)) (am _ (by decide+kernel)) (by decide) (by kernel_rfl) ?_
 refine cu (C:=aa) (dx:=dx) (ks':=rK) (vs':= [.str (ls l.txt), .int (0:Nat)]) (by exact rW (af hne) (rW ag rfl)) ag (am _ (by decide+kernel)) (by decide) (by kernel_rfl) ?_
 refine rW ak ?_
 have h:Rd ⟨x,dx,l.txt⟩ 0 (upd (upd (upd η dx (.aZ [] [])) x (.inst aa dx)) dx (.aZ rK [.str (ls l.txt), .int (0:Nat)])):=⟨by exact rW (af hne) (rW ag rfl),ag,hl,PL.al l hk⟩
 obtain ⟨N,hN⟩:∃N,l.rn=N+5:=⟨l.rn-5,(Nat.sub_add_cancel (lA (PL.mE l))).symm⟩
 have hA:=EH X l hc
 rw [hN] at hA
 refine ⟨rfl,?_⟩
 refine ah.up ((wz X hA (Nat.lt_of_le_of_lt (PL.pq l) hc)).of (n:=0) (d:=0) (tl:= []) hk h (by refine rW (List.append_nil ..) ?_;rfl) (.inl ⟨rfl,rfl⟩) (by exact Cc ‹_› (by rfl)) ⟨η,?_,q⟩) (by exact lB hr (eR hN))
 intro b y hb
 have h1:b≠dx:=by rintro rfl;rw [hd2] at hb;cases hb
 have h2:b≠x:=by rintro rfl;rw [hx] at hb;cases hb
 unfold RA.to
 refine rW (af h1) (rW (af h1) (rW (af h2) (rW (af h1) ?_)))
 exact hb
end
structure UA where
 p:Addr
 dx:Addr
 f:Addr
 st:Addr
 d:List Int
structure US where
 i:Nat
 fd:List V
 st:List Int
 k:Nat
noncomputable def Ck:List Str:= ["data","at","found","starts","limits","steps"]
noncomputable def CO (A:UA)(s:US):List V:= [.lst (A.d.map .int), .int s.i, .ref A.f, .ref A.st,gI, .int s.k]
structure Uk (A:UA)(s:US)(η:Hm):Prop where
 p:η A.p=some (.inst aH A.dx)
 d:η A.dx=some (.aZ Ck (CO A s))
 f:η A.f=some (.list s.fd)
 st:η A.st=some (.list (s.st.map .int))
 fs:A.f≠A.st
 ld:A.d.length<=24
 ok:∀x∈A.d,0<=x/\x<=255
noncomputable def UA.off (A:UA)(a:Addr):Prop:=A.p≠a/\A.dx≠a/\A.f≠a/\A.st≠a
theorem Uk.off {A:UA}{s:US}{η:Hm}{a:Addr}(h:Uk A s η)(ha:η a=none):A.off a:=
 ⟨λe=>(by rw [<-e,h.p] at ha;cases ha),λe=>(by rw [<-e,h.d] at ha;cases ha),λe=>(by rw [<-e,h.f] at ha;cases ha),λe=>(by rw [<-e,h.st] at ha;cases ha)⟩
theorem Uk.Ez {A:UA}{s:US}{η:Hm}{a:Addr}{x:AO}(h:Uk A s η)(o:A.off a):Uk A s (Mine.upd η a x):=
 ⟨by refine rW (af o.1) ?_;exact h.p,by refine rW (af o.2.1) ?_;exact h.d,by refine rW (af o.2.2.1) ?_;exact h.f,by refine rW (af o.2.2.2) ?_;exact h.st,h.fs,h.ld,h.ok⟩
theorem lL {η:Hm}{a b:Addr}(h:b≠a):era η a b=η b:=by unfold era;exact rW (if_neg h) rfl
theorem Uk.DI {A:UA}{s:US}{η:Hm}{a:Addr}(h:Uk A s η)(o:A.off a):Uk A s (era η a):=
 ⟨by refine rW (lL o.1) ?_;exact h.p,by refine rW (lL o.2.1) ?_;exact h.d,by refine rW (lL o.2.2.1) ?_;exact h.f,by refine rW (lL o.2.2.2) ?_;exact h.st,h.fs,h.ld,h.ok⟩
section
variable {G:Gc}(X:GX G){n:Nat}{η:Hm}{E:Prop}{Q:V->Hm->Prop}{A:UA}{i:Nat}{fd:List V}{st:List Int}{k:Nat}
theorem Uk.aZ {s:US}(h:Uk A s η):eI η (.ref A.p)=some (aH,Ck,CO A s):=pD h.p h.d
theorem Uk.lf (h:Uk A ⟨i,fd,st,k⟩ η):η A.f=some (.list fd):=h.f
theorem Uk.ls (h:Uk A ⟨i,fd,st,k⟩ η):η A.st=some (.list (st.map .int)):=h.st
theorem Uk.sF (h:Uk A ⟨i,fd,st,k⟩ η)(l:List V):Uk A ⟨i,l,st,k⟩ (upd η A.f (.list l)):=
 ⟨by refine rW (af (fU h.p h.f (by simp))) ?_;exact h.p,by refine rW (af (fU h.d h.f (by simp))) ?_;exact h.d,ag,by refine rW (af (Ne.symm h.fs)) ?_;exact h.st,h.fs,h.ld,h.ok⟩
theorem Uk.sS (h:Uk A ⟨i,fd,st,k⟩ η)(l:List Int):Uk A ⟨i,fd,l,k⟩ (upd η A.st (.list (l.map .int))):=
 ⟨by refine rW (af (fU h.p h.st (by simp))) ?_;exact h.p,by refine rW (af (fU h.d h.st (by simp))) ?_;exact h.d,by refine rW (af h.fs) ?_;exact h.f,ag,h.fs,h.ld,h.ok⟩
theorem Uk.sD (h:Uk A ⟨i,fd,st,k⟩ η)(i' k':Nat):Uk A ⟨i',fd,st,k'⟩ (upd η A.dx (.aZ Ck (CO A ⟨i',fd,st,k'⟩))):=
 ⟨by refine rW (af (fU h.p h.d (by simp))) ?_;exact h.p,ag,by refine rW (af (fU h.f h.d (by simp))) ?_;exact h.f,by refine rW (af (fU h.st h.d (by simp))) ?_;exact h.st,h.fs,h.ld,h.ok⟩
theorem Uk.upd {s:US}{a:Addr}{x:AO}(h:Uk A s η)(ha:η a=none):Uk A s (upd η a x):=⟨gP h.p ha,gP h.d ha,gP h.f ha,gP h.st ha,h.fs,h.ld,h.ok⟩
include X
theorem lz {s:US}(h:Uk A s η):eu G.dP (.ref A.p) "data" η=some (.lst (A.d.map .int)):=cn h.aZ (bl X (by decide+kernel)) (by kernel_rfl) rfl
theorem lP (h:Uk A ⟨i,fd,st,k⟩ η):eu G.dP (.ref A.p) "at" η=some (.int i):=cn h.aZ (bl X (by decide+kernel)) (by kernel_rfl) rfl
theorem eU {s:US}(h:Uk A s η):eu G.dP (.ref A.p) "found" η=some (.ref A.f):=cn h.aZ (bl X (by decide+kernel)) (by kernel_rfl) rfl
theorem nO {s:US}(h:Uk A s η):eu G.dP (.ref A.p) "starts" η=some (.ref A.st):=cn h.aZ (bl X (by decide+kernel)) (by kernel_rfl) rfl
theorem i4 {s:US}(h:Uk A s η):eu G.dP (.ref A.p) "limits" η=some gI:=cn h.aZ (bl X (by decide+kernel)) (by kernel_rfl) rfl
theorem p0 (h:Uk A ⟨i,fd,st,k⟩ η):eu G.dP (.ref A.p) "steps" η=some (.int k):=cn h.aZ (bl X (by decide+kernel)) (by kernel_rfl) rfl
theorem uQ:eu G.dP gI "items" η=some (.int 10000):=cn rfl (bl X (by decide+kernel)) (by kernel_rfl) rfl
theorem vL {j:Nat}{Q:Hm->Prop}(h:Uk A ⟨i,fd,st,k⟩ η)(q:∀η',Uk A ⟨j,fd,st,k⟩ η'->Q η'):jq G.dP (.ref A.p) "at" (.int j) η Q:=
 cu h.p h.d (bl X (by decide+kernel)) (by decide) (by kernel_rfl) (q _ (h.sD j k))
theorem yB {j:Nat}{Q:Hm->Prop}(h:Uk A ⟨i,fd,st,k⟩ η)(q:∀η',Uk A ⟨i,fd,st,j⟩ η'->Q η'):jq G.dP (.ref A.p) "steps" (.int j) η Q:=
 cu h.p h.d (bl X (by decide+kernel)) (by decide) (by kernel_rfl) (q _ (h.sD i j))
theorem bY (h:Uk A ⟨i,fd,st,k⟩ η)(q:Q (.int (A.d.length-i:Int)) η):ah G (n+1) (.ref bg) [.ref A.p] η Q E:=by
 refine spec X 52 rfl rfl rfl ?_
 have hl:=h.ld
 refine ⟨_,lz X h,by refine rW (List.length_map ..) ?_;exact bt ‹_› (by rfl),_,lP X h,?_⟩
 refine rW (List.length_map ..) ?_;exact q
theorem eQ {v:V}(h:Uk A ⟨i,fd,st,k⟩ η)(hl:fd.length<10000)(q:∀η',Uk A ⟨i,fd++ [v],st,k⟩ η'->Q .none η'):ah G (n+1) (.ref bQ) [.ref A.p,v] η Q E:=by
 refine spec X 53 rfl rfl rfl ?_
 exact ⟨_,eU X h,_,h.lf,by exact fb ‹_› (by rfl),_,i4 X h,_,uQ X,tF (by lia) ⟨_,eU X h,_,h.lf,_,h.lf,sz (by exact fb ‹_› (by rfl)),q _ (h.sF _)⟩⟩
theorem bN (h:Uk A ⟨i,fd,st,k⟩ η)(hs:k<1000000)(q:∀η',Uk A ⟨i,fd,st,k+1⟩ η'->Q .none η'):ah G (n+1) (.ref cg) [.ref A.p] η Q E:=by
 refine spec X 54 rfl rfl rfl ?_
 refine ⟨_,p0 X h,?_⟩
 refine yB X h (j:=k+1) λη' h'=>?_
 exact ⟨_,p0 X h',_,i4 X h',_,n7 X,tF (Int.not_lt.mpr (Int.ofNat_le.mpr hs)) (q η' h')⟩
theorem lG {m:Nat}(h:Uk A ⟨i,fd,st,k⟩ η)(hm:i+m<=A.d.length)(q:∀a η',A.off a->η' a=some (.list (((A.d.drop i).take m).map .int))->Uk A ⟨i+m,fd,st,k⟩ η'->Q (.ref a) η'):ah G (n+1) (.ref bf) [.ref A.p, .int m] η Q E:=by
 refine spec X 56 rfl rfl rfl ?_
 have hl:=h.ld
 refine ⟨_,lz X h,_,lP X h,_,lP X h,sz (by refine rW (List.length_map ..) ?_;exact bt ‹_› (by rfl)),?_⟩
 refine (?_:eA true (nR (some (i:Int)) (some ((i+m:Nat):Int)) none (A.d.map V.int)) η _)
 refine rW (kh ..) (rW (Nat.add_sub_cancel_left ..) (rV List.map_drop (rV List.map_take ?_)))
 intro a ha
 have h1:=h.upd ha (x:= .list (((A.d.drop i).take m).map V.int))
 refine ⟨_,lP X h1,_,ag,by refine rW (List.length_map ..) (rW List.length_take (rW List.length_drop ?_));exact Nat.lt_of_le_of_lt (Nat.min_le_left _ _) (by exact lB hm hl),?_⟩
 rw [show (((A.d.drop i).take m).map V.int).length=m by refine rW (List.length_map ..) (rW List.length_take (rW List.length_drop ?_));exact Nat.min_eq_left (lB hm (sA A.d.length i))]
 refine cu (ks':=Ck) (vs':=CO A ⟨i+m,fd,st,k⟩) h1.p h1.d (bl X (by decide+kernel)) (by decide) (by kernel_rfl) ?_
 have o:=h.off ha
 exact q a _ o (by exact rW (af (Ne.symm o.2.1)) (rW ag rfl)) (h1.sD (i+m) k)
theorem lU {l:List Int}(ho:∀x∈l,0<=x/\x<=255)(hl:l.length<2^20)(q:Q (.str (du l)) η):ah G (n+1) (.ref dB) [.lst (l.map .int)] η Q E:=by
 refine spec X 57 rfl rfl rfl ?_
 exact pK ho hl (show 1<2 by decide) q
end
noncomputable def gN (c:bB)(most:Nat):Nat:=match c with
 | .au=>min 1 most
 | .num k=>min k most
 | .star=>most
theorem eB (c:bB)(m:Nat):gN c m<=m:=by
 cases c with
 | au=>exact Nat.min_le_right _ _
 | num k=>exact Nat.min_le_right _ _
 | star=>exact Nat.le_refl _
theorem y8 (c:bB){s:Int}{m:Nat}(h:s=m):(if c.i= -1 then s else min (if c.i= -2 then 1 else c.i) s)=gN c m:=by
 subst h
 cases c with
 | au=>
  exact Ek 1 m
 | star=>rfl
 | num k=>
  refine (?_:(if (k:Int)= -1 then (m:Int) else min (if (k:Int)= -2 then 1 else (k:Int)) m)=((min k m:Nat):Int))
  refine rW (if_neg (by simp+arith)) (rW (if_neg (by simp+arith)) ?_);omega
noncomputable def ym (x:Int):Bool:= [0,9,10,11,12,13,32].contains x
noncomputable def fF:List Int->List Int
 | []=> []
 | x::r=>if ym x=true then fF r else x::r
noncomputable def oB (l:List Int):List Int:=(fF l.reverse).reverse
noncomputable def yg (l:List Int):Option Nat:=(l.map λx=>x==0).findIdx? id
noncomputable def TL.rd (t:TL)(c:bB)(d:List Int)(i:Nat):V×Nat:=
 let m:=gN c (d.length-i)
 let l:=(d.drop i).take m
 match t with
 | .a=>(.str (du l),i+m)
 | .A=>(.str (du (oB l)),i+m)
 | .Z=>match yg l with
  | none=>(.str (du l),i+m)
  | some j=>(.str (du (l.take j)),if c.isStar=true then i+j+1 else i+m)
theorem fV (z:Int):∀l:List Int,((l.map V.int).mapM λy=>il y (.int z))=some (l.map λx=>x==z)
 | []=>rfl
 | x::l=>by
  refine rW List.map_cons (rW List.mapM_cons (rW (fV z l) ?_));rfl
theorem x8 {l:List V}{y:V}(h:l.length<2^40):jo (l++ [y]) (-1)=some y:=by
 have h1:(l++ [y]).length=l.length+1:=by simp
 unfold jo Cb
 refine rW (if_pos (by decide)) (rW h1 ?_)
 have:seqIndex? (-1) (l.length+1)=some l.length:=by
  unfold seqIndex?
  simp
  simp+arith
 refine rW this ?_
 simp
section
variable {G:Gc}(X:GX G){n:Nat}{η:Hm}{E:Prop}{Q:V->Hm->Prop}{A:UA}{i:Nat}{fd:List V}{st:List Int}{k:Nat}
include X
theorem oF {t o:Str}{b:Bool}{c:bB}{inner:V}{m:Nat}{s:Int}(hs:s=m)(q:Q (.int (gN c m)) η):ah G (n+1) (.ref bO) [cS t o b c.i inner, .int s] η Q E:=
 oE X rfl (by refine rW (y8 c hs) ?_;exact q)
theorem vU {K:Kp}{a:Addr}{s1:Option V}(ho:A.off a):∀(l:List Int) (η:Hm),l.length<2^20->η a=some (.list (l.reverse.map .int))->Uk A ⟨i,fd,st,k⟩ η->(∀η',η' a=some (.list ((fF l).reverse.map .int))->Uk A ⟨i,fd,st,k⟩ η'->K.nx η' [some (.ref A.p),s1,some (.ref a)])->
  fy (λη ρ Q=>(wp G n (.eJ true (.c (.q (.l 2) .NotEq (.lst false .n)) (.c (.q (.sub (.l 2) (.neg (.int 1))) .In (.fm 13)) .n)))).2 E η ρ Q) (λη ρ K=>aQ G n (.c (.expr (.mb .pop (.l 2) .n)) .n) E η ρ K) K
   (m6 (λη ρ Q=>(wp G n (.eJ true (.c (.q (.l 2) .NotEq (.lst false .n)) (.c (.q (.sub (.l 2) (.neg (.int 1))) .In (.fm 13)) .n)))).2 E η ρ Q) (λη ρ K=>aQ G n (.c (.expr (.mb .pop (.l 2) .n)) .n) E η ρ K) K l.length) η [some (.ref A.p),s1,some (.ref a)]:=by
 intro l
 induction l with
 | nil=>
  intro η hl h hU hK
  exact ⟨_,h,true,rfl,λξ=>hK η h hU,λz=>nomatch z⟩
 | cons x l ih=>
  intro η hl h hU hK
  rw [List.length_cons] at hl
  rw [List.reverse_cons,List.map_append,List.map_singleton] at h
  have hne:jA (l.reverse.map V.int++ [V.int x]) []=some false:=by
   unfold jA;exact rW (if_neg (by simp)) rfl
  refine ⟨_,h,false,hne,λz=>(nomatch z),λξ=>⟨_,h, .int x,x8 (by refine rW (List.length_map ..) (rW List.length_reverse ?_);exact lA hl),_,rfl,λz=>?_,λz=>?_⟩⟩
  ·have hb:ym x=true:=by
    have z:([(0:Int)==x,9==x,10==x,11==x,12==x,13==x,32==x].any id)=true:=z
    simp only [List.any_cons,List.any_nil,id,Bool.or_false,Bool.or_eq_true,beq_iff_eq] at z
    unfold ym
    simp only [List.contains_cons,List.contains_nil,Bool.or_false,Bool.or_eq_true,beq_iff_eq]
    simpa only [eq_comm] using z
   refine ⟨_,h,_,_,h,Nat.lt_of_lt_of_le (show (l.reverse.map V.int).length<2^20 by refine rW (List.length_map ..) (rW List.length_reverse ?_);exact Nat.le_of_lt (by assumption)) (by refine rW sizeLine_eq ?_;decide), .inr ?_⟩
   refine ih _ (by exact lA hl) ag (hU.Ez ho) λη' h' hU'=>hK η' ?_ hU'
   rw [fF,if_pos hb];exact h'
  ·have hb:ym x=false:=by
    have z:([(0:Int)==x,9==x,10==x,11==x,12==x,13==x,32==x].any id)=false:=z
    simp only [List.any_cons,List.any_nil,id,Bool.or_false,Bool.or_eq_false_iff,beq_eq_false_iff_ne,ne_eq] at z
    unfold ym
    simp only [List.contains_cons,List.contains_nil,Bool.or_false,Bool.or_eq_false_iff,beq_eq_false_iff_ne,ne_eq]
    refine ⟨?_,?_,?_,?_,?_,?_,?_⟩<;>lia
   refine hK η ?_ hU
   rw [fF,if_neg (by refine rW hb ?_;decide),List.reverse_cons,List.map_append];exact h
end
theorem rD:∀(l:List Int) (x:Int),x∈fF l->x∈l:=by
 intro L_
 induction L_ with
 | nil=>
  intro _ h
  exact h
 | cons y l ih=>
  intro x h
  rw [fF] at h
  split at h
  ·exact List.mem_cons_of_mem _ (ih x h)
  ·exact h
theorem rE:∀l:List Int,(fF l).length<=l.length:=by
 intro L_
 induction L_ with
 | nil=>
  exact Nat.le_refl _
 | cons y l ih=>
  rw [fF]
  split
  ·exact Nat.le_succ_of_le (ih)
  ·exact Nat.le_refl _
section
variable {G:Gc}(X:GX G){n:Nat}{η:Hm}{E:Prop}{Q:V->Hm->Prop}{A:UA}{i:Nat}{fd:List V}{st:List Int}{k:Nat}
include X
theorem lS {t:TL}{c:bB}(h:Uk A ⟨i,fd,st,k⟩ η)(hi:i<=A.d.length)(hf:fd.length<10000)
  (q:∀η',Uk A ⟨(t.rd c A.d i).2,fd++ [(t.rd c A.d i).1],st,k⟩ η'->Q .none η'):ah G (n+2) (.ref dz) [.ref A.p,cS t.str "" false c.i .none] η Q E:=by
 refine spec X 58 rfl rfl rfl ?_
 refine bY X h ?_
 refine oF X (m:=A.d.length-i) (by exact (Int.natCast_sub (by assumption)).symm) ?_
 have hm:=eB c (A.d.length-i)
 refine lG X h (by exact ot ‹_› (by exact lA (sC hi))) λa η1 ho hr h1=>?_
 unfold TL.rd at q
 dsimp only at q
 have hld:=h.ld
 have hlen:((A.d.drop i).take (gN c (A.d.length-i))).length=gN c (A.d.length-i):=by refine rW List.length_take (rW List.length_drop ?_);exact Nat.min_eq_left (lA hm)
 have hin:∀x∈(A.d.drop i).take (gN c (A.d.length-i)),0<=x/\x<=255:=λx hx=>h.ok x (List.mem_of_mem_drop (List.mem_of_mem_take hx))
 generalize (A.d.drop i).take (gN c (A.d.length-i))=l at q hr hlen hin
 generalize gN c (A.d.length-i)=m at q hlen hm h1
 have last:∀(l2:List Int) (η:Hm) (j:Nat) (a:Addr),A.off a->(∀x∈l2,0<=x/\x<=255)->l2.length<2^20->η a=some (.list (l2.map .int))->Uk A ⟨j,fd,st,k⟩ η->(∀η',Uk A ⟨j,fd++ [.str (du l2)],st,k⟩ η'->Q .none η')->
   aQ G (n+1) (gD.sl.tl 2) E η [some (.ref A.p),some (cS t.str "" false c.i .none),some (.ref a)] (fin Q):=λl2 η j a ho hin hl hr h q=>by
  refine .inl ⟨_,hr,?_⟩
  exact lU X hin hl (eQ X (h.DI ho) hf q)
 cases t with
 | a=>
  refine tF (by decide+kernel) (tF (by decide+kernel) ?_)
  exact last l η1 _ a ho hin (by exact lD hld (eL hlen) hm (Nat.sub_le A.d.length i)) hr h1 q
 | A=>
  refine tT rfl ?_
  refine jd l.reverse.length (vU X ho l.reverse η1 (by refine rW List.length_reverse ?_;exact lD hld (eL hlen) hm (Nat.sub_le A.d.length i)) (by refine rW (List.reverse_reverse ..) ?_;exact hr) h1 λη2 h2 h2'=>?_)
  exact last _ η2 _ a ho (λx hx=>hin x (List.mem_reverse.mp (rD _ _ (List.mem_reverse.mp hx)))) (by refine rW List.length_reverse ?_;have:=rE l.reverse;rw [List.length_reverse] at this;exact DX ‹_› (by exact lD hld (eL hlen) hm (Nat.sub_le A.d.length i))) h2 h2' q
 | Z=>
  refine tF (by decide+kernel) (tT rfl ⟨_,hr,_,fV 0 l,λz=>?_,λz=>?_⟩)
  ·cases e:yg l with
   | none=>
    have:=List.findIdx?_eq_none_iff.mp e
    obtain ⟨b,hb,hb2⟩:=List.any_eq_true.mp z
    have:=this b hb
    rw [hb2] at this;cases this
   | some j=>
    rw [e] at q
    dsimp only at q
    have hj:j<l.length:=by
     have:=(List.findIdx?_eq_some_iff_getElem.mp e).1
     rwa [List.length_map] at this
    have gk:∀(η:Hm) (j2:Nat),η a=some (.list (l.map .int))->Uk A ⟨j2,fd,st,k⟩ η->(∀η',Uk A ⟨j2,fd++ [.str (du (l.take j))],st,k⟩ η'->Q .none η')->
      wS G (n+1) (.a 2 (.gk true (.l 2) .au (.mb .index (.l 2) (.c (.int 0) .n)) .au)) E η [some (.ref A.p),some (cS "Z" "" false c.i .none),some (.ref a)] ⟨λη ρ=>aQ G (n+1) (gD.sl.tl 2) E η ρ (fin Q),λξ ξ=>False,λξ ξ=>False,Q⟩:=λη j2 hr h q=>by
     refine ⟨_,hr,_,hr,_,j,fV 0 l,e,by exact ka ‹_› (by exact lD hld (eL hlen) hm (Nat.sub_le A.d.length i)),_,hr,sz (by refine rW (List.length_map ..) ?_;exact lD hld (eL hlen) hm (Nat.sub_le A.d.length i)),?_⟩
     refine rW (iu ..) (rV List.map_take ?_)
     intro a2 ha2
     exact last (l.take j) _ j2 a2 (h.off ha2) (λx hx=>hin x (List.mem_of_mem_take hx)) (by refine rW List.length_take ?_;exact Nat.lt_of_le_of_lt (Nat.min_le_right _ _) (by lia)) ag (h.upd ha2) q
    refine ⟨λhs=>?_,λhs=>?_⟩
    ·have hcs:c.isStar=true:=by refine rW (bB.BO hs) ?_;rfl
     rw [if_pos hcs] at q
     refine ⟨_,lP X h1,_,hr,by refine rW (List.length_map ..) ?_;exact lD hld (eL hlen) hm (Nat.sub_le A.d.length i),_,hr,_,hr,_,j,fV 0 l,e,by exact lE hj hld (eL hlen) hm (Nat.sub_le A.d.length i),?_⟩
     refine rW (List.length_map ..) ?_
     have e3:((i+m:Nat):Int)-((l.length:Nat)-(j:Int)-1)=((i+j+1:Nat):Int):=by lia
     refine (?_:jq G.dP (.ref A.p) "at" (.int (((i+m:Nat):Int)-((l.length:Nat)-(j:Int)-1))) η1 _)
     refine rW e3 ?_
     have hne:A.dx≠a:=ho.2.1
     refine cu (ks':=Ck) (vs':=CO A ⟨i+j+1,fd,st,k⟩) h1.p h1.d (bl X (by decide+kernel)) (by decide) (by kernel_rfl) ?_
     exact gk _ (i+j+1) (by refine rW (af (Ne.symm hne)) ?_;exact hr) (h1.sD _ _) q
    ·have hcs:c.isStar=false:=by
      clear gk q last;cases c with
      | star=>exact absurd rfl hs
      | au=>rfl
      | num k=>rfl
     rw [if_neg (by refine rW hcs ?_;decide)] at q
     exact gk η1 (i+m) hr h1 q
  ·have e:yg l=none:=by
    unfold yg
    rw [List.findIdx?_eq_none_iff]
    intro b hb
    have:=List.any_eq_false.mp z b hb
    simpa using this
   rw [e] at q
   exact last l η1 _ a ho hin (by lia) hr h1 q
end
noncomputable def DL.rd (t:DL)(c:bB)(d:List Int)(i:Nat):V×Nat:=
 if Txt.contains "bB" t.str=true then
  let m:=gN c (8*(d.length-i))
  (.str (ls (iG ((d.drop i).take ((m+7)/8)) m (decide (t.str="B")))),i+(m+7)/8)
 else
  let m:=gN c (2*(d.length-i))
  (.str (ls (iz ((d.drop i).take ((m+1)/2)) m (decide (t.str="H")))),i+(m+1)/2)
noncomputable def cy (f:List Int->Int)(d:List Int)(w:Nat):Nat->Nat->List V
 | 0,_=> []
 | m+1,i=> .int (f ((d.drop i).take w))::cy f d w m (i+w)
theorem fu (f:List Int->Int)(d:List Int)(w:Nat):∀m i,(cy f d w m i).length=m
 | 0,_=>rfl
 | m+1,i=>congrArg (· +1) (fu f d w m (i+w))
section
variable {G:Gc}(X:GX G){n:Nat}{η:Hm}{E:Prop}{Q:V->Hm->Prop}{A:UA}{i:Nat}{fd:List V}{st:List Int}{k:Nat}
include X
theorem kc {t:DL}{c:bB}(h:Uk A ⟨i,fd,st,k⟩ η)(hi:i<=A.d.length)(hf:fd.length<10000)
  (q:∀η',Uk A ⟨(t.rd c A.d i).2,fd++ [(t.rd c A.d i).1],st,k⟩ η'->Q .none η'):ah G (n+2) (.ref cA) [.ref A.p,cS t.str "" false c.i .none] η Q E:=by
 refine spec X 59 rfl rfl rfl ?_
 unfold DL.rd at q
 have hld:=h.ld
 refine ⟨λz=>?_,λz=>?_⟩
 ·rw [if_pos z] at q
  dsimp only at q
  refine bY X h ⟨IntMulOk.of_left (by decide),?_⟩
  refine oF X (m:=8*(A.d.length-i)) (congrArg (HMul.hMul (8:Int)) (Int.natCast_sub hi).symm) ?_
  have hm:=eB c (8*(A.d.length-i))
  generalize gN c (8*(A.d.length-i))=m at q hm ⊢
  refine ⟨⟨by decide,cM (by decide)⟩,?_⟩
  refine (?_:ah G (n+1) (.ref bf) [.ref A.p, .int (((m:Int)+7).fdiv 8)] η _ E)
  refine rW (show ((m:Int)+7).fdiv 8=(((m+7)/8:Nat):Int) from gZ (m+7) 8) ?_
  refine lG X h (by exact Bo (lC hm (Nat.div_mul_le_self (m+7) 8) (Nat.mul_le_mul_left 8 (sC hi)))) λa η1 ho hr h1=>?_
  refine l9 X (.inr ⟨a,rfl,hr⟩) (by refine rW List.length_take (rW List.length_drop ?_);(refine rW Nat.min_def ?_;split<;>lia)) (lC hm (Nat.mul_le_mul_left 8 hld) (Nat.mul_le_mul_left 8 (Nat.sub_le A.d.length i))) ?_
  exact eQ X h1 hf q
 ·rw [if_neg (by refine rW (show Txt.contains (Str.ofString "bB") t.str=false from z) ?_;decide)] at q
  dsimp only at q
  refine bY X h ⟨IntMulOk.of_left (by decide),?_⟩
  refine oF X (m:=2*(A.d.length-i)) (congrArg (HMul.hMul (2:Int)) (Int.natCast_sub hi).symm) ?_
  have hm:=eB c (2*(A.d.length-i))
  generalize gN c (2*(A.d.length-i))=m at q hm ⊢
  refine ⟨⟨by decide,cM (by decide)⟩,?_⟩
  refine (?_:ah G (n+1) (.ref bf) [.ref A.p, .int (((m:Int)+1).fdiv 2)] η _ E)
  refine rW (show ((m:Int)+1).fdiv 2=(((m+1)/2:Nat):Int) from gZ (m+1) 2) ?_
  refine lG X h (by exact D5 (lC hm (Nat.div_mul_le_self (m+1) 2) (Nat.mul_le_mul_left 2 (sC hi)))) λa η1 ho hr h1=>?_
  refine jN X (.inr ⟨a,rfl,hr⟩) (by refine rW List.length_take (rW List.length_drop ?_);(refine rW Nat.min_def ?_;split<;>lia)) (lC hm (Nat.mul_le_mul_left 2 hld) (Nat.mul_le_mul_left 2 (Nat.sub_le A.d.length i))) ?_
  exact eQ X h1 hf q
noncomputable def NL.val (t:NL)(o:Str)(b:Bool)(row:List Int):Int:=wrap64 (numOf row (t.big o) (t.sgn b))
omit X in
theorem size_pos (t:NL)(b:Bool):1<=t.size b:=by cases t<;>cases b<;>decide+kernel
theorem k7 {t:NL}{o:Str}{b:Bool}{c:bB}{m:Nat}(h:Uk A ⟨i,fd,st,k⟩ η)(hi:i<=A.d.length)(hm:gN c ((A.d.length-i)/t.size b)=m)(hf:fd.length+m<=10000)(hs:k+m<=1000000)
  (q:∀η',Uk A ⟨i+t.size b*m,fd++cy (t.val o b) A.d (t.size b) m i,st,k+m⟩ η'->Q .none η'):ah G (n+2) (.ref cZ) [.ref A.p,cS t.str o b c.i .none] η Q E:=by
 refine spec X 60 rfl rfl rfl ?_
 have hw:=size_pos t b
 have hw8:=size_le t b
 have hld:=h.ld
 refine jj X ?_
 refine bY X h ⟨⟨by lia,cM (by exact bt ‹_› (by rfl))⟩,?_⟩
 have hml:t.size b*m<=A.d.length-i:=by
  have:=eB c ((A.d.length-i)/t.size b)
  rw [hm] at this
  calc t.size b*m<=t.size b*((A.d.length-i)/t.size b):=Nat.mul_le_mul_left _ this
   _<=A.d.length-i:=Nat.mul_div_le _ _
 refine oF X (m:=(A.d.length-i)/t.size b) (by exact rV (gZ ..) (rW (Int.ofNat_sub hi) rfl)) ?_
 refine rW hm ?_
 have hm24:m<=24:=by
  have:1*m<=t.size b*m:=Nat.mul_le_mul_right _ hw
  exact lD hld hml this (Nat.sub_le A.d.length i)
 refine ⟨_,aO (by exact bt ‹_› (by rfl)),?_⟩
 have loop:∀(is:List V) (i:Nat) (fd:List V) (k:Nat) (η:Hm) s8 s9 s10,i+t.size b*is.length<=A.d.length->fd.length+is.length<=10000->k+is.length<=1000000->Uk A ⟨i,fd,st,k⟩ η->
   (∀η',Uk A ⟨i+t.size b*is.length,fd++cy (t.val o b) A.d (t.size b) is.length i,st,k+is.length⟩ η'->Q .none η')->
   forL G (n+1) E Q (iQ.sl.tl 2) [8] false is η [some (.ref A.p),some (cS t.str o b c.i .none),some (.str t.str),some (.str o),some (.bool b),some (.int c.i),some .none,some (.int (t.size b)),s8,s9,s10]:=by
  intro is
  induction is with
  | nil=>
   intro i fd k η s8 s9 s10 _ _ _ h q
   refine q η ?_
   simp only [cy,List.length_nil,Nat.mul_zero,Nat.add_zero,List.append_nil]
   exact h
  | cons x is ih=>
   intro i fd k η s8 s9 s10 hl hf hs h q
   rw [List.length_cons] at hf hs
   rw [List.length_cons,Nat.mul_succ] at hl q
   have hl':i+t.size b<=A.d.length:=by exact lA hl
   refine bN X h (by exact sR ‹_›) λη1 h1=>?_
   refine lG X h1 hl' λa η2 ho hr h2=>?_
   refine .inl ⟨_,hr,?_⟩
   have h3:=h2.DI ho
   refine ir X ?_
   refine qk X ?_
   refine ke X (by refine rW List.length_take ?_;exact Nat.le_trans (Nat.min_le_left _ _) (by assumption)) ?_
   refine ⟨_,i4 X h3,_,kx X,?_⟩
   refine d6 X ?_
   refine eQ X h3 (by exact sR ‹_›) λη4 h4=>?_
   refine ih (i+t.size b) _ (k+1) η4 _ _ _ (by exact lA hl) (by refine rW List.length_append (rW List.length_singleton ?_);exact lA hf) (by exact lA hs) h4 λη' h'=>q η' ?_
   simp only [cy]
   refine rW (show i+(t.size b*is.length+t.size b)=i+t.size b+t.size b*is.length by simp+arith) (rW (show k+(is.length+1)=k+1+is.length by simp+arith) ?_)
   rw [List.append_assoc] at h'
   exact h'
 have hlen:((List.range m).map λ(k:Nat)=>V.int k).length=m:=by simp
 exact loop _ i fd k η none none none (by refine rW hlen ?_;exact ot ‹_› (by exact lA (sC hi))) (by refine rW hlen ?_;exact hf) (by refine rW hlen ?_;exact hs) h (by refine rW hlen ?_;exact q)
theorem lT {c:bB}(hc:c.i≠ -1)(h:Uk A ⟨i,fd,st,k⟩ η)(hi:i<=A.d.length)
  (q:(A.d.length<i+tm c 0->E)/\(i+tm c 0<=A.d.length->∀η',Uk A ⟨i+tm c 0,fd,st,k⟩ η'->Q .none η')):ah G (n+4) (.ref dA) [.ref A.p,cS "x" "" false c.i .none] η Q E:=by
 refine spec X 61 rfl rfl rfl ?_
 have hld:=h.ld
 have go:∀mI:Int,mI=(tm c 0:Nat)->aQ G (n+3) (jk.sl.tl 2) E η [some (.ref A.p),some (cS "x" "" false c.i .none),some (.str "x"),some (.str ""),some (.bool false),some (.int c.i),some .none,some (.int mI),none] (fin Q):=by
  rintro mI rfl
  refine tF (by decide+kernel) ⟨_,lP X h,?_⟩
  refine qd X ?_
  refine tF (by exact Int.not_lt.mpr (iB (Int.natCast_nonneg i) (Int.natCast_nonneg (tm c 0)))) ⟨_,lz X h,by refine rW (List.length_map ..) ?_;exact bt ‹_› (by rfl),λz=>?_,λz=>?_⟩
  ·rw [List.length_map] at z
   exact ⟨by decide+kernel,by decide+kernel,q.1 (by exact Int.ofNat_lt.mp (by assumption)),⟨_,rfl⟩,Nat.le_add_left _ _⟩
  ·rw [List.length_map] at z
   refine (?_:jq G.dP (.ref A.p) "at" (.int ((i:Int)+(tm c 0:Nat))) η _)
   refine rV (Int.natCast_add ..) ?_
   exact vL X h λη' h'=>q.2 (by lia) η' h'
 refine ⟨λz=>?_,λz=>?_⟩
 ·refine go 1 ?_
  clear go q hc;cases c with
  | au=>rfl
  | star=>cases z
  | num k=>exact absurd (show (k:Int)= -2 from z) (by simp+arith)
 ·refine go c.i ?_
  clear go q;cases c with
  | au=>exact absurd rfl z
  | star=>exact absurd rfl hc
  | num k=>rfl
end
noncomputable def PI.rd (d:List Int)(ov:Option Nat):PI->Nat->Option (List V×Nat)
 | .num t o b c,i=>some (cy (t.val o b) d (t.size b) (gN (c.ov ov) ((d.length-i)/t.size b)) i,i+t.size b*gN (c.ov ov) ((d.length-i)/t.size b))
 | .text t c,i=>some ([(t.rd (c.ov ov) d i).1],(t.rd (c.ov ov) d i).2)
 | .dig t c,i=>some ([(t.rd (c.ov ov) d i).1],(t.rd (c.ov ov) d i).2)
 | .fS c,i=>if d.length<i+tm (c.ov ov) 0 then none else some ([],i+tm (c.ov ov) 0)
noncomputable def gc (a:Option (List V×Nat))(f:Nat->Option (List V×Nat)):Option (List V×Nat):=match a with
 | none=>none
 | some p=>match f p.2 with
  | none=>none
  | some q=>some (p.1++q.1,q.2)
noncomputable def qt (f:Nat->Option (List V×Nat))(star:Bool)(len:Nat):Nat->Nat->Option (List V×Nat)
 | 0,i=>some ([],i)
 | k+1,i=>if star=true/\len-i=0 then some ([],i) else gc (f i) (qt f star len k)
mutual
noncomputable def LI.rd (d:List Int):LI->Option Nat->Nat->Option (List V×Nat)
 | .pl p,ov,i=>p.rd d ov i
 | .aI _ c l,ov,i=>qt (λi=>LL.rd d l i) (c.ov ov).isStar d.length (tm (c.ov ov) d.length) i
 | .cnt _ _,_,_=>none
noncomputable def LL.rd (d:List Int):LL->Nat->Option (List V×Nat)
 | .nil,i=>some ([],i)
 | .cons j r,i=>gc (LI.rd d j none i) λi=>LL.rd d r i
end
noncomputable def LL.ends:LL->Prop
 | .nil=>False
 | .cons j r=>(j= .pl (.text .a .au)/\r= .nil)\/r.ends
mutual
noncomputable def LI.gO:LI->Option Nat->Prop
 | .pl p,ov=>(∀c,p= .fS c->(c.ov ov).i≠ -1)
 | .aI _ c l,ov=>((c.ov ov).isStar=true->l.ends)/\l.gO
 | .cnt _ _,_=>False
noncomputable def LL.gO:LL->Prop
 | .nil=>True
 | .cons j r=>j.gO none/\r.gO
end
noncomputable def bB.K (c:bB):Nat:=match c with
 | .num k=>k
 | .au=>1
 | .star=>0
mutual
noncomputable def LI.aU:LI->Option Nat->Nat
 | .pl _,_=>2
 | .aI _ c l,ov=>1+(c.ov ov).K*(1+l.aU)
 | .cnt _ _,_=>0
noncomputable def LL.aU:LL->Nat
 | .nil=>0
 | .cons j r=>j.aU none+r.aU
end
mutual
noncomputable def LI.cU:LI->Nat
 | .pl _=>2
 | .aI _ _ l=>1+l.aU+l.cU
 | .cnt _ _=>0
noncomputable def LL.cU:LL->Nat
 | .nil=>0
 | .cons j r=>j.cU+r.cU
end
theorem bM {c i j L:Nat}(h1:i<=j)(h2:j<=L):c*(L-i)=c*(j-i)+c*(L-j):=by
 refine rV (Nat.mul_add ..) ?_;congr 1;exact Nat.le_antisymm (Nat.sub_le_of_le_add (lB (sA j i) (sA L j))) (lC (sA L i) (sC h1) (sC h2))
theorem dU {a:Option (List V×Nat)}{f:Nat->Option (List V×Nat)}{r:List V×Nat}(h:gc a f=some r):∃p q,a=some p/\f p.2=some q/\r=(p.1++q.1,q.2):=by
 unfold gc at h
 cases a with
 | none=>cases h
 | some p=>
  dsimp only at h
  cases e:f p.2 with
  | none=>rw [e] at h;cases h
  | some q=>rw [e] at h;cases h;exact ⟨p,q,rfl,e,rfl⟩
theorem vF {l:List Int}{j:Nat}(e:yg l=some j):j<l.length:=by
 have:=(List.findIdx?_eq_some_iff_getElem.mp e).1
 rwa [List.length_map] at this
theorem TL.cx (t:TL)(c:bB){d:List Int}{i:Nat}(h:i<=d.length):i<=(t.rd c d i).2/\(t.rd c d i).2<=d.length:=by
 have hm:=eB c (d.length-i)
 cases t with
 | a=>exact ⟨Nat.le_add_right _ _,by refine (?_:i+_<=_);exact ot ‹_› (by exact lA (sC h))⟩
 | A=>exact ⟨Nat.le_add_right _ _,by refine (?_:i+_<=_);exact lB hm (sC h)⟩
 | Z=>
  unfold TL.rd
  dsimp only
  cases e:yg ((d.drop i).take (gN c (d.length-i))) with
  | none=>exact ⟨Nat.le_add_right _ _,by refine (?_:i+_<=_);exact lB hm (sC h)⟩
  | some j=>
   have hj:=vF e
   rw [List.length_take,List.length_drop] at hj
   dsimp only
   split<;>lia
theorem DL.cx (t:DL)(c:bB){d:List Int}{i:Nat}(h:i<=d.length):i<=(t.rd c d i).2/\(t.rd c d i).2<=d.length:=by
 unfold DL.rd
 split
 ·have hm:=eB c (8*(d.length-i))
  dsimp only
  exact ⟨(by simp+arith only),Bo (lC hm (Nat.div_mul_le_self (gN c (8*(d.length-i))+7) 8) (Nat.mul_le_mul_left 8 (sC h)))⟩
 ·have hm:=eB c (2*(d.length-i))
  dsimp only
  exact ⟨(by simp+arith only),D5 (lC hm (Nat.div_mul_le_self (gN c (2*(d.length-i))+1) 2) (Nat.mul_le_mul_left 2 (sC h)))⟩
theorem sv {w m l i:Nat}(c:bB)(h:gN c ((l-i)/w)=m):w*m<=l-i:=by
 have:=eB c ((l-i)/w)
 rw [h] at this
 calc w*m<=w*((l-i)/w):=Nat.mul_le_mul_left _ this
  _<=l-i:=Nat.mul_div_le _ _
theorem PI.cx {d:List Int}{ov:Option Nat}{p:PI}{i:Nat}{r:List V×Nat}(h:i<=d.length)(e:p.rd d ov i=some r):i<=r.2/\r.2<=d.length:=by
 cases p with
 | num t o b c=>
  cases e
  have:=sv (w:=t.size b) (l:=d.length) (i:=i) (c.ov ov) rfl
  exact ⟨Nat.le_add_right _ _,by refine (?_:i+_<=_);exact ot ‹_› (by exact lA (sC h))⟩
 | text t c=>cases e;exact t.cx _ h
 | dig t c=>cases e;exact t.cx _ h
 | fS c=>
  simp only [PI.rd] at e
  split at e
  ·cases e
  ·cases e;exact ⟨Nat.le_add_right _ _,by refine (?_:i+_<=_);exact Nat.le_of_not_lt (by assumption)⟩
theorem oQ {f:Nat->Option (List V×Nat)}{star:Bool}{len:Nat}(hf:∀i r,i<=len->f i=some r->i<=r.2/\r.2<=len):∀(k i:Nat) (r:List V×Nat),i<=len->qt f star len k i=some r->i<=r.2/\r.2<=len
 | 0,i,r,h,e=>by cases e;exact ⟨Nat.le_refl _,h⟩
 | k+1,i,r,h,e=>by
  rw [qt] at e
  split at e
  ·cases e;exact ⟨Nat.le_refl _,h⟩
  ·obtain ⟨p,q,e1,e2,rfl⟩:=dU e
   obtain ⟨a,b⟩:=hf i p h e1
   obtain ⟨c,d⟩:=oQ hf k p.2 q b e2
   exact ⟨Nat.le_trans a c,d⟩
mutual
theorem LI.cx {d:List Int}:(j:LI)->∀{ov:Option Nat} {i:Nat} {r:List V×Nat},i<=d.length->j.rd d ov i=some r->i<=r.2/\r.2<=d.length
 | .pl p,ov,i,r,h,e=>PI.cx h e
 | .aI o c l,ov,i,r,h,e=>oQ (f:=λi=>LL.rd d l i) (λi r h e=>LL.cx l h e) _ i r h e
 | .cnt t j,ov,i,r,h,e=>nomatch e
theorem LL.cx {d:List Int}:(l:LL)->∀{i:Nat} {r:List V×Nat},i<=d.length->l.rd d i=some r->i<=r.2/\r.2<=d.length
 | .nil,i,r,h,e=>by cases e;exact ⟨Nat.le_refl _,h⟩
 | .cons j l,i,r,h,e=>by
  obtain ⟨p,q,e1,e2,rfl⟩:=dU e
  obtain ⟨a,b⟩:=LI.cx j h e1
  obtain ⟨c,d⟩:=LL.cx l b e2
  exact ⟨Nat.le_trans a c,d⟩
end
theorem LL.zO {d:List Int}:∀(l:LL) {i:Nat} {r:List V×Nat},l.ends->i<d.length->l.rd d i=some r->i<r.2
 | .nil,i,r,h,_,_=>h.elim
 | .cons j l,i,r,h,hi,e=>by
  obtain ⟨p,q,e1,e2,rfl⟩:=dU e
  clear e;rcases h with ⟨rfl,rfl⟩|h
  ·cases e2
   cases e1
   exact Nat.lt_add_of_pos_right (n:=i) (k:=min 1 (d.length-i)) (Nat.lt_min.mpr ⟨Nat.one_pos,Nat.sub_pos_of_lt hi⟩)
  ·obtain ⟨a,b⟩:=LI.cx j (Nat.le_of_lt hi) e1
   rcases Nat.lt_or_ge p.2 d.length with z|z
   ·exact Nat.lt_of_le_of_lt a (show p.2<q.2 from LL.zO l h z e2)
   ·obtain ⟨c,d⟩:=LL.cx l b e2
    refine (?_:i<q.2)
    exact ka ‹_› (by exact lB z c)
noncomputable def UQ (A:UA)(r:Option (List V×Nat))(s:US)(a c:Nat)(E:Prop)(Q:V->Hm->Prop):Prop:=
 (r=none->E)/\∀p,r=some p->∀η' k',k'<=s.k+(a+c*(p.2-s.i))->p.1.length<=a+c*(p.2-s.i)->Uk A ⟨p.2,s.fd++p.1,s.st,k'⟩ η'->Q .none η'
theorem wR {f:List Int->Int}{d:List Int}{w m i:Nat}(hw:1<=w):(cy f d w m i).length<=w*m:=by
 refine rW (fu ..) ?_
 calc m=1*m:=(Nat.one_mul m).symm
  _<=w*m:=Nat.mul_le_mul_right _ hw
section
variable {G:Gc}(X:GX G){n:Nat}{η:Hm}{E:Prop}{Q:V->Hm->Prop}{A:UA}{i:Nat}{fd:List V}{st:List Int}{k:Nat}
include X
theorem Af {p:PI}{ov:Option Nat}(h:Uk A ⟨i,fd,st,k⟩ η)(hp:(LI.pl p).gO ov)(hi:i<=A.d.length)(hf:fd.length+(2+2*(A.d.length-i))<=10000)(hk:k+(2+2*(A.d.length-i))<=1000000)
  (q:UQ A (p.rd A.d ov i) ⟨i,fd,st,k⟩ 2 2 E Q):ah G (n+5) (.ref bE) [.ref A.p,p.v ov] η Q E:=by
 have hld:=h.ld
 cases p with
 | num t o b c=>
  refine spec X 64 rfl rfl rfl ?_
  refine bN X h (by exact lA hk) λη1 h1=>?_
  have ht:t.str≠"("/\Txt.contains "aAZ" t.str≠true/\Txt.contains "bBhH" t.str≠true/\Txt.contains "xX@" t.str≠true/\t.str≠"."/\t.str≠"u"/\Txt.contains "wU" t.str≠true:=by clear q hp;cases t<;>decide+kernel
  refine ⟨λz=>absurd z ht.1,λξ=>⟨λz=>absurd z ht.2.1,λξ=>⟨λz=>absurd z ht.2.2.1,λξ=>⟨λz=>absurd z ht.2.2.2.1,λξ=>⟨λz=>absurd z ht.2.2.2.2.1,λξ=>⟨λz=>absurd z ht.2.2.2.2.2.1,λξ=>⟨λz=>absurd z ht.2.2.2.2.2.2,λξ=>?_⟩⟩⟩⟩⟩⟩⟩
  have hw:=size_pos t b
  have hm:=sv (w:=t.size b) (l:=A.d.length) (i:=i) (c.ov ov) rfl
  have q2:=q.2 _ rfl
  dsimp only at q2
  have hn:=λf=>wR (f:=f) (d:=A.d) (m:=gN (c.ov ov) ((A.d.length-i)/t.size b)) (i:=i) hw
  have hn2:=hn (t.val o b)
  rw [fu] at hn2
  refine k7 X (n:=n+2) h1 hi rfl (by exact lC hf hm hn2) (by exact lC hk hm hn2) λη' h'=>q2 η' _ ?_ ?_ h'
  ·refine rW (Nat.add_sub_cancel_left ..) ?_;exact ot ‹_› (by simp+arith only)
  ·refine rW (fu ..) (rW (Nat.add_sub_cancel_left ..) ?_);exact jG ‹_› (by simp+arith only)
 | text t c=>
  refine spec X 64 rfl rfl rfl ?_
  refine bN X h (by exact lA hk) λη1 h1=>?_
  have ht:t.str≠"("/\Txt.contains "aAZ" t.str≠false:=by clear q hp;cases t<;>decide+kernel
  refine tF ht.1 ⟨λξ=>?_,λz=>absurd z ht.2⟩
  exact lS X (n:=n+2) h1 hi (by exact lA hf) λη' h'=>q.2 _ rfl η' _ (by dsimp only;simp+arith) (by refine (?_:1<=_);simp+arith) h'
 | dig t c=>
  refine spec X 64 rfl rfl rfl ?_
  refine bN X h (by exact lA hk) λη1 h1=>?_
  have ht:t.str≠"("/\Txt.contains "aAZ" t.str≠true/\Txt.contains "bBhH" t.str≠false:=by clear q hp;cases t<;>decide+kernel
  refine tF ht.1 (bF ht.2.1 ⟨λξ=>?_,λz=>absurd z ht.2.2⟩)
  exact kc X (n:=n+2) h1 hi (by exact lA hf) λη' h'=>q.2 _ rfl η' _ (by dsimp only;simp+arith) (by refine (?_:1<=_);simp+arith) h'
 | fS c=>
  refine spec X 64 rfl rfl rfl ?_
  refine bN X h (by lia) λη1 h1=>?_
  have ht:Str.ofString "x"≠"("/\Txt.contains "aAZ" (Str.ofString "x")≠true/\Txt.contains "bBhH" (Str.ofString "x")≠true/\Txt.contains "xX@" (Str.ofString "x")≠false:=by decide+kernel
  refine tF ht.1 (bF ht.2.1 (bF ht.2.2.1 ⟨λξ=>?_,λz=>absurd z ht.2.2.2⟩))
  refine lT X (n:=n) (hp c rfl) h1 hi ⟨λz=>q.1 (if_pos z),λz η' h'=>q.2 _ (if_neg (Nat.not_lt.mpr z)) η' (k+1) (by dsimp only;simp+arith) (Nat.zero_le _) ?_⟩
  refine rW (List.append_nil ..) ?_;exact h'
structure FF (G:Gc)(A:UA)(n:Nat)(l:LL):Prop where
 of:∀{m:Nat} {η:Hm} {E:Prop} {Q:V->Hm->Prop} {i:Nat} {fd:List V} {st:List Int} {k:Nat},l.gO->st.length+l.ht<=100->i<=A.d.length->Uk A ⟨i,fd,st,k⟩ η->fd.length+(l.aU+l.cU*(A.d.length-i))<=10000->k+(l.aU+l.cU*(A.d.length-i))<=1000000->
 UQ A (l.rd A.d i) ⟨i,fd,st,k⟩ l.aU l.cU E Q->ah G (m+n) (.ref bx) [.ref A.p, .lst l.v] η Q E
structure yr (G:Gc)(A:UA)(n:Nat)(j:LI):Prop where
 of:∀{m:Nat} {η:Hm} {E:Prop} {Q:V->Hm->Prop} {i:Nat} {fd:List V} {st:List Int} {k:Nat} {ov:Option Nat},j.gO ov->st.length+j.ht<=100->i<=A.d.length->Uk A ⟨i,fd,st,k⟩ η->fd.length+(j.aU ov+j.cU*(A.d.length-i))<=10000->k+(j.aU ov+j.cU*(A.d.length-i))<=1000000->
 UQ A (j.rd A.d ov i) ⟨i,fd,st,k⟩ (j.aU ov) j.cU E Q->ah G (m+n) (.ref bE) [.ref A.p,j.v ov] η Q E
omit X in
theorem yr.up {N M:Nat}{j:LI}(h:yr G A N j)(hm:N<=M):yr G A M j:=⟨λ{m} {η} {E} {Q} {i} {fd} {st} {k} {ov} a b c d e f g=>by
 have:=h.of (m:=m+(M-N)) (E:=E) (Q:=Q) a b c d e f g
 rw [show m+(M-N)+N=m+M by exact qA (Nat.sub_add_cancel hm)] at this
 exact this⟩
omit X in
theorem LI.G1 {j:LI}{ov:Option Nat}(h:j.gO ov):∃(L O:Str) (B:Bool) (C:Int) (I:V),j.v ov=cS L O B C I/\L≠"/":=by
 cases j with
 | cnt=>exact h.elim
 | aI o c l=>exact ⟨_,_,_,_,_,rfl,by decide+kernel⟩
 | pl p=>
  cases p with
  | fS c=>exact ⟨_,_,_,_,_,rfl,by decide+kernel⟩
  | num t o b c=>exact ⟨_,_,_,_,_,rfl,by cases t<;>decide+kernel⟩
  | dig t c=>exact ⟨_,_,_,_,_,rfl,by cases t<;>decide+kernel⟩
  | text t c=>exact ⟨_,_,_,_,_,rfl,by cases t<;>decide+kernel⟩
theorem UQ.two {a:Option (List V×Nat)}{f:Nat->Option (List V×Nat)}{s:US}{x1 x2 c:Nat}{p:List V×Nat}{k1:Nat}(q:UQ A (gc a f) s (x1+x2) c E Q)(e:a=some p)(h1:s.i<=p.2)(hf:∀r,f p.2=some r->p.2<=r.2)(hk:k1<=s.k+(x1+c*(p.2-s.i)))(hl:p.1.length<=x1+c*(p.2-s.i)):
  UQ A (f p.2) ⟨p.2,s.fd++p.1,s.st,k1⟩ x2 c E Q:=by
 subst e
 refine ⟨λe=>q.1 (by unfold gc;dsimp only;exact rW e rfl),λr e η' k' hk' hl' h'=>q.2 (p.1++r.1,r.2) (by unfold gc;dsimp only;exact rW e rfl) η' k' ?_ ?_ ?_⟩
 ·have:=bM (c:=c) h1 (hf r e)
  dsimp only at hk' ⊢
  exact jG ‹_› (by exact lB hk (eR this))
 ·have:=bM (c:=c) h1 (hf r e)
  dsimp only at hl' ⊢
  refine rW List.length_append ?_
  exact vD ‹_› ‹_› (by exact lA (eR this))
 ·rw [List.append_assoc] at h'
  exact h'
theorem UQ.mono {r:Option (List V×Nat)}{s:US}{a c c':Nat}(q:UQ A r s a c E Q)(h:c'<=c):UQ A r s a c' E Q:=
 ⟨q.1,λp e η' k' hk hl h'=>by
  have:=Nat.mul_le_mul_right (p.2-s.i) h
  exact q.2 p e η' k' (by exact jG ‹_› (by exact lA this)) (by exact jG ‹_› (by exact lA this)) h'⟩
theorem te {N m:Nat}{items:V}:∀(r:LL) (i:Nat) (fd:List V) (k:Nat) (η:Hm) s2 s3,r.all (yr G A N)->r.gO->st.length+r.ht<=100->i<=A.d.length->Uk A ⟨i,fd,st,k⟩ η->fd.length+(r.aU+r.cU*(A.d.length-i))<=10000->k+(r.aU+r.cU*(A.d.length-i))<=1000000->
   UQ A (r.rd A.d i) ⟨i,fd,st,k⟩ r.aU r.cU E Q->forL G (m+N) E Q (d7.sl.tl 1) [3] false r.v η [some (.ref A.p),some items,s2,s3]:=by
  intro r
  induction r using LL.rec (motive_1:=λξ=>True) with
  | nil=>
   intro i fd k η s2 s3 _ _ _ _ h _ _ q
   exact q.2 _ rfl η k (Nat.le_add_right _ _) (Nat.zero_le _) (by refine rW (List.append_nil ..) ?_;exact h)
  | cons j r _ ih=>
   intro i fd k η s2 s3 ha hok ht hi h hf hk q
   have ht':st.length+max j.ht r.ht<=100:=ht
   have e1:(LL.cons j r).cU*(A.d.length-i)=j.cU*(A.d.length-i)+r.cU*(A.d.length-i):=Nat.add_mul _ _ _
   have e2:(LL.cons j r).aU=j.aU none+r.aU:=rfl
   rw [e1,e2] at hf hk
   obtain ⟨L,O,B,C,I,e,hne⟩:=LI.G1 hok.1
   have key:=ha.1.of (m:=m) (E:=E) (Q:=λξ η1=>forL G (m+N) E Q (d7.sl.tl 1) [3] false r.v η1 [some (.ref A.p),some items,s2,some (j.v none)]) (ov:=none) hok.1 (by exact lB ht' (Nat.le_max_left j.ht r.ht)) hi h (by exact lA hf) (by exact lA hk) ⟨λe=>q.1 (show gc (j.rd A.d none i) _=none by refine rW e ?_;rfl),λp e η1 k1 hk1 hl1 h1=>by
    dsimp only at hk1 hl1 h1
    obtain ⟨b1,b2⟩:=LI.cx j hi e
    have m1:=bM (c:=r.cU) b1 b2
    have m2:=bM (c:=j.cU) b1 b2
    refine ih p.2 _ k1 η1 _ _ ha.2 hok.2 (by exact lB ht' (Nat.le_max_right j.ht r.ht)) b2 h1 (by refine rW List.length_append ?_;exact lD hf hl1 (eR m1) (eR m2)) (by exact vp ‹_› (by exact lC hk (eR m1) (eR m2))) ?_
    have m3:(j.cU+r.cU)*(p.2-i)=j.cU*(p.2-i)+r.cU*(p.2-i):=Nat.add_mul _ _ _
    exact (UQ.two X (s:=⟨i,fd,st,k⟩) (c:=j.cU+r.cU) q e b1 (λr' e'=>(LL.cx r b2 e').1) (by dsimp only;exact jG ‹_› (by exact (by simp+arith only [Nat.add_mul,Nat.mul_add,Nat.one_mul]))) (by dsimp only;exact jG ‹_› (by exact (by simp+arith only [Nat.add_mul,Nat.mul_add,Nat.one_mul])))).mono X (Nat.le_add_left _ _)⟩
   refine (?_:forL G (m+N) E Q (d7.sl.tl 1) [3] false (j.v none::r.v) η _)
   rw [e] at key ⊢
   exact ⟨λz=>absurd z hne,λξ=>key⟩
  | pl|aI|cnt=>trivial
theorem vM {N:Nat}{l:LL}(h:l.all (yr G A N)):FF G A (N+1) l:=⟨λ{m} {η} {E} {Q} {i} {fd} {st} {k} hl ht hi hp hf hk q=>by
 refine spec X 65 rfl rfl rfl ?_
 refine ⟨_,eU X hp,_,hp.lf,Nat.lt_of_le_of_lt (show fd.length<=10000 by exact Em ‹_›) (by decide),?_⟩
 exact te X l i fd k η _ none h hl ht hi hp hf hk q⟩
end
section
variable {G:Gc}(X:GX G){n:Nat}{η:Hm}{E:Prop}{Q:V->Hm->Prop}{A:UA}{i:Nat}{fd:List V}{st:List Int}{k:Nat}
noncomputable def eD (star:Bool)(m a:Nat):Nat:=if star=true then 0 else m*(1+a)
include X
theorem k6 {l:LL}{N:Nat}(IH:FF G A (N+1) l){c:bB}(he:c.isStar=true->l.ends)(hl:l.gO)(ht:st.length+1+l.ht<=100)(hi:i<=A.d.length)(h:Uk A ⟨i,fd,st,k⟩ η)
  (hf:fd.length+(c.K*(1+l.aU)+(1+l.aU+l.cU)*(A.d.length-i))<=10000) (hk:k+(c.K*(1+l.aU)+(1+l.aU+l.cU)*(A.d.length-i))<=1000000)
  (q:UQ A (qt (λi=>l.rd A.d i) c.isStar A.d.length (tm c A.d.length) i) ⟨i,fd,st,k⟩ (c.K*(1+l.aU)) (1+l.aU+l.cU) E Q):ah G (n+(N+1)+1) (.ref cY) [.ref A.p,cS "(" "" false c.i (.lst l.v)] η Q E:=by
 refine spec X 62 rfl rfl rfl ?_
 have hld:=h.ld
 have hst:c.i= -1 ↔ c.isStar=true:=by
  clear q hk hf he;cases c with
  | au=>decide
  | star=>decide
  | num m=>exact ⟨λz=>absurd (show (m:Int)= -1 from z) (by simp+arith),λz=>nomatch z⟩
 have loop:∀(is:List V) (i:Nat) (fd:List V) (k:Nat) (η:Hm) s7 s8,i<=A.d.length->Uk A ⟨i,fd,st,k⟩ η->fd.length+(eD c.isStar is.length l.aU+(1+l.aU+l.cU)*(A.d.length-i))<=10000->k+(eD c.isStar is.length l.aU+(1+l.aU+l.cU)*(A.d.length-i))<=1000000->
   UQ A (qt (λi=>l.rd A.d i) c.isStar A.d.length is.length i) ⟨i,fd,st,k⟩ (eD c.isStar is.length l.aU) (1+l.aU+l.cU) E Q->
   forL G (n+(N+1)) E Q (bZ.sl.tl 2) [8] false is η [some (.ref A.p),some (cS "(" "" false c.i (.lst l.v)),some (.str "("),some (.str ""),some (.bool false),some (.int c.i),some (.lst l.v),s7,s8]:=by
  intro is
  induction is with
  | nil=>
   intro i fd k η s7 s8 _ h _ _ q
   exact q.2 _ rfl η k (Nat.le_add_right _ _) (Nat.zero_le _) (by refine rW (List.append_nil ..) ?_;exact h)
  | cons x is ih=>
   intro i fd k η s7 s8 hi h hf hk q
   have go:¬(c.isStar=true/\A.d.length-i=0)->aQ G (n+(N+1)) (((bZ.sl.tl 2).hd.body.tl 1)) E η [some (.ref A.p),some (cS "(" "" false c.i (.lst l.v)),some (.str "("),some (.str ""),some (.bool false),some (.int c.i),some (.lst l.v),s7,some x] ⟨λη ρ=>forL G (n+(N+1)) E Q (bZ.sl.tl 2) [8] false is η ρ,λη ρ=>Q .none η,λη ρ=>forL G (n+(N+1)) E Q (bZ.sl.tl 2) [8] false is η ρ,Q⟩:=λz=>by
    rw [show qt (λi=>l.rd A.d i) c.isStar A.d.length (x::is).length i=gc (l.rd A.d i) (qt (λi=>l.rd A.d i) c.isStar A.d.length is.length) from if_neg z] at q
    have e1:(1+l.aU+l.cU)*(A.d.length-i)=(1+l.aU)*(A.d.length-i)+l.cU*(A.d.length-i):=Nat.add_mul _ _ _
    have e2:1+l.aU<=eD c.isStar (x::is).length l.aU+(1+l.aU)*(A.d.length-i):=by
     unfold eD
     by_cases w:c.isStar=true
     ·refine rW (if_pos w) ?_
      have:=Nat.mul_le_mul_left (1+l.aU) (show 1<=A.d.length-i from Nat.pos_of_ne_zero λy=>z ⟨w,y⟩)
      exact lA this
     ·refine rW (if_neg w) (rW List.length_cons (rW (Nat.succ_mul ..) ?_));simp+arith
    refine bN X h (by exact mB hk e2) λη1 h1=>?_
    refine ⟨_,nO X h1,_,h1.ls,_,lP X h1,_,h1.ls,sz (by refine rW (List.length_map ..) ?_;exact lA ht),?_⟩
    rw [show st.map V.int++ [V.int (i:Nat)]=(st++ [(i:Int)]).map V.int by refine rW List.map_append ?_;rfl]
    refine IH.of (m:=n) hl (by refine rW List.length_append ?_;exact ht) hi (h1.sS (st++ [(i:Int)])) (by exact mB hf e2) (by exact mB hk e2) ⟨λe=>q.1 (by refine rW e ?_;rfl),λp e η3 k3 hk3 hl3 h3=>?_⟩
    refine ⟨_,nO X h3,_,h3.ls,st.map V.int,V.int i,by refine rW h3.ls (rW List.map_append ?_);rfl,Nat.lt_of_le_of_lt (show (st.map V.int).length<=100 by refine rW (List.length_map ..) ?_;exact lA ht) (by refine rW sizeLine_eq ?_;decide),?_⟩
    clear h1 e2 h;obtain ⟨b1,b2⟩:=LL.cx l hi e
    dsimp only at hk3 hl3 h3
    have m1:=bM (c:=1+l.aU+l.cU) b1 b2
    have m2:(1+l.aU+l.cU)*(p.2-i)=(1+l.aU)*(p.2-i)+l.cU*(p.2-i):=Nat.add_mul _ _ _
    have e3:1+l.aU+eD c.isStar is.length l.aU<=eD c.isStar (x::is).length l.aU+(1+l.aU)*(p.2-i):=by
     unfold eD
     by_cases w:c.isStar=true
     ·refine rW (if_pos w) (rW (if_pos w) ?_)
      have:=LL.zO l (he w) (Nat.lt_of_le_of_ne hi λy=>z ⟨w,by (subst_vars;exact Nat.le_antisymm (Nat.sub_le_of_le_add ((by simp+arith only))) ((by simp+arith only)))⟩) e
      have:=Nat.mul_le_mul_left (1+l.aU) (show 1<=p.2-i by exact lB this (sA p.snd i))
      exact lA this
     ·refine rW (if_neg w) (rW (if_neg w) (rW List.length_cons (rW (Nat.succ_mul ..) ?_)));simp+arith
    have e4:eD c.isStar (x::is).length l.aU=eD c.isStar (x::is).length l.aU-eD c.isStar is.length l.aU+eD c.isStar is.length l.aU:=by
     have:eD c.isStar is.length l.aU<=eD c.isStar (x::is).length l.aU:=by
      unfold eD
      split
      ·exact Nat.le_refl _
      ·exact Nat.mul_le_mul_right _ (Nat.le_succ _)
     exact qA ((Nat.sub_add_cancel this).symm)
    rw [e4] at q
    refine ih p.2 _ k3 _ _ _ b2 (h3.sS st) (by refine rW List.length_append ?_;exact mD hf hl3 (eR m1) e3) (by exact mD hk hk3 (eR m1) e3) ?_
    exact UQ.two X (s:=⟨i,fd,st,k⟩) q e b1 (λr' e'=>(oQ (λi r h e=>LL.cx l h e) _ _ _ b2 e').1) (by dsimp only;exact jG ‹_› (by exact mB e3 (sA (eD c.isStar (x::is).length l.aU) (eD c.isStar is.length l.aU)))) (by dsimp only;exact jG ‹_› (by exact mB e3 (sA (eD c.isStar (x::is).length l.aU) (eD c.isStar is.length l.aU))))
   refine ⟨λz=>?_,λz=>go λy=>z (hst.mpr y.1)⟩
   refine bY X h ⟨λy=>?_,λy=>go λw=>y (cz hi w.2)⟩
   exact q.2 _ (if_pos ⟨hst.mp z,zc y⟩) η k (Nat.le_add_right _ _) (Nat.zero_le _) (by refine rW (List.append_nil ..) ?_;exact h)
 have fin':∀tI:Int,tI=(tm c A.d.length:Nat)->aQ G (n+(N+1)) (bZ.sl.tl 2) E η [some (.ref A.p),some (cS "(" "" false c.i (.lst l.v)),some (.str "("),some (.str ""),some (.bool false),some (.int c.i),some (.lst l.v),some (.int tI),none] (fin Q):=by
  rintro tI rfl
  have hK:eD c.isStar (tm c A.d.length) l.aU<=c.K*(1+l.aU):=by clear loop hst q hk hf he;cases c<;>first|exact Nat.le_refl _|exact Nat.zero_le _
  have hK2:tm c A.d.length<=10024:=by
   clear hK loop hst q hk he;cases c with
   | au=>show 1<=_;exact Nat.succ_pos _
   | star=>show A.d.length<=_;exact j7 ‹_› (by rfl)
   | num m=>
    refine (?_:m<=_)
    have:m*1<=m*(1+l.aU):=Nat.mul_le_mul_left _ (by exact Nat.le_add_right _ _)
    have hf:fd.length+(m*(1+l.aU)+_)<=10000:=hf
    exact mA hf
  refine ⟨_,aO (by exact bt ‹_› (by rfl)),?_⟩
  have hlen:((List.range (tm c A.d.length)).map λ(k:Nat)=>V.int k).length=tm c A.d.length:=by simp
  refine loop _ i fd k η _ none hi h (by refine rW hlen ?_;exact lB hf hK) (by refine rW hlen ?_;exact lB hk hK) ?_
  refine rW hlen ?_
  exact ⟨q.1,λp e η' k' hk hl h'=>q.2 p e η' k' (by exact jG ‹_› (by exact lA hK)) (by exact jG ‹_› (by exact lA hK)) h'⟩
 refine ⟨λz=>⟨_,lz X h,by refine rW (List.length_map ..) ?_;exact bt ‹_› (by rfl),?_⟩,λz=>⟨λy=>?_,λy=>?_⟩⟩
 ·refine rW (List.length_map ..) ?_
  refine fin' _ ?_
  have:=hst.mp z
  clear z fin' loop hst q hk hf he;cases c with
  | star=>rfl
  | au=>cases this
  | num m=>cases this
 ·refine fin' 1 ?_
  clear z fin' loop hst q hk hf he;cases c with
  | au=>rfl
  | star=>cases y
  | num m=>exact absurd (show (m:Int)= -2 from y) (by simp+arith)
 ·refine fin' _ ?_
  clear fin' loop hst q hk hf he;cases c with
  | au=>exact absurd rfl y
  | star=>exact absurd rfl z
  | num m=>rfl
mutual
theorem F1:(j:LI)->yr G A (5+3*j.ht) j
 | .pl p=>⟨λ{m} {η} {E} {Q} {i} {fd} {st} {k} {ov} a b c d e f g=>Af X (n:=m) d a c e f g⟩
 | .cnt t j=>⟨λ{m} {η} {E} {Q} {i} {fd} {st} {k} {ov} a b c d e f g=>a.elim⟩
 | .aI od c l=>by
  refine ⟨λ{m} {η} {E} {Q} {i} {fd} {st} {k} {ov} a b hi d e f g=>?_⟩
  have hN:FF G A (5+3*l.ht+1) l:=vM X (D4 l)
  have b':st.length+(1+l.ht)<=100:=b
  have e':fd.length+(1+(c.ov ov).K*(1+l.aU)+(1+l.aU+l.cU)*(A.d.length-i))<=10000:=e
  have f':k+(1+(c.ov ov).K*(1+l.aU)+(1+l.aU+l.cU)*(A.d.length-i))<=1000000:=f
  refine rW (show m+(5+3*(LI.aI od c l).ht)=m+(5+3*l.ht+1)+1+1 by refine (?_:m+(5+3*(1+l.ht))=_);simp+arith) ?_
  refine spec X 64 rfl rfl rfl ?_
  refine bN X d (by exact lA f') λη1 h1=>?_
  refine tT rfl ?_
  refine k6 X (n:=m) hN a.1 a.2 (by exact lA b') hi h1 (by exact lA e') (by exact lA f') ⟨g.1,λp e η' k' hk hl h'=>g.2 p e η' k' ?_ ?_ h'⟩
  ·refine (?_:k'<=k+(1+(c.ov ov).K*(1+l.aU)+(1+l.aU+l.cU)*(p.2-i)))
   dsimp only at hk;exact jG ‹_› (by simp+arith only)
  ·refine (?_:p.1.length<=1+(c.ov ov).K*(1+l.aU)+(1+l.aU+l.cU)*(p.2-i))
   dsimp only at hl;exact jG ‹_› (by simp+arith only)
theorem D4:(l:LL)->l.all (yr G A (5+3*l.ht))
 | .nil=>trivial
 | .cons j r=>⟨(F1 j).up (by refine (?_:_<=5+3*max j.ht r.ht);exact lA (Nat.mul_le_mul_left 3 (Nat.le_max_left j.ht r.ht))),LL.aq (λξ h=>h.up (by refine (?_:_<=5+3*max j.ht r.ht);exact lA (Nat.mul_le_mul_left 3 (Nat.le_max_right j.ht r.ht)))) r (D4 r)⟩
end
end
noncomputable def PI.cc:PI->bB
 | .num _ _ _ c=>c
 | .text _ c=>c
 | .dig _ c=>c
 | .fS c=>c
noncomputable def LI.cc:LI->bB
 | .pl p=>p.cc
 | .aI _ c _=>c
 | .cnt _ _=> .au
noncomputable def NL.told (t:NL)(d:List Int):Int:=t.val "" false (d.take (t.size false))
theorem yC {j:LI}{x:Option Nat}(h:j.gO x):∃(L O:Str) (B:Bool) (inner:V),∀ov,j.v ov=cS L O B (j.cc.ov ov).i inner:=by
 cases j with
 | cnt=>exact h.elim
 | aI o c l=>exact ⟨_,_,_,_,λov=>rfl⟩
 | pl p=>cases p<;>exact ⟨_,_,_,_,λov=>rfl⟩
theorem CR (c:bB):gN c 0=0:=Nat.le_zero.mp (eB c 0)
section
variable {G:Gc}(X:GX G){n:Nat}{η:Hm}{E:Prop}{Q:V->Hm->Prop}{A:UA}{i:Nat}{fd:List V}{st:List Int}{k:Nat}
include X
theorem jJ {t:NL}{j:LI}{N:Nat}(IH:yr G A (N+5) j)(hj:∀m,j.gO (some m))(h:Uk A ⟨0,[],st,k⟩ η)(ht:st.length+j.ht<=100)(hb:(t.told A.d).natAbs<10^30)
  (hf:j.aU (some (max (t.told A.d) 0).toNat)+j.cU*24<=9000) (hk:k<=100)
  (q0:A.d.length<t.size false->∀η' k',Uk A ⟨0,[],st,k'⟩ η'->Q (.bool false) η')
  (q1:t.size false<=A.d.length->0<=j.cc.i->E)
  (q2:t.size false<=A.d.length->j.cc.i<0->∀k',k'<=k+60->UQ A (j.rd A.d (some (max (t.told A.d) 0).toNat) (t.size false)) ⟨t.size false,[],st,k'⟩ (j.aU (some (max (t.told A.d) 0).toNat)) j.cU E (λξ=>Q (.bool true))):
  ah G (n+(N+5)+1) (.ref b0) [.ref A.p,cS "/" "" false (-2) (.lst [cS t.str "" false (-2) .none,j.v none]), .int 0] η Q E:=by
 refine spec X 63 rfl rfl rfl ?_
 obtain ⟨L,O,B,inner,hv⟩:=yC (hj 0)
 have hld:=h.ld
 have hw:=size_pos t false
 refine bY X h ?_
 refine bN X h (by exact bt ‹_› (by rfl)) λη1 h1=>?_
 have key:=Af X (n:=n+N) (p:= .num t "" false .au) (ov:=none) (E:=E) (Q:=λξ η'=>aQ G (n+(N+5)) (gR.sl.tl 4) E η' [some (.ref A.p),some (cS "/" "" false (-2) (.lst [cS t.str "" false (-2) .none,j.v none])),some (.int 0),some (cS t.str "" false (-2) .none),some (j.v none),some (.bool (decide ((A.d.length-(0:Nat):Int)=0))),none,none,none,none,none,none] (fin Q)) h1 (λc e=>nomatch e) (Nat.zero_le _) (by refine (?_:0+_<=_);lia) (by lia)
 rw [hv none] at key ⊢
 refine key ⟨λe=>(nomatch e),λp e η2 k2 hk2 hl2 h2=>?_⟩
 clear hl2;cases e
 rcases Nat.lt_or_ge A.d.length (t.size false) with z|z
 ·have e0:(A.d.length-0)/t.size false=0:=Nat.div_eq_of_lt z
  dsimp only [bB.ov] at h2
  rw [e0,CR] at h2
  have h2:Uk A ⟨0,[],st,k2⟩ η2:=h2
  refine ⟨_,eU X h2,_,h2.lf,by decide,tT rfl (q0 z η2 k2 h2)⟩
 ·have e1:gN bB.au ((A.d.length-0)/t.size false)=1:=by
   refine (?_:min 1 _=1)
   have:1<=(A.d.length-0)/t.size false:=(Nat.le_div_iff_mul_le (by assumption)).mpr (by lia)
   exact Nat.min_eq_left (by assumption)
  dsimp only [bB.ov] at h2 hk2
  rw [e1] at h2 hk2
  have h2:Uk A ⟨t.size false,[.int (t.told A.d)],st,k2⟩ η2:=by
   have e3:0+t.size false*1=t.size false:=by simp+arith
   rw [e3] at h2
   exact h2
  refine ⟨_,eU X h2,_,h2.lf,Nat.lt_of_le_of_lt (show 1<=1 from Nat.le_refl _) (by decide),tF Int.one_ne_zero ?_⟩
  have hne:((A.d.length:Int)-(0:Nat))≠0:=by lia
  refine ⟨λy=>⟨q1 z y,⟨_,rfl⟩,Nat.le_trans (by decide) (Nat.le_trans (Nat.le_add_left 5 N) (Nat.le_add_left _ n))⟩,λy=>?_⟩
  have y:¬0<=j.cc.i:=y
  refine ⟨λw=>absurd (of_decide_eq_true w) hne,λw=>⟨λw=>absurd (of_decide_eq_true w) hne,λξ=>?_⟩⟩
  refine ⟨_,eU X h2,_,h2.lf,[],V.int (t.told A.d),h2.lf,by refine rW sizeLine_eq ?_;decide,?_⟩
  have h3:Uk A ⟨t.size false,[],st,k2⟩ _:=h2.sF []
  refine ⟨_,i4 X h3,?_⟩
  refine jK X (s:= .num (t.told A.d)) (n:=n+N+2) hb (kx X) ?_
  have e5:j.cU*(A.d.length-t.size false)<=j.cU*24:=Nat.mul_le_mul_left _ (by exact jF ‹_›)
  have key:=IH.of (m:=n) (Q:=λξ=>Q (.bool true)) (ov:=some (max (t.told A.d) 0).toNat) (hj _) ht z h3 (by refine (?_:0+_<=_);exact lB hf e5) (by exact vp ‹_› (by refine (?_:k+1+(2+2*(0+t.size false*1))+_<=_);exact lD hf hk e5 (Nat.mul_le_mul_left 2 (Nat.le_trans z hld)))) (q2 z (by exact Int.lt_of_not_ge (by assumption)) k2 (by exact jG ‹_› (by exact lC (Nat.mul_le_mul_left 2 hld) (Nat.mul_le_mul_left 2 z) (Nat.mul_le_mul_left 2 (Nat.sub_le (0+t.size false*1) 0)))))
  rw [hv,show (j.cc.ov (some (max (t.told A.d) 0).toNat)).i=max (t.told A.d) 0 from Int.toNat_of_nonneg (Int.le_max_right _ _)] at key
  exact key
end
noncomputable def uF (d:List Int):LL->Option (List V)
 | .cons (.cnt t j) r=>if d.length<t.size false then some [] else if 0<=j.cc.i then none else (gc (j.rd d (some (max (t.told d) 0).toNat) (t.size false)) λi=>r.rd d i).map (·.1)
 | .cons (.pl p) r=>((LL.cons (.pl p) r).rd d 0).map (·.1)
 | .cons (.aI o c l) r=>((LL.cons (.aI o c l) r).rd d 0).map (·.1)
 | .nil=>some []
noncomputable def LL.vB (d:List Int):LL->Prop
 | .cons (.cnt t j) r=>(∀m,j.gO (some m))/\(t.told d).natAbs<10^30/\(j.aU (some (max (t.told d) 0).toNat)+r.aU)+(j.cU+r.cU)*24<=9000/\r.gO
 | .cons (.pl p) r=>(LL.cons (.pl p) r).gO/\(LL.cons (.pl p) r).aU+(LL.cons (.pl p) r).cU*24<=9000
 | .cons (.aI o c l) r=>(LL.cons (.aI o c l) r).gO/\(LL.cons (.aI o c l) r).aU+(LL.cons (.aI o c l) r).cU*24<=9000
 | .nil=>True
section
variable {G:Gc}(X:GX G){n:Nat}{η:Hm}{E:Prop}{Q:V->Hm->Prop}{A:UA}{i:Nat}{fd:List V}{st:List Int}{k:Nat}
include X
theorem A9 {l:LL}(ok:l.vB A.d)(ht:l.ht<=10)(h:Uk A ⟨0,[],[0],0⟩ η)(q:(uF A.d l=none->E)/\∀vs,uF A.d l=some vs->∀η' i k',Uk A ⟨i,vs,[0],k'⟩ η'->Q .none η'):ah G (n+40) (.ref bx) [.ref A.p, .lst l.v] η Q E:=by
 have hld:=h.ld
 have plain:l.gO/\l.aU+l.cU*24<=9000->uF A.d l=(l.rd A.d 0).map (·.1)->ah G (n+40) (.ref bx) [.ref A.p, .lst l.v] η Q E:=λok e=>by
  rw [e] at q
  have e5:l.cU*(A.d.length-0)<=l.cU*24:=Nat.mul_le_mul_left _ (by assumption)
  have hN:=vM X (LL.aq (λj (h:yr G A _ j)=>h.up (show 5+3*l.ht<=39 by exact lA (Nat.mul_le_mul_left 3 ht))) l (D4 X l))
  exact hN.of (m:=n) ok.1 (by refine (?_:1+_<=_);exact Cc ‹_› (by rfl)) (Nat.zero_le _) h (by refine (?_:0+_<=_);exact lB ok.2 e5) (by exact lB ok.2 e5) ⟨λz=>q.1 (by refine rW z ?_;rfl),λp z η' k' ξ ξ h'=>q.2 p.1 (by refine rW z ?_;rfl) η' p.2 k' h'⟩
 cases l with
 | nil=>exact plain ⟨trivial,by decide⟩ rfl
 | cons j r=>
  cases j with
  | pl p=>exact plain ok rfl
  | aI o c l=>exact plain ok rfl
  | cnt t j=>
   obtain ⟨o1,o2,o3,o4⟩:=ok
   have e5:(j.cU+r.cU)*24=j.cU*24+r.cU*24:=Nat.add_mul _ _ _
   have hh:max (1+j.ht) r.ht<=10:=ht
   refine spec X 65 rfl rfl rfl ?_
   refine ⟨_,eU X h,_,h.lf,by decide,?_⟩
   refine ⟨λξ=>?_,λz=>absurd rfl z⟩
   have hw:=size_pos t false
   refine jJ X (n:=n) (N:=33) ((F1 X j).up (by exact lB (Nat.mul_le_mul_left 3 hh) (Nat.mul_le_mul_left 3 (Nat.le_max_left (1+j.ht) r.ht)))) o1 h (by refine (?_:1+_<=_);exact lB hh (Nat.le_max_left (1+j.ht) r.ht)) o2 (by exact lA o3) (Nat.zero_le _) (λz η' k' h'=>?_) (λz y=>?_) (λz y k' hk'=>?_)
   ·exact ⟨λz=>(nomatch z),λξ=>q.2 [] (if_pos z) η' 0 k' h'⟩
   ·exact q.1 (show (if _ then _ else _)=none by exact rW (if_neg (Nat.not_lt.mpr z)) (rW (if_pos y) rfl))
   ·have qe:uF A.d (.cons (.cnt t j) r)=(gc (j.rd A.d (some (max (t.told A.d) 0).toNat) (t.size false)) λi=>r.rd A.d i).map (·.1):=by
     show (if _ then _ else _)=_
     exact rW (if_neg (Nat.not_lt.mpr z)) (rW (if_neg (by exact Int.not_le.mpr (by assumption))) rfl)
    rw [qe] at q
    refine ⟨λe=>q.1 (by refine rW e ?_;rfl),λp e η2 k2 hk2 hl2 h2=>⟨λξ=>?_,λz=>nomatch z⟩⟩
    obtain ⟨b1,b2⟩:=LI.cx j z e
    dsimp only at hk2 hl2 h2
    have m1:r.cU*(A.d.length-p.2)<=r.cU*24:=Nat.mul_le_mul_left _ (by exact jF ‹_›)
    have m2:j.cU*(p.2-t.size false)<=j.cU*24:=Nat.mul_le_mul_left _ (by exact jF (by exact lB hld b2))
    refine te X (m:=n) (N:=39) r p.2 _ k2 η2 _ _ (LL.aq (λj (h:yr G A _ j)=>h.up (show 5+3*r.ht<=39 from lB (Nat.mul_le_mul_left 3 hh) (Nat.mul_le_mul_left 3 (Nat.le_max_right _ r.ht)))) r (D4 X r)) o4 (by refine (?_:1+_<=_);exact lB hh (Nat.le_max_right (1+j.ht) r.ht)) b2 h2 (by refine rW (List.nil_append ..) ?_;exact lD o3 hl2 m1 m2) (by exact lE o3 hk' hk2 m1 m2) ?_
    refine ⟨λe2=>q.1 ?_,λp2 e2 η3 k3 ξ ξ h3=>q.2 (p.1++p2.1) ?_ η3 p2.2 k3 h3⟩
    ·refine rW e ?_;unfold gc;dsimp only;refine rW e2 ?_;rfl
    ·refine rW e ?_;unfold gc;dsimp only;refine rW e2 ?_;rfl
end
theorem sH:∀{d:List Int},(∀x∈d,0<=x/\x<=255)->aD (d.map Int.toNat)=d:=by
 intro L_
 induction L_ with
 | nil=>
  intro _
  exact rfl
 | cons x d ih=>
  intro h
  have h1:=h x List.mem_cons_self
  have:∀k:Nat,k<256->Builtin.bitAnd (k:Int) 255=k:=by decide+kernel
  refine (?_:Builtin.bitAnd (x.toNat:Int) 255::aD (d.map Int.toNat)=_)
  exact rW (ih λy hy=>h y (List.mem_cons_of_mem _ hy)) (rW (this _ (by lia)) (rW (Int.toNat_of_nonneg h1.1) rfl))
section
variable {G:Gc}(X:GX G){n:Nat}{η:Hm}{E:Prop}{Q:V->Hm->Prop}
include X
theorem ql {d:List Int}(hl:d.length<=24)(hd:∀x∈d,0<=x/\x<=255)(q:∀A η',A.d=d->Uk A ⟨0,[],[0],0⟩ η'->Q (.ref A.p) η'):ah G (n+2) (.ref aH) [.lst (d.map V.int),gI] η Q E:=by
 obtain ⟨m1,m2,m3⟩:=X.EU (aH,bC) (by simp)
 refine ik m1 m2 m3 λx dx hx hdx hne=>?_
 refine spec X 51 rfl rfl rfl ?_
 have am:∀nm,kY.contains (aH,nm)=true->(aH,nm)∈G.dP:=λnm=>bl X
 refine cu (C:=aH) (dx:=dx) (ks':= ["data"]) (vs':= [.lst (d.map V.int)]) ag (by exact rW (af (Ne.symm hne)) (rW ag rfl)) (am _ (by decide+kernel)) (by decide) (by kernel_rfl) ?_
 refine cu (C:=aH) (dx:=dx) (ks':= ["data","at"]) (vs':= [.lst (d.map V.int), .int 0]) (by exact rW (af hne) (rW ag rfl)) ag (am _ (by decide+kernel)) (by decide) (by kernel_rfl) ?_
 refine rW ak ?_
 intro o ho
 obtain ⟨ho1,ho⟩:=cw ho
 obtain ⟨ho2,ho⟩:=cw ho
 refine cu (C:=aH) (dx:=dx) (ks':= ["data","at","found"]) (vs':= [.lst (d.map V.int), .int 0, .ref o]) (by exact rW (af (Ne.symm ho2)) (rW (af hne) (rW ag rfl))) (by exact rW (af (Ne.symm ho1)) (rW ag rfl)) (am _ (by decide+kernel)) (by decide) (by kernel_rfl) ?_
 intro st hst
 obtain ⟨hs1,hst⟩:=cw hst
 obtain ⟨hs2,hst⟩:=cw hst
 obtain ⟨hs3,hst⟩:=cw hst
 obtain ⟨hs4,hst⟩:=cw hst
 refine cu (C:=aH) (dx:=dx) (ks':= ["data","at","found","starts"]) (vs':= [.lst (d.map V.int), .int 0, .ref o, .ref st]) (by exact rW (af (Ne.symm hs4)) (rW (af hne) (rW (af (Ne.symm ho2)) (rW (af hne) (rW ag rfl))))) (by exact rW (af (Ne.symm hs1)) (rW ag rfl)) (am _ (by decide+kernel)) (by decide) (by kernel_rfl) ?_
 refine cu (C:=aH) (dx:=dx) (ks':= ["data","at","found","starts","limits"]) (vs':= [.lst (d.map V.int), .int 0, .ref o, .ref st,gI]) (by exact rW (af hne) (rW (af (Ne.symm hs4)) (rW (af hne) (rW (af (Ne.symm ho2)) (rW (af hne) (rW ag rfl)))))) ag (am _ (by decide+kernel)) (by decide) (by kernel_rfl) ?_
 refine rW ak ?_
 refine cu (C:=aH) (dx:=dx) (ks':=Ck) (vs':= [.lst (d.map V.int), .int 0, .ref o, .ref st,gI, .int 0]) (by exact rW (af hne) (rW (af (Ne.symm hs4)) (rW (af hne) (rW (af (Ne.symm ho2)) (rW (af hne) (rW ag rfl)))))) ag (am _ (by decide+kernel)) (by decide) (by kernel_rfl) ?_
 refine rW ak ?_
 refine ⟨rfl,q ⟨x,dx,o,st,d⟩ _ rfl ⟨?_,ag,?_,?_,Ne.symm hs2,hl,hd⟩⟩
 ·exact rW (af hne) (rW (af (Ne.symm hs4)) (rW (af hne) (rW (af (Ne.symm ho2)) (rW (af hne) (rW ag rfl)))))
 ·exact rW (af ho1) (rW (af (Ne.symm hs2)) (rW (af ho1) (rW ag rfl)));first|done|rfl
 ·refine rW (af hs1) (rW ag ?_);first|done|rfl
theorem kb {d:List Int}(hdl:d.length<=24)(hd:∀x∈d,0<=x/\x<=255){l:LL}{text:Str}(hl:l.vB d)(hh:l.ht<=10)
  (hp:∀{η:Hm} {Q:V->Hm->Prop},Q (.lst l.v) η->ah G (n+50) (.ref aF) [.str text] η Q E) (q:(uF d l=none->E)/\∀vs,uF d l=some vs->∀η',Q (.lst vs) η'):
  ah G (n+51) (.ref bA) [.str text, .str (du d),gI] η Q E:=by
 refine spec X 66 rfl rfl rfl ?_
 have loop:∀(cs:List Nat) (acc:List V),acc.length+cs.length<1000000->acc++(aD cs).map V.int=d.map V.int->
   cX (λY η Q=>(wp G (n+50) (.bin false .BitAnd (.bi .ord false (.c (.l 4) .n)) (.int 255))).1 False η ((yn [.str text, .str (du d),gI] 5).set 4 (some Y)) Q) (cs.map λc=> .str ⟨#[c]⟩) acc η λl η2=>eA false l η2 λY η2=>ah G (n+50) (.ref aH) [Y,gI] η2 (λY η2=>aQ G (n+50) (iw.sl.tl 1) E η2 [some (.str text),some (.str (du d)),some gI,some Y,none] (fin Q)) E:=by
  intro cs
  induction cs with
  | nil=>
   intro acc _ e
   obtain rfl:acc=d.map V.int:=by simpa [aD] using e
   refine ql X (n:=n+48) hdl hd λA η1 hA h1=>?_
   clear e hd hdl;subst hA
   refine hp ?_
   refine A9 X (n:=n+10) hl hh h1 ⟨q.1,λvs e η2 i k' h2=>?_⟩
   refine ⟨_,eU X h2, .inl ⟨_,h2.lf,?_⟩⟩
   exact q.2 vs e _
  | cons c cs ih=>
   intro acc hl e
   rw [List.length_cons] at hl
   refine ⟨by exact lA hl,c,rfl,?_⟩
   refine ih _ (by refine rW List.length_append (rW List.length_singleton ?_);exact lA hl) ?_
   refine rV e ?_;simp [aD]
 exact loop (d.map Int.toNat) [] (by simp;exact bt ‹_› (by rfl)) (by refine rW (sH hd) ?_;rfl)
end
noncomputable def bB.lc:bB->V
 | .au=> .none
 | .num k=> .int k
 | .star=> .str "*"
noncomputable def bj (so le o:Str)(b:Bool)(c inn:V):V:= .tup [.str so, .str le, .str o, .bool b,c,inn]
noncomputable def PI.lw (ov:Option Nat):PI->V
 | .num t o b c=>bj "num" t.str o b (c.ov ov).lc .none
 | .text t c=>bj "text" t.str "" false (c.ov ov).lc .none
 | .dig t c=>bj "digits" t.str "" false (c.ov ov).lc .none
 | .fS c=>bj "nought" "x" "" false (c.ov ov).lc .none
mutual
noncomputable def LI.lw:LI->Option Nat->V
 | .pl p,ov=>p.lw ov
 | .aI o c l,ov=>bj "group" "" o false (c.ov ov).lc (.lst l.lw)
 | .cnt t j,_=>bj "counted" t.str "" false .none (j.lw none)
noncomputable def LL.lw:LL->List V
 | .nil=> []
 | .cons j r=>j.lw none::r.lw
end
theorem Ce (x:Int):Builtin.bitAnd x 255=x.fmod 256:=by
 refine rW (Int.fmod_eq_emod_of_nonneg _ (by decide)) ?_;exact PyProof.Rows.bitAnd_m8 x
theorem cm {α:Type}{body:V->Hm->(V->Hm->Prop)->Prop}{F g:α->V}{η:Hm}{Qf:List V->Hm->Prop}:∀(l:List α) (acc:List V),(∀x∈l,∀Q:V->Hm->Prop,Q (g x) η->body (F x) η Q)->acc.length+l.length<16000000->Qf (acc++l.map g) η->cX body (l.map F) acc η Qf:=by
 intro L_
 induction L_ with
 | nil=>
  intro acc _ _ q
  rw [List.map_nil,List.append_nil] at q;exact q
 | cons x l ih=>
  intro acc h hl q
  rw [List.length_cons] at hl
  refine ⟨by exact sR ‹_›,h x List.mem_cons_self _ (ih _ (λy hy=>h y (List.mem_cons_of_mem _ hy)) (by refine rW List.length_append (rW List.length_singleton ?_);exact lA hl) ?_)⟩
  refine rW (List.append_assoc ..) ?_;exact q
section
variable {G:Gc}(X:GX G){n:Nat}{η:Hm}{Q:V->Hm->Prop}{E:Prop}
include X
theorem p8 (q:Q (.rk eW Aw) η):ah G (n+1) (.ref aC) [] η Q E:=
 X.CZ λp hp hn=>by
  have:xB.all (λp=> !(decide (p.1=Str.ofString "FIXED"))||(match p.2 with| .rk _ _=>true|_=>false))=true:=by decide+kernel
  rcases List.mem_iff_getElem?.mp hp with ⟨i,hi⟩
  have hi9:i=5:=by
   have h:∀i,i<17->i≠5->(xB[i]?.any λp=>decide (p.1=Str.ofString "FIXED"))=false:=by decide+kernel
   by_cases z:i=5
   ·exact z
   ·have hl:i<17:=(List.getElem?_eq_some_iff.mp hi).1
    have:=h i hl z
    rw [hi] at this
    exact absurd hn (of_decide_eq_false this)
  clear hn hp;subst hi9
  cases hi
  exact q
theorem aV {c:bB}{s:Nat}(q:Q (.int (tm c s)) η):ah G (n+1) (.ref ay) [c.lc, .int s] η Q E:=by
 refine spec X 77 rfl rfl rfl ?_
 cases c with
 | au=>exact q
 | star=>exact tT rfl q
 | num k=>exact q
theorem kJ {so o:Str}{t:NL}{b:Bool}{c inn:V}(q:Q (.int (t.size b)) η):ah G (n+2) (.ref dZ) [bj so t.str o b c inn] η Q E:=by
 refine spec X 75 rfl rfl rfl ?_
 unfold NL.size at q
 cases b
 ·exact ⟨λh=>(nomatch h),λξ=>p8 X ⟨_,t.look,q⟩⟩
 ·refine ⟨λξ=>⟨λh=>?_,λh=>p8 X ⟨_,t.look,?_⟩⟩,λh=>(nomatch h)⟩
  ·rw [show t.is "lL"=true from h] at q;exact q
  ·rw [show t.is "lL"=false from h] at q;exact q
theorem ji {so o:Str}{t:NL}{b:Bool}{c inn:V}(q:Q (.bool (t.big o)) η):ah G (n+1) (.ref cL) [bj so t.str o b c inn] η Q E:=by
 refine spec X 76 rfl rfl rfl ?_
 refine ⟨λh=>?_,λh=>?_⟩
 ·have h:t.is "nN"=true:=h
  rw [show t.big o=t.is "nN" by unfold NL.big;refine rW h ?_;rfl] at q;exact q
 ·have h:t.is "nN"=false:=h
  rw [show t.big o=decide (o=">") by unfold NL.big;refine rW h ?_;rfl] at q;exact q
omit X in
theorem wN (i:Int)(w:Nat):(List.range w).map (λk:Nat=>(i.fdiv (256^k)).fmod 256)=jy i w:=by
 unfold jy
 refine List.map_congr_left λk ξ=>?_
 refine rW (Ce ..) (rW Int.pow_mul ?_);rfl
theorem rG {so o:Str}{t:NL}{b:Bool}{c inn:V}{i:Int}(q:Q (.lst ((rowOf i (t.size b) (t.big o)).map .int)) η):ah G (n+3) (.ref dT) [bj so t.str o b c inn, .int i] η Q E:=by
 refine spec X 78 rfl rfl rfl ?_
 have hw:=size_le t b
 refine kJ X ?_
 refine ⟨_,aO (by exact bt ‹_› (by rfl)),?_⟩
 refine cm (g:=λk:Nat=> .int ((i.fdiv (256^k)).fmod 256)) (List.range (t.size b)) [] (λk hk Q q=>?_) (by refine rW List.length_range (rW List.length_nil ?_);exact vo ‹_› (by rfl)) ?_
 ·have hk:k<8:=by have:=List.mem_range.mp hk;exact ka ‹_› ‹_›
  have hp:∀k,k<8->(256:Int)^k≠0/\((256:Int)^k).natAbs<2^64:=by decide+kernel
  exact ⟨⟨by exact iA (Int.natCast_nonneg k),by refine rW (show (Builtin.Int.intBits 256:Int)=9 by decide+kernel) ?_;lia⟩,⟨(hp k hk).1,cM (hp k hk).2⟩,by decide,q⟩
 ·rw [List.nil_append,show ((List.range (t.size b)).map λk:Nat=>V.int ((i.fdiv (256^k)).fmod 256))=(jy i (t.size b)).map V.int by refine rV (wN ..) (rW List.map_map ?_);rfl]
  unfold rowOf at q
  refine ji X ⟨λz=>?_,λz=>?_⟩
  ·rw [if_pos z] at q
   have hl:((jy i (t.size b)).map V.int).length<2^20:=by refine rW (List.length_map ..) ?_;simp [jy];exact bt ‹_› (by rfl)
   refine ⟨rfl,sz hl,?_⟩
   refine rW (hJ ..) (rV List.map_reverse ?_)
   exact q
  ·rw [if_neg (by refine rW z ?_;decide)] at q
   exact q
end
theorem lK {α β:Type}(f:β->α->β):∀(l:List α) (x:β),(∀y∈l,∀x,f x y=x)->l.foldl f x=x
 | [],_,_=>rfl
 | y::l,x,h=>by refine rW List.foldl_cons (rW (h y List.mem_cons_self ..) ?_);exact lK f l x λz hz=>h z (List.mem_cons_of_mem _ hz)
theorem fold_congr {α β:Type}{f g:β->α->β}:∀(l:List α) (x:β),(∀y∈l,∀x,f x y=g x y)->l.foldl f x=l.foldl g x:=by
 intro L_
 induction L_ with
 | nil=>
  intro _ _
  exact rfl
 | cons y l ih=>
  intro x h
  rw [List.foldl_cons,List.foldl_cons,h y List.mem_cons_self];exact ih _ λz hz=>h z (List.mem_cons_of_mem _ hz)
section
variable {w:Nat}(g:Nat->Int->Int->Int)(hg:∀k x,g k 0 x=x)(p:Nat->Int)
noncomputable def kN (g:Nat->Int->Int->Int)(w:Nat)(p:Nat->Int)(m j:Nat):Int:=(List.range w).foldl (λx k=>g k (if w*j+k<m then p (w*j+k) else 0) x) 0
include hg
theorem zg {m j k:Nat}(hk:k<w)(hm:m=w*j+k):kN g w p (m+1) j=g k (p m) (kN g w p m j):=by
 subst hm
 unfold kN
 obtain ⟨d,rfl⟩:∃d,w=k+1+d:=⟨w-(k+1),by exact qA ((Nat.sub_add_cancel hk).symm)⟩
 rw [List.range_add,List.range_succ,List.foldl_append,List.foldl_append,List.foldl_append,List.foldl_append,List.foldl_cons,List.foldl_cons,List.foldl_nil,List.foldl_nil]
 refine rW (if_pos (Nat.lt_succ_self _)) (rW (if_neg (Nat.lt_irrefl _)) (rW (hg ..) ?_))
 rw [lK _ ((List.range d).map _),lK _ ((List.range d).map _)]
 ·congr 1
  refine fold_congr _ _ λy hy x=>?_
  have:=List.mem_range.mp hy
  exact rW (if_pos (by exact lA this)) (rW (if_pos (by exact lA this)) rfl)
 ·intro y hy x
  obtain ⟨z, -,rfl⟩:=List.mem_map.mp hy
  exact rW (if_neg (by simp+arith)) (rW (hg ..) rfl)
 ·intro y hy x
  obtain ⟨z, -,rfl⟩:=List.mem_map.mp hy
  exact rW (if_neg (by simp+arith)) (rW (hg ..) rfl)
omit hg in
theorem uK {m j:Nat}(h:m<w*j\/w*j+w<=m):kN g w p (m+1) j=kN g w p m j:=by
 refine fold_congr _ _ λk hk x=>?_
 have:=List.mem_range.mp hk
 by_cases z:w*j+k<m
 ·exact rW (if_pos z) (rW (if_pos (by exact ka ‹_› (by simp+arith only))) rfl)
 ·exact rW (if_neg z) (rW (if_neg λy=>z (Nat.lt_of_le_of_ne (Nat.le_of_lt_succ y) λy=>h.elim (λh=>fB h (eL y)) λh=>fC h this (eR y))) (by with_reducible rfl))
set_option tactic.hygienic true in
theorem kD {step:List Int->Nat->List Int}(hs:∀r k,k/w<r.length->step r k=r.set (k/w) (g (k%w) (p k) (r.getD (k/w) 0)))(hw:0<w)(n:Nat):∀m,m<=n*w->(List.range m).foldl step (List.replicate n 0)=(List.range n).map (kN g w p m)
 | 0,_=>by
  refine List.ext_getElem (by simp) λi h1 h2=>?_
  simp only [List.range_zero,List.foldl_nil,List.getElem_replicate,List.getElem_map,List.getElem_range]
  exact (lK _ _ _ λy ξ x=>by exact rW (if_neg (Nat.not_lt_zero _)) (rW (hg ..) rfl)).symm
 | m+1,h=>by
  refine rW List.range_succ (rW List.foldl_append (rW (kD hs hw n m (by exact Nat.le_of_lt (by assumption))) (rW List.foldl_cons (rW List.foldl_nil ?_))))
  have hlt:m/w<n:=(Nat.div_lt_iff_lt_mul hw).mpr h
  refine rW (hs _ _ (by simpa using hlt)) ?_
  have hd:=Nat.div_add_mod m w
  have hmo:=Nat.mod_lt m hw
  refine List.ext_getElem (by simp) λi h1 h2=>?_
  have hi:i<n:=by simpa using h2
  refine rW (List.getElem_set ..) ?_
  simp only [List.getElem_map,List.getElem_range]
  split
  ·rename_i e
   clear hi h2 h1;subst e
   refine rW (zg g hg p hmo hd.symm) (rW List.getD_eq_getElem?_getD (rW List.getElem?_map (rW (List.getElem?_range hlt) ?_)))
   rfl
  ·rename_i e
   refine (uK g p ?_).symm
   rcases Nat.lt_or_ge (m/w) i with z|z
   ·left
    have:w*(m/w+1)<=w*i:=Nat.mul_le_mul_left _ z
    rw [Nat.mul_add] at this
    exact lC (eR hd) hmo this
   ·right
    have:w*(i+1)<=w*(m/w):=Nat.mul_le_mul_left _ (by lia)
    rw [Nat.mul_add] at this
    exact lB (eL hd) this
end
noncomputable def mH (big:Bool)(k:Nat)(a x:Int):Int:=if a=0 then x else Builtin.bitOr x (bitAt big k)
noncomputable def v8 (big:Bool)(p:Nat->Int):Int:=if big then p 7+p 6*2+p 5*4+p 4*8+p 3*16+p 2*32+p 1*64+p 0*128 else p 0+p 1*2+p 2*4+p 3*8+p 4*16+p 5*32+p 6*64+p 7*128
theorem zX:∀big:Bool,∀a∈ [(0:Int),1],∀b∈ [(0:Int),1],∀c∈ [(0:Int),1],∀d∈ [(0:Int),1],∀e∈ [(0:Int),1],∀f∈ [(0:Int),1],∀h∈ [(0:Int),1],∀i∈ [(0:Int),1],
  mH big 7 i (mH big 6 h (mH big 5 f (mH big 4 e (mH big 3 d (mH big 2 c (mH big 1 b (mH big 0 a 0)))))))=(if big then i+h*2+f*4+e*8+d*16+c*32+b*64+a*128 else a+b*2+c*4+d*8+e*16+f*32+h*64+i*128):=by decide+kernel
theorem vf {big:Bool}{p:Nat->Int}{m j:Nat}(hp:∀k,p k∈ [(0:Int),1]):kN (mH big) 8 p m j=v8 big λk=>if 8*j+k<m then p (8*j+k) else 0:=by
 have h:∀k,(if 8*j+k<m then p (8*j+k) else 0)∈ [(0:Int),1]:=λk=>by
  split
  ·exact hp _
  ·exact List.mem_cons_self
 exact zX big _ (h 0) _ (h 1) _ (h 2) _ (h 3) _ (h 4) _ (h 5) _ (h 6) _ (h 7)
theorem DY (x:Int):Builtin.bitAnd x 1∈ [(0:Int),1]:=by
 refine rW (bitAnd_m1 ..) ?_
 have:=Int.emod_two_eq x
 rcases this with h|h<;>refine rW h ?_<;>decide
theorem oq (codes:List Int)(count:Nat)(big:Bool):gM codes count big=(List.range ((count+7)/8)).map λj=>v8 big λk=>if 8*j+k<min count codes.length then Builtin.bitAnd (codes.getD (8*j+k) 0) 1 else 0:=by
 unfold gM
 rw [kD (w:=8) (mH big) (λk x=>if_pos rfl) (λk=>Builtin.bitAnd (codes.getD k 0) 1) (λr k hk=>?_) (by decide) _ _ (by exact DU (by exact lA (D6 (count+7))))]
 ·exact List.map_congr_left λj ξ=>vf λk=>DY _
 ·unfold fq mH
  split
  ·refine rW List.getD_eq_getElem?_getD (rW (List.getElem?_eq_getElem hk) ?_)
   exact (List.set_getElem_self hk).symm
  ·have:bitAt big (k%8)=bitAt big k:=by
    have e:((k%8:Nat):Int).fmod ((8:Nat):Int)=(k:Int).fmod ((8:Nat):Int):=by exact rW (mJ ..) (rW (mJ ..) (rW (Nat.mod_mod ..) rfl))
    have e:((k%8:Nat):Int).fmod 8=(k:Int).fmod 8:=e
    unfold bitAt
    exact rW e rfl
   exact rW this rfl
noncomputable def xD (big:Bool)(k:Nat)(a x:Int):Int:=if a=0 then x else Builtin.bitOr x (a*2^(if (decide ((k:Int).fmod 2=0)==big)=true then 4 else 0:Nat))
noncomputable def v2 (big:Bool)(p:Nat->Int):Int:=if big then p 1+p 0*16 else p 0+p 1*16
noncomputable def km:List Int:= [0,1,2,3,4,5,6,7,8,9,10,11,12,13,14,15]
theorem zl:∀big:Bool,∀a∈km,∀b∈km,xD big 1 b (xD big 0 a 0)=(if big then b+a*16 else a+b*16):=by decide+kernel
theorem zk (c:Int):pU c∈km:=by
 have:=kp c
 have h:∀k:Nat,k<16->(k:Int)∈km:=by decide+kernel
 have:=h (pU c).toNat ((Int.toNat_lt this.1).mpr (Int.lt_of_le_of_lt this.2 (by decide)))
 rwa [Int.toNat_of_nonneg (by (simp only [*]))] at this
theorem uM {big:Bool}{p:Nat->Int}{m j:Nat}(hp:∀k,p k∈km):kN (xD big) 2 p m j=v2 big λk=>if 2*j+k<m then p (2*j+k) else 0:=by
 have h:∀k,(if 2*j+k<m then p (2*j+k) else 0)∈km:=λk=>by
  split
  ·exact hp _
  ·exact List.mem_cons_self
 exact zl big _ (h 0) _ (h 1)
theorem n0 (codes:List Int)(count:Nat)(big:Bool):gG codes count big=(List.range ((count+1)/2)).map λj=>v2 big λk=>if 2*j+k<min count codes.length then pU (codes.getD (2*j+k) 0) else 0:=by
 unfold gG
 rw [kD (w:=2) (xD big) (λk x=>if_pos rfl) (λk=>pU (codes.getD k 0)) (λr k hk=>?_) (by decide) _ _ (by exact DU (by exact lA (D7 (count+1))))]
 ·exact List.map_congr_left λj ξ=>uM λk=>zk _
 ·unfold gn xD
  have e:((k%2:Nat):Int).fmod ((2:Nat):Int)=(k:Int).fmod ((2:Nat):Int):=by exact rW (mJ ..) (rW (mJ ..) (rW (Nat.mod_mod ..) rfl))
  have e:((k%2:Nat):Int).fmod 2=(k:Int).fmod 2:=e
  refine rW e ?_
  by_cases z:pU (codes.getD k 0)=0
  ·refine rW (if_pos z) (rW z (rW (Int.zero_mul ..) (rW (bitOr_and ..) ?_)))
   have:0<=Builtin.bitAnd (r.getD (k/2) 0) 0/\Builtin.bitAnd (r.getD (k/2) 0) 0<=0:=dS (m:=0)
   congr 1
   lia
  ·exact rW (if_neg z) rfl
noncomputable def ig (W:List Int)(w i:Nat):List Int:=((W.drop i).take w++List.replicate w 0).take w
noncomputable def fY (W:List Int)(w:Nat)(big:Bool)(i:Nat):List Int:=if big=true then (ig W w i).reverse else ig W w i
noncomputable def gJ (W:List Int)(w:Nat)(base:Int)(big:Bool)(i:Nat):Int:=((List.range w).map λk=>((fY W w big i).getD k 0)*base^k).sum
theorem ie (W:List Int)(w i:Nat):(ig W w i).length=w:=by unfold ig;simp
theorem oo (W:List Int)(w i:Nat):ig W w i=(List.range w).map λk=>W.getD (i+k) 0:=by
 refine List.ext_getElem (by refine rW (ie ..) ?_;simp) λk h1 h2=>?_
 have hk:k<w:=by simpa using h2
 simp only [ig,List.getElem_take,List.getElem_map,List.getElem_range,List.getD_eq_getElem?_getD]
 by_cases z:k<((W.drop i).take w).length
 ·refine rW (List.getElem_append_left z) (rW List.getElem_take (rW List.getElem_drop (rW (List.getElem?_eq_getElem (by rw [List.length_take,List.length_drop] at z;exact lA (qS (Nat.lt_min.mp z).2))) ?_)))
  rfl
 ·refine rW (List.getElem_append_right (by exact Nat.le_of_not_lt (by assumption))) (rW (List.getElem_replicate ..) (rW (List.getElem?_eq_none (by rw [List.length_take,List.length_drop] at z;exact Nat.le_of_not_lt λy=>z (Nat.lt_min.mpr ⟨hk,Nat.lt_sub_of_add_lt (Nat.add_comm i k▸y)⟩))) ?_))
  rfl
theorem BY (W:List Int)(big:Bool)(i:Nat):gJ W 8 2 big i=v8 big λk=>W.getD (i+k) 0:=by
 unfold gJ fY v8
 refine rW (oo ..) ?_
 cases big
 ·refine (?_:W.getD (i+0) 0*1+(W.getD (i+1) 0*2+(W.getD (i+2) 0*4+(W.getD (i+3) 0*8+(W.getD (i+4) 0*16+(W.getD (i+5) 0*32+(W.getD (i+6) 0*64+(W.getD (i+7) 0*128+0)))))))=W.getD (i+0) 0+_+_+_+_+_+_+_)
  dsimp only
  lia
 ·refine (?_:W.getD (i+7) 0*1+(W.getD (i+6) 0*2+(W.getD (i+5) 0*4+(W.getD (i+4) 0*8+(W.getD (i+3) 0*16+(W.getD (i+2) 0*32+(W.getD (i+1) 0*64+(W.getD (i+0) 0*128+0)))))))=W.getD (i+7) 0+_+_+_+_+_+_+_)
  dsimp only
  lia
theorem BZ (W:List Int)(big:Bool)(i:Nat):gJ W 2 16 big i=v2 big λk=>W.getD (i+k) 0:=by
 unfold gJ fY v2
 refine rW (oo ..) ?_
 cases big
 ·refine (?_:W.getD (i+0) 0*1+(W.getD (i+1) 0*16+0)=W.getD (i+0) 0+_)
  dsimp only
  simp+arith
 ·refine (?_:W.getD (i+1) 0*1+(W.getD (i+0) 0*16+0)=W.getD (i+1) 0+_)
  dsimp only
  simp+arith
theorem pX {wt:Int->Int}{codes:List Int}{count m:Nat}(h0:wt 0=0)(i:Nat):((codes.take count).map wt++List.replicate m 0).getD i 0=if i<min count codes.length then wt (codes.getD i 0) else 0:=by
 refine rW List.getD_eq_getElem?_getD ?_
 by_cases z:i<min count codes.length
 ·rw [if_pos z,List.getElem?_append_left (by refine rW (List.length_map ..) (rW List.length_take ?_);exact z),List.getElem?_map,List.getElem?_take_of_lt (by exact ka ‹_› (by exact lA (Nat.min_le_left count codes.length))),List.getD_eq_getElem?_getD,List.getElem?_eq_getElem (by exact ka ‹_› (by exact lA (Nat.min_le_right count codes.length)))]
  rfl
 ·rw [if_neg z,List.getElem?_append_right (by refine rW (List.length_map ..) (rW List.length_take ?_);exact Nat.le_of_not_lt (by assumption)),List.getElem?_replicate]
  split<;>rfl
theorem xZ (codes:List Int)(count m:Nat)(big:Bool):gM codes count big=(List.range ((count+8-1)/8)).map λj=>gJ ((codes.take count).map (λc=>Builtin.bitAnd c 1)++List.replicate m 0) 8 2 big (8*j):=by
 refine rW (oq ..) ?_
 refine List.map_congr_left λj ξ=>?_
 refine rW (BY ..) ?_
 congr 1
 funext k
 exact rW (pX (by decide) ..) rfl
theorem w5 (codes:List Int)(count m:Nat)(big:Bool):gG codes count big=(List.range ((count+2-1)/2)).map λj=>gJ ((codes.take count).map pU++List.replicate m 0) 2 16 big (2*j):=by
 refine rW (n0 ..) ?_
 refine List.map_congr_left λj ξ=>?_
 refine rW (BZ ..) ?_
 congr 1
 funext k
 exact rW (pX (by decide+kernel) ..) rfl
noncomputable def nM:List Nat:= [32,45,48,49,50,51,52,53,54,55,56,57,90,97,98,99,102,113,120]
theorem xM:∀n:Nat,∀c∈uq n,c∈nM:=λn=>by
 induction n using Nat.strongRecOn with
 | ind n ih=>
  have h:∀k,k<10->48+k∈nM:=by decide+kernel
  intro c hc
  by_cases z:n<10
  ·rw [sE z,List.mem_singleton] at hc;subst hc;exact h n z
  ·rw [sG (by exact Nat.le_of_not_lt (by assumption)),List.mem_append,List.mem_singleton] at hc
   rcases hc with hc|rfl
   ·exact ih (n/10) (by exact Bo (lB (nT z) (Nat.div_mul_le_self n 10))) c hc
   ·exact h _ (Nat.mod_lt _ (by decide))
theorem Ae {v:SV}(h:v.ok):∀c∈v.text,c∈nM:=by
 cases v with
 | au=>exact λc hc=>nomatch hc
 | txt l=>exact (show ∀l∈eN,∀c∈l,c∈nM by decide+kernel) l h
 | num i=>
  intro c hc
  have hc:c∈kn i:=hc
  unfold kn at hc
  split at hc
  ·rcases List.mem_cons.mp hc with rfl|hc
   ·decide+kernel
   ·exact xM _ c hc
  ·exact xM _ c hc
theorem tW:∀c∈nM,(Txt.isalpha ⟨#[c]⟩=true->((c:Int).fmod 32+9).fmod 16=pU (Builtin.bitAnd c 255))/\(Txt.isalpha ⟨#[c]⟩=false->(c:Int).fmod 16=pU (Builtin.bitAnd c 255))/\(c:Int).fmod 2=Builtin.bitAnd (Builtin.bitAnd c 255) 1:=by decide+kernel
noncomputable def uo (t:DL)(count:Nat)(tx:List Nat):List Int:=
 if Txt.contains "bB" t.str=true then gM (aD tx) count (decide (t.str="B")) else gG (aD tx) count (decide (t.str="H"))
set_option tactic.hygienic true in
theorem wy {count w:Nat}(hw:0<w)(h:count<2^20)(hw2:w<2^20):itemsOf (.q8 0 count w)=some ((List.range ((count+w-1)/w)).map λ(j:Nat)=> .int (w*j:Nat)):=by
 have hs:Builtin.Range.rangeSize 0 (count:Int) w=((count+w-1)/w:Nat):=by
  unfold Builtin.Range.rangeSize
  refine rW (if_pos (by exact Int.ofNat_lt.mpr (by assumption))) ?_
  split
  ·rename_i z
   have e:(count-1)/w+1=(count+w-1)/w:=by refine rV (Nat.add_div_right _ hw) ?_;exact congrArg (· /w) (Nat.sub_add_comm (Int.natCast_pos.mp z)).symm
   refine rW (show (count:Int)-0-1=((count-1:Nat):Int) by exact (Int.natCast_sub (Int.natCast_pos.mp z)).symm) (rV (Int.natCast_ediv ..) (rV e ?_));rfl
  ·rename_i z
   have:count=0:=Nat.eq_zero_of_not_pos λy=>z (Int.natCast_pos.mpr y)
   clear z h;subst this
   refine rW (Nat.zero_add ..) (rW (Nat.div_eq_of_lt (by exact lA (sC hw))) ?_);rfl
 refine rW (kR ⟨by decide,by decide,Int.natCast_pos.mpr hw,iL (2^31) (lA hw2),Int.lt_of_lt_of_le (by decide) (Int.natCast_nonneg count),iL (2^31) (lA h)⟩) (rW hs (rW (Int.toNat_natCast ..) ?_))
 congr 1
 refine List.map_congr_left λk ξ=>?_
 congr 1
 exact rW (Int.zero_add ..) (rW (Int.natCast_mul ..) (rW (Int.mul_comm ..) rfl))
theorem jD:∀l:List Int,intsOf (l.map V.int)=some l
 | []=>rfl
 | x::l=>by refine (?_:(intsOf (l.map V.int)).map _=_);refine rW (jD l) ?_;rfl
theorem sJ (W:List Int)(w:Nat)(big:Bool)(i:Nat):(fY W w big i).length=w:=by
 unfold fY
 split
 ·exact rW List.length_reverse (rW (ie ..) rfl)
 ·exact ie W w i
section
variable {G:Gc}(X:GX G){n:Nat}{η:Hm}{Q:V->Hm->Prop}{E:Prop}
include X
theorem ng {c:Nat}(hc:c∈nM)(q:Q (.int (pU (Builtin.bitAnd c 255))) η):ah G (n+1) (.ref cK) [.str ⟨#[c]⟩] η Q E:=by
 refine spec X 79 rfl rfl rfl ?_
 obtain ⟨h1,h2, -⟩:=tW c hc
 refine ⟨λz=>⟨c,rfl,by decide,by decide,?_⟩,λz=>⟨c,rfl,by decide,?_⟩⟩
 ·refine rW (h1 z) ?_;exact q
 ·refine rW (h2 z) ?_;exact q
theorem nh {so o:Str}{t:DL}{cv inn:V}{tx:List Nat}{count:Nat}(ht:∀c∈tx,c∈nM)(hl:tx.length<2^10)(hn:count<2^10)(q:Q (.lst ((uo t count tx).map .int)) η):ah G (n+2) (.ref dN) [bj so t.str o false cv inn, .str (ls tx), .int count] η Q E:=by
 refine spec X 80 rfl rfl rfl ?_
 have main:∀(w base:Nat) (W:List Int),(w=8/\base=2\/w=2/\base=16)->W.length<2^11->Q (.lst (((List.range ((count+w-1)/w)).map λj=>gJ W w base (Txt.contains "BH" t.str) (w*j)).map .int)) η->
   aQ G (n+1) (cF.sl.tl 3) E η [some (bj so t.str o false cv inn),some (.str (ls tx)),some (.int count),some (.int w),some (.lst (W.map .int)),some (.int base),none,none,none,none,none] (fin Q):=by
  intro w base W hwb hW q a ha
  have hw:=F0 hwb
  refine ⟨⟨Int.natCast_ne_zero.mpr (Nat.ne_of_gt hw.1),cM (Nat.lt_of_le_of_lt hw.2 (by decide))⟩,_,wy (count:=count) hw.1 (by exact fb ‹_› (by rfl)) (by exact lA hw.2),?_⟩
  have loop:∀(k m:Nat) (s7 s8:Option V),k+m=(count+w-1)/w->
    forL G (n+1) E Q (cF.sl.tl 4) [7] false (((List.range ((count+w-1)/w)).drop m).map λ(j:Nat)=> .int (w*j:Nat)) (upd η a (.list (((List.range m).map λj=>gJ W w base (Txt.contains "BH" t.str) (w*j)).map .int)))
     [some (bj so t.str o false cv inn),some (.str (ls tx)),some (.int count),some (.int w),some (.lst (W.map .int)),some (.int base),some (.ref a),s7,s8,none,none]:=by
   intro k
   induction k with
   | zero=>
    intro m s7 s8 hm
    obtain rfl:m=(count+w-1)/w:=by exact qA hm
    refine rW (List.drop_eq_nil_of_le (by simp)) ?_
    refine .inl ⟨_,ag,?_⟩
    refine rW (bJ ha) ?_
    exact q
   | succ k ih=>
    intro m s7 s8 hm
    have hlt:m<(count+w-1)/w:=by exact lA (eL hm)
    refine rW (List.drop_eq_getElem_cons (by simpa using hlt)) (rW (List.getElem_range ..) ?_)
    have hwl:(W.map V.int).length<2^20:=by refine rW (List.length_map ..) ?_;exact fb ‹_› (by rfl)
    refine ⟨sz hwl,?_⟩
    rw [<-Int.natCast_add,kh,Nat.add_sub_cancel_left, <-List.map_drop, <-List.map_take]
    refine ⟨⟨nP,iL (2^63) (lA hw.2),by refine (?_:1*w<=_);exact lA hw.2⟩,?_⟩
    refine rW (Int.toNat_natCast ..) (rW (gm ..) ?_)
    have e1:(((W.drop (w*m)).take w).map V.int).length+((List.replicate w (0:Int)).map V.int).length<2^20:=by
     refine rW (List.length_map ..) (rW (List.length_map ..) (rW List.length_take (rW List.length_replicate ?_)));exact Nat.lt_of_le_of_lt (Nat.add_le_add (Nat.le_trans (Nat.min_le_left _ _) hw.2) hw.2) (by decide)
    refine ⟨sz e1,?_⟩
    refine rV List.map_append ?_
    have e2:(((W.drop (w*m)).take w++List.replicate w 0).map V.int).length<2^20:=by
     refine rW (List.length_map ..) (rW List.length_append (rW List.length_take (rW List.length_replicate ?_)));exact Nat.lt_of_le_of_lt (Nat.add_le_add (Nat.le_trans (Nat.min_le_left _ _) hw.2) hw.2) (by decide)
    refine ⟨sz e2,?_⟩
    refine rW (iu ..) (rV List.map_take ?_)
    have rest:∀s10:Option V,aQ G (n+1) ((cF.sl.tl 4).hd.body.tl 2) E (upd η a (.list (((List.range m).map λj=>gJ W w base (Txt.contains "BH" t.str) (w*j)).map .int)))
     [some (bj so t.str o false cv inn),some (.str (ls tx)),some (.int count),some (.int w),some (.lst (W.map .int)),some (.int base),some (.ref a),some (.int (w*m:Nat)),some (.lst ((fY W w (Txt.contains "BH" t.str) (w*m)).map .int)),none,none]
     ⟨λη ρ=>forL G (n+1) E Q (cF.sl.tl 4) [7] false (((List.range ((count+w-1)/w)).drop (m+1)).map λ(j:Nat)=> .int (w*j:Nat)) η ρ,λξ ξ=>False,λξ ξ=>False,Q⟩:=λs10=>by
     refine ⟨_,ag,?_⟩
     refine ⟨_,aO (by exact lA hw.2),?_⟩
     refine cm (g:=λk:Nat=> .int ((fY W w (Txt.contains "BH" t.str) (w*m)).getD k 0*(base:Int)^k)) (List.range w) [] (λk hk Q q=>?_) (by refine rW List.length_range (rW List.length_nil ?_);exact lA hw.2) ?_
     ·have hk:k<w:=List.mem_range.mp hk
      refine ⟨_,bX (gz (by refine rW (sJ ..) ?_;exact hk)) (by exact ka ‹_› (by exact lA hw.2)),?_⟩
      have hp:∀k,k<8->Builtin.Int.intBits ((2:Int)^k)<=64/\Builtin.Int.intBits ((16:Int)^k)<=64:=by decide+kernel
      have hp2:(Builtin.Int.intBits 2:Int)=2/\(Builtin.Int.intBits 16:Int)=5:=by decide+kernel
      clear e2 e1 hlt hm ih hw;rcases hwb with ⟨rfl,rfl⟩|⟨rfl,rfl⟩
      ·exact ⟨⟨by exact Int.natCast_nonneg _,by refine (?_:(Builtin.Int.intBits 2:Int)*_<=_);refine rW hp2.1 ?_;lia⟩,IntMulOk.of_right (hp k hk).1,q⟩
      ·exact ⟨⟨by exact iA (Int.natCast_nonneg k),by refine (?_:(Builtin.Int.intBits 16:Int)*_<=_);refine rW hp2.2 ?_;lia⟩,IntMulOk.of_right (hp k (by exact fb ‹_› (by rfl))).2,q⟩
     ·refine rW (List.nil_append ..) ?_
      refine ⟨(List.range w).map λk=>(fY W w (Txt.contains "BH" t.str) (w*m)).getD k 0*(base:Int)^k,by refine rV (jD ..) (rW List.map_map ?_);rfl,?_⟩
      refine ⟨_,ag,sz (by refine rW (List.length_map ..) (rW (List.length_map ..) (rW List.length_range ?_));have:=Nat.div_le_self (count+w-1) w;exact ka ‹_› (by exact lD hn hw.2 this (Nat.sub_le (count+w) 1))),?_⟩
      refine rW ak ?_
      have:=ih (m+1) (some (.int (w*m:Nat))) (some (.lst ((fY W w (Txt.contains "BH" t.str) (w*m)).map .int))) (by exact qA hm)
      rw [List.range_succ,List.map_append,List.map_append,List.map_singleton,List.map_singleton] at this
      exact this
    refine ⟨λz=>?_,λz=>?_⟩
    ·have z:Txt.contains "BH" t.str=true:=z
     have e3:((ig W w (w*m)).map V.int).length<2^20:=by refine rW (List.length_map ..) (rW (ie ..) ?_);exact lA hw.2
     refine ⟨rfl,sz e3,?_⟩
     rw [show fY W w (Txt.contains "BH" t.str) (w*m)=(ig W w (w*m)).reverse from if_pos z] at rest
     have:=rest none
     rw [List.map_reverse, <-hJ] at this
     exact this
    ·have z:Txt.contains "BH" t.str=false:=z
     rw [show fY W w (Txt.contains "BH" t.str) (w*m)=ig W w (w*m) from if_neg (by refine rW z ?_;decide)] at rest
     exact rest none
  exact loop _ 0 none none rfl
 have head:∀(w base:Nat) (wt:Int->Int),wt 0=0->(w=8/\base=2\/w=2/\base=16)->(∀(c:Nat) Q,c∈nM->Q (.int (wt (Builtin.bitAnd c 255))) η->(wp G (n+1) (.f (.q (.l 3) .Eq (.int 8)) (.bin false .Mod (.bi .ord false (.c (.l 9) .n)) (.int 2)) (.fn cK (.c (.l 9) .n)))).1 False η [some (bj so t.str o false cv inn),some (.str (ls tx)),some (.int count),some (.int w),none,none,none,none,none,some (.str ⟨#[c]⟩),none] Q)->
   uo t count tx=((List.range ((count+w-1)/w)).map λj=>gJ (((aD tx).take count).map wt++List.replicate (count-tx.length) 0) w base (Txt.contains "BH" t.str) (w*j))->
   aQ G (n+1) (cF.sl.tl 1) E η [some (bj so t.str o false cv inn),some (.str (ls tx)),some (.int count),some (.int w),none,none,none,none,none,none,none] (fin Q):=by
  intro w base wt hwt hwb hbody e
  refine ⟨sz (by refine rW (av ..) ?_;exact fb ‹_› (by rfl)),?_⟩
  refine rW (wc ..) ?_
  refine cm (F:=λc:Nat=> .str ⟨#[c]⟩) (g:=λc:Nat=> .int (wt (Builtin.bitAnd c 255))) (tx.take count) [] (λc hc Q q=>hbody c Q (ht c (List.mem_of_mem_take hc)) q) (by refine rW List.length_take (rW List.length_nil ?_);exact lB hl (Nat.min_le_right count tx.length)) ?_
  have hls:(ls tx).length=tx.length:=av tx
  refine ⟨by refine rW hls ?_;exact fb ‹_› (by rfl),⟨rW Cw nP,rW Cw (iL (2^63) (lB (Nat.sub_le count (ls tx).length) hn)),by refine (?_:1*_<=_);exact rW Cw (show 1*(count-(ls tx).length)<=2^24 from lB (Nat.sub_le count (ls tx).length) hn)⟩,?_⟩
  refine rW hls (rW (gm ..) (rW (List.nil_append ..) (rW (show ((max 0 ((count:Int)-(tx.length:Nat)))).toNat=count-tx.length from congrArg Int.toNat Cw) ?_)))
  refine ⟨sz (by refine rW (List.length_map ..) (rW (List.length_map ..) (rW List.length_take (rW List.length_replicate ?_)));exact lD hl hn (Nat.min_le_right count tx.length) (Nat.sub_le count tx.length)),?_⟩
  rw [show ((tx.take count).map λc:Nat=>V.int (wt (Builtin.bitAnd c 255)))=(((aD tx).take count).map wt).map V.int by unfold aD;refine rV List.map_take (rW List.map_map (rW List.map_map ?_));rfl, <-List.map_append]
  have key:=main w base (((aD tx).take count).map wt++List.replicate (count-tx.length) 0) hwb (by refine rW List.length_append (rW (List.length_map ..) (rW List.length_take (rW List.length_replicate ?_)));exact Nat.lt_of_le_of_lt (Nat.add_le_add (Nat.min_le_left _ _) (Nat.sub_le _ _)) (lB hn hn)) (by refine rV e ?_;exact q)
  clear e hbody;rcases hwb with ⟨rfl,rfl⟩|⟨rfl,rfl⟩
  ·exact tT rfl ⟨⟨by decide,cM (by decide)⟩,key⟩
  ·exact tF (by decide) key
 have hB:Txt.contains "bB" t.str=true->decide (t.str="B")=Txt.contains "BH" t.str:=by clear head main q;cases t<;>decide+kernel
 have hH:Txt.contains "bB" t.str=false->decide (t.str="H")=Txt.contains "BH" t.str:=by clear hB head main q;cases t<;>decide+kernel
 refine ⟨λz=>?_,λz=>?_⟩
 ·refine head 8 2 (λc=>Builtin.bitAnd c 1) (by decide) (.inl ⟨rfl,rfl⟩) (λc Q hc q=>tT rfl ⟨c,rfl,by decide,?_⟩) ?_
  ·refine rW ((tW c hc).2.2) ?_;exact q
  ·unfold uo
   refine rW (if_pos z) (rW (xZ _ _ (count-tx.length) ..) (rW (hB z) ?_))
   rfl
 ·refine head 2 16 pU (by decide+kernel) (.inr ⟨rfl,rfl⟩) (λc Q hc q=>tF (by decide) (ng X hc q)) ?_
  unfold uo
  rw [if_neg (by refine rW (show Txt.contains "bB" t.str=false from z) ?_;decide),w5 _ _ (count-tx.length),hH z]
  rfl
end
noncomputable def SV.pr (v:SV):V:= .tup [v.v, .int v.nat]
noncomputable def eP (vs:List SV)(i:Nat):List V:=(vs.drop i).map SV.pr
theorem gj (vs:List SV)(i:Nat):(eP vs i).length=vs.length-i:=by unfold eP;exact rW (List.length_map ..) (rW List.length_drop rfl)
theorem d0 {η:Hm}{a b:Addr}{x y:AO}(h:b≠a):upd (upd η a x) b y=upd (upd η b y) a x:=by
 funext c;unfold upd
 by_cases q:c=b
 ·subst q;exact rW (if_pos rfl) (rW (if_neg h) (rW (if_pos rfl) rfl))
 ·refine rW (if_neg q) ?_
  by_cases q':c=a
  ·exact rW (if_pos q') (rW (if_pos q') rfl)
  ·exact rW (if_neg q') (rW (if_neg q') (rW (if_neg q) rfl))
theorem jH {η:Hm}{a:Addr}{x:AO}(h:η a=some x):upd η a x=η:=by
 funext c;unfold upd
 by_cases q:c=a
 ·subst q;exact rW (if_pos rfl) (rW h rfl)
 ·exact rW (if_neg q) rfl
noncomputable def S.th:S->SL
 | .f _ x _=>x
 | .tryD x=>x
 | _=> .n
noncomputable def S.el:S->SL
 | .f _ _ x=>x
 | _=> .n
noncomputable abbrev pC (G:Gc)(n:Nat)(E:Prop)(s:SL)(js:List Nat)(tp:Bool)(K:Kp)(items:List V)(η:Hm)(ρ:Ro):Prop:=
 fX (m9 js tp) (λη ρ K=>aQ G n s.hd.body E η ρ K) (λη ρ=>aQ G n (s.tl 1) E η ρ K) K.rt items η ρ
theorem wA (m:Nat):(Nat.repr m).toList=Nat.toDigits 10 m:=by
 first|exact Nat.toList_repr .. |(unfold Nat.repr;exact String.toList_ofList ..)|simp [Nat.repr]
theorem oC (i:Int):Str.ofString (toString i)=ls (kn i):=by
 refine rW (Str.ofString_eq_toList ..) ?_
 unfold kn ls uq
 cases i with
 | ofNat m=>
  refine rW (if_neg (show ¬Int.ofNat m<0 from Int.not_lt.mpr (Int.natCast_nonneg m))) ?_
  refine (?_:(⟨((Nat.repr m).toList.map Char.toNat).toArray⟩:Str)=_)
  refine rW (wA ..) ?_;rfl
 | negSucc m=>
  refine rW (if_pos (Int.negSucc_lt_zero m)) ?_
  refine (?_:(⟨(("-"++Nat.repr (m+1)).toList.map Char.toNat).toArray⟩:Str)=_)
  rw [String.toList_append,wA];rfl
section
variable {G:Gc}(X:GX G){n:Nat}{η:Hm}{Q:V->Hm->Prop}{E:Prop}{vs:List SV}{i:Nat}{a:Addr}{ρ:Ro}
theorem tU (hv:Vals vs)(h:η a=some (.list (eP vs i)))(h1:gv ρ 1 λY=>Y= .ref a)(q:Q (dw none vs i).1.pr (upd η a (.list (eP vs (dw none vs i).2)))):
  (wp G n (.f (.l 1) (.mb .pop (.l 1) (.c (.int 0) .n)) (.tup (.c (.str "") (.c (.int 0) .n))))).1 E η ρ Q:=by
 obtain ⟨Y,e0,rfl⟩:=kT h1
 have hl:=hv.l
 have hl2:=gj vs i
 refine ez e0 ⟨_,h,by exact lC hl (eL hl2) (Nat.sub_le vs.length i),λz=>?_,λz=>?_⟩
 ·have hi:i<vs.length:=by
   rcases Nat.lt_or_ge i vs.length with y|y
   ·exact y
   ·rw [show eP vs i= [] from List.length_eq_zero_iff.mp (rW hl2 (Nat.sub_eq_zero_of_le y))] at z;cases z
  have e:eP vs i=vs[i].pr::eP vs (i+1):=by unfold eP;refine rW (List.drop_eq_getElem_cons hi) ?_;rfl
  refine ez e0 ⟨_,h,rfl,_,_,by exact rW h (rW e rfl),Nat.lt_of_le_of_lt (show (eP vs (i+1)).length<=7 by refine rW (gj ..) ?_;exact jF ‹_›) (by refine rW sizeLine_eq ?_;decide),?_⟩
  have e2:(dw none vs i)=(vs[i],i+1):=by
   refine (?_:(match vs[i]? with|some v=>(v,i+1)|none=>(SV.txt [],i))=_)
   exact rW (List.getElem?_eq_getElem hi) rfl
  rw [e2] at q
  exact q
 ·have hi:vs.length<=i:=by
   rcases Nat.lt_or_ge i vs.length with y|y
   ·rw [show (eP vs i).isEmpty=false by unfold eP;refine rW (List.drop_eq_getElem_cons y) ?_;rfl] at z;cases z
   ·exact y
  have e2:(dw none vs i)=(SV.txt [],i):=by
   refine (?_:(match vs[i]? with|some v=>(v,i+1)|none=>(SV.txt [],i))=_)
   exact rW (List.getElem?_eq_none hi) rfl
  rw [e2,jH h] at q
  have e3:(SV.txt []).pr= .tup [.str (Str.ofString ""), .int 0]:=by
   refine (?_:V.tup [.str (ls []), .int (i7 [])]=_)
   exact rW (show ls []=Str.ofString "" by decide+kernel) (rW (show i7 []=0 by decide+kernel) rfl)
  rw [e3] at q
  exact q
theorem zj {v:SV}(hv:v.ok){j:Nat}(h1:gv ρ j λY=>Y=v.v)(q:Q (.str (ls v.text)) η):(wp G n (.f (.q (.l j) .Is .au) (.str "") (.bi .m8 false (.c (.l j) .n)))).1 E η ρ Q:=by
 obtain ⟨Y,e0,rfl⟩:=kT h1
 refine ez e0 ?_
 cases v with
 | au=>rw [show ls (SV.au).text=Str.ofString "" by decide+kernel] at q;exact q
 | txt l=>exact ez e0 q
 | num i=>
  have hv:i.natAbs<10^30:=hv
  have:i.natAbs.log2<100:=by
   by_cases h0:i.natAbs=0
   ·refine rW h0 ?_;decide
   ·exact (Nat.log2_lt h0).mpr (Nat.lt_trans hv (by decide))
  rw [show ls (SV.num i).text=Str.ofString (toString i) from (oC i).symm] at q
  exact ez e0 ⟨by exact fb ‹_› (by rfl),q⟩
end
theorem xO:∀{tx:List Nat},(∀c∈tx,c∈nM)->tx.map (λc:Nat=>(c:Int))=aD tx:=by
 intro L_
 induction L_ with
 | nil=>
  intro _
  exact rfl
 | cons c tx ih=>
  intro h
  have:∀c∈nM,Builtin.bitAnd (c:Int) 255=c:=by decide+kernel
  refine rW List.map_cons (rW (ih λx hx=>h x (List.mem_cons_of_mem _ hx)) ?_)
  refine (?_:_=Builtin.bitAnd (c:Int) 255::aD tx)
  exact rW (this c (h c List.mem_cons_self)) rfl
theorem z8 (tx:List Nat)(L:Str):((tx.length:Int)+if decide (L=Str.ofString "Z")=true then 1 else 0)=(tx.length+if L=Str.ofString "Z" then 1 else 0:Nat):=by
 by_cases z:L=Str.ofString "Z"
 ·refine rW (if_pos z) (rW (if_pos (decide_eq_true z)) ?_);rfl
 ·rw [if_neg z,if_neg (by refine rW (decide_eq_false z) ?_;exact Bool.false_ne_true)];rfl
section
variable {G:Gc}(X:GX G){n:Nat}{η:Hm}{Q:V->Hm->Prop}{E:Prop}{vs:List SV}{i:Nat}{a:Addr}
include X
theorem kK (hv:Vals vs){t:NL}{o:Str}{b:Bool}{c:bB}{tl:Option Int}(hi:i<=vs.length)(h:η a=some (.list (eP vs i))){m:Nat}(hm:tm c (vs.length-i)=m)(hm2:m<=7)
  (q:Q (.lst ((layNum (λx=>rowOf x (t.size b) (t.big o)) tl vs m i).1.map .int)) (upd η a (.list (eP vs (layNum (λx=>rowOf x (t.size b) (t.big o)) tl vs m i).2)))):
  ah G (n+4) (.ref aN) [bj "num" t.str o b c.lc .none, .ref a,rX tl] η Q E:=by
 refine spec X 81 rfl rfl rfl ?_
 refine tF (by decide+kernel) (tT rfl ?_)
 intro r hr
 have hra:r≠a:=by rintro rfl;rw [hr] at h;cases h
 refine ⟨_,by rw [af (Ne.symm hra)];exact h,by refine rW (gj ..) ?_;have:=hv.l;exact DW (by exact lA this),?_⟩
 refine rW (gj ..) ?_
 refine aV X (s:=vs.length-i) ?_
 refine rW hm ?_
 refine ⟨_,aO (by exact bt ‹_› (by rfl)),?_⟩
 have loop:∀(K:Kp),K.rt=Q->∀(is:List V) (j:Nat) (R:List Int) (s10:Option V),j<=vs.length->R.length+8*is.length<=1000->
   Q (.lst ((R++(layNum (λx=>rowOf x (t.size b) (t.big o)) tl vs is.length j).1).map .int)) (upd η a (.list (eP vs (layNum (λx=>rowOf x (t.size b) (t.big o)) tl vs is.length j).2)))->
   pC G (n+3) E ((aK.sl.tl 2).hd.th.tl 1) [10] false K is (upd (upd η a (.list (eP vs j))) r (.list (R.map .int)))
    [some (bj "num" t.str o b c.lc .none),some (.ref a),some (rX tl),some (.str "num"),some (.str t.str),some (.str o),some (.bool b),some c.lc,some .none,some (.ref r),s10,none,none,none,none]:=by
  intro K hK is
  induction is with
  | nil=>
   intro j R s10 hj hR q
   refine .inl ⟨_,ag,?_⟩
   rw [bJ (by refine rW (af hra) ?_;exact hr)]
   refine (?_:K.rt _ _)
   refine rW hK ?_
   rw [show (layNum (λx=>rowOf x (t.size b) (t.big o)) tl vs ([]:List V).length j)=([],j) from rfl,List.append_nil] at q
   exact q
  | cons x is ih=>
   intro j R s10 hj hR q
   rw [List.length_cons] at q hR
   have e1:layNum (λx=>rowOf x (t.size b) (t.big o)) tl vs (is.length+1) j=(rowOf (dw tl vs j).1.nat (t.size b) (t.big o)++(layNum (λx=>rowOf x (t.size b) (t.big o)) tl vs is.length (dw tl vs j).2).1,(layNum (λx=>rowOf x (t.size b) (t.big o)) tl vs is.length (dw tl vs j).2).2):=rfl
   rw [e1] at q
   have hw:=size_le t b
   have go:∀j',j'=(dw tl vs j).2->j'<=vs.length->ah G (n+3) (.ref dT) [bj "num" t.str o b c.lc .none, .int (dw tl vs j).1.nat] (upd (upd η a (.list (eP vs j'))) r (.list (R.map .int)))
     (λY η2=>lO .Add (.ref r) Y η2 λW η2=>pC G (n+3) E ((aK.sl.tl 2).hd.th.tl 1) [10] false K is η2 [some (bj "num" t.str o b c.lc .none),some (.ref a),some (rX tl),some (.str "num"),some (.str t.str),some (.str o),some (.bool b),some c.lc,some .none,some W,some x,none,none,none,none]) E:=λj' e hj'=>by
    refine rG X ?_
    refine ⟨_,ag,sz (by refine rW (List.length_map ..) (rW (List.length_map ..) (rW (cN ..) ?_));exact pO ‹_› (by exact lA hR)),?_⟩
    refine rW ak (rV List.map_append ?_)
    refine ih j' _ _ hj' (by refine rW List.length_append (rW (cN ..) ?_);exact lB hR hw) ?_
    refine rW (List.append_assoc ..) (rW e ?_)
    exact q
   clear e1 q ih;cases tl with
   | some z=>exact go j rfl hj
   | none=>
    have key:=tU (G:=G) (n:=n+3) (E:=E) (η:=upd (upd η a (.list (eP vs j))) r (.list (R.map .int))) (a:=a) (i:=j) (ρ:= [some (bj "num" t.str o b c.lc .none),some (.ref a),some (rX none),some (.str "num"),some (.str t.str),some (.str o),some (.bool b),some c.lc,some .none,some (.ref r),some x,none,none,none,none])
     (Q:=λW η2=>rq W (.int 1) η2 λY=>ah G (n+3) (.ref dT) [bj "num" t.str o b c.lc .none,Y] η2 (λY η2=>lO .Add (.ref r) Y η2 λW η2=>pC G (n+3) E ((aK.sl.tl 2).hd.th.tl 1) [10] false K is η2 [some (bj "num" t.str o b c.lc .none),some (.ref a),some (rX none),some (.str "num"),some (.str t.str),some (.str o),some (.bool b),some c.lc,some .none,some W,some x,none,none,none,none]) E) hv (by exact rW (af (Ne.symm hra)) (rW ag rfl)) (ez rfl rfl) (by
      refine rW (d0 (Ne.symm hra)) (rW ak ?_)
      exact go _ rfl (pa hj))
    exact key
 have:=loop ⟨λη ρ=>aQ G (n+3) (aK.sl.tl 3) E η ρ (fin Q),(fin Q).br,(fin Q).ct,Q⟩ rfl ((List.range m).map λ(k:Nat)=>V.int k) i [] none hi (by simp;exact lA (Nat.mul_le_mul_left 8 hm2)) (by refine rW (List.length_map ..) (rW List.length_range ?_);exact q)
 rw [jH h] at this
 exact this
end
section
variable {G:Gc}(X:GX G){n:Nat}{η:Hm}{Q:V->Hm->Prop}{E:Prop}{vs:List SV}{i:Nat}{a:Addr}
include X
theorem qg {o:Str}{b:Bool}{c:bB}{st tl:V}(hc:tm c 0<2^10)(q:Q (.lst ((List.replicate (tm c 0) 0).map .int)) η):
  ah G (n+4) (.ref aN) [bj "nought" "x" o b c.lc .none,st,tl] η Q E:=by
 refine spec X 81 rfl rfl rfl ?_
 refine tT rfl ?_
 refine aV X (n:=n+2) (s:=0) ⟨⟨nP,iL (2^63) (lA hc),by refine (?_:1*tm c 0<=_);exact lA hc⟩,?_⟩
 refine rW (Int.toNat_natCast ..) (rW (gm ..) ?_)
 exact q
theorem jO (hv:Vals vs){so L:Str}{c:bB}(hi:i<=vs.length)(h:η a=some (.list (eP vs i)))(hs:so≠"nought"/\so≠"num")
  (q:aQ G (n+3) (aK.sl.tl 5) E (upd η a (.list (eP vs (dw none vs i).2))) [some (bj so L "" false c.lc .none),some (.ref a),some .none,some (.str so),some (.str L),some (.str ""),some (.bool false),some c.lc,some .none,none,none,some (.str (ls (dw none vs i).1.text)),none,none,none] (fin Q)):
  ah G (n+4) (.ref aN) [bj so L "" false c.lc .none, .ref a, .none] η Q E:=by
 refine spec X 81 rfl rfl rfl ?_
 refine tF hs.1 (tF hs.2 ?_)
 have key:=tU (G:=G) (n:=n+3) (E:=E) (η:=η) (a:=a) (i:=i) (ρ:= [some (bj so L "" false c.lc .none),some (.ref a),some .none,some (.str so),some (.str L),some (.str ""),some (.bool false),some c.lc,some .none,none,none,none,none,none,none])
  (Q:=λW η2=>rq W (.int 0) η2 λY=>aQ G (n+3) (aK.sl.tl 4) E η2 [some (bj so L "" false c.lc .none),some (.ref a),some .none,some (.str so),some (.str L),some (.str ""),some (.bool false),some c.lc,some .none,none,none,some Y,none,none,none] (fin Q)) hv h (ez rfl rfl) (by
   have k2:=zj (G:=G) (n:=n+3) (E:=E) (η:=upd η a (.list (eP vs (dw none vs i).2))) (j:=11) (ib hv i) (ρ:= [some (bj so L "" false c.lc .none),some (.ref a),some .none,some (.str so),some (.str L),some (.str ""),some (.bool false),some c.lc,some .none,none,none,some (dw none vs i).1.v,none,none,none])
    (Q:=λY η2=>aQ G (n+3) (aK.sl.tl 5) E η2 [some (bj so L "" false c.lc .none),some (.ref a),some .none,some (.str so),some (.str L),some (.str ""),some (.bool false),some c.lc,some .none,none,none,some Y,none,none,none] (fin Q)) (ez rfl rfl) q
   exact k2)
 exact key
theorem qh (hv:Vals vs){t:DL}{c:bB}(hi:i<=vs.length)(h:η a=some (.list (eP vs i)))(hc:c.le 40)
  (q:Q (.lst ((t.row c (dw none vs i).1.text).map .int)) (upd η a (.list (eP vs (dw none vs i).2)))):ah G (n+4) (.ref aN) [bj "digits" t.str "" false c.lc .none, .ref a, .none] η Q E:=by
 refine jO X hv hi h (by decide+kernel) ?_
 have hok:=ib hv i
 have hx:=jr hok
 have hal:=Ae hok
 generalize (dw none vs i).1.text=tx at q hx hal ⊢
 refine tT rfl ?_
 have hls:(ls tx).length=tx.length:=av tx
 refine ⟨by refine rW hls ?_;exact bt ‹_› (by rfl),?_⟩
 refine rW hls ?_
 have htm:tm c tx.length<=40:=gi hc (by decide) (by exact j7 ‹_› (by rfl))
 refine aV X (n:=n+2) (s:=tx.length) ?_
 refine nh X (n:=n+1) hal (by exact bt ‹_› (by rfl)) (by exact bt ‹_› (by rfl)) ?_
 unfold DL.row at q
 dsimp only at q
 rw [bk] at q
 exact q
theorem qf (hv:Vals vs){t:TL}{c:bB}(hi:i<=vs.length)(h:η a=some (.list (eP vs i)))(hc:c.le 40)
  (q:Q (.lst ((t.row c (dw none vs i).1.text).map .int)) (upd η a (.list (eP vs (dw none vs i).2)))):ah G (n+4) (.ref aN) [bj "text" t.str "" false c.lc .none, .ref a, .none] η Q E:=by
 refine jO X hv hi h (by decide+kernel) ?_
 have hok:=ib hv i
 have hx:=jr hok
 have hal:=Ae hok
 generalize (dw none vs i).1.text=tx at q hx hal ⊢
 refine tF (by decide+kernel) ?_
 have hls:(ls tx).length=tx.length:=av tx
 refine ⟨by refine rW hls ?_;exact lA hx,?_⟩
 refine rW hls ?_
 have hrow:=t.cN c tx
 unfold TL.row at q hrow
 dsimp only at q hrow
 rw [bk] at q hrow
 have htm:tm c (tx.length+if t.str="Z" then 1 else 0)<=40:=gi hc (by decide) (by split<;>exact lA hx)
 have key:=aV X (n:=n+2) (c:=c) (s:=tx.length+if t.str="Z" then 1 else 0) (E:=E) (η:=upd η a (.list (eP vs (dw none vs i).2)))
  (Q:=λY η2=>aQ G (n+3) (aK.sl.tl 7) E η2 [some (bj "text" t.str "" false c.lc .none),some (.ref a),some .none,some (.str "text"),some (.str t.str),some (.str ""),some (.bool false),some c.lc,some .none,none,none,some (.str (ls tx)),some Y,none,none] (fin Q))
 rw [<-z8] at key
 refine key ?_
 generalize tm c (tx.length+if t.str="Z" then 1 else 0)=size at q hrow htm ⊢
 refine cm (F:=λc:Nat=> .str ⟨#[c]⟩) (g:=λc:Nat=> .int c) tx [] (λc hc Q q=>⟨c,rfl,q⟩) (by refine rW List.length_nil ?_;exact vo ‹_› (by rfl)) ?_
 rw [List.nil_append,show (tx.map λc:Nat=>V.int c)=(aD tx).map V.int by refine rV (xO hal) (rW List.map_map ?_);rfl]
 have hcl:((aD tx).map V.int).length<2^20:=by refine rW (List.length_map ..) (rW (bk ..) ?_);exact bt ‹_› (by rfl)
 have fin:∀kept:List Int,kept.length<=size->kept=(if t.str="Z" then (aD tx).take (size-1) else (aD tx).take size)->
   aQ G (n+3) (aK.sl.tl 8) E (upd η a (.list (eP vs (dw none vs i).2))) [some (bj "text" t.str "" false c.lc .none),some (.ref a),some .none,some (.str "text"),some (.str t.str),some (.str ""),some (.bool false),some c.lc,some .none,none,none,some (.str (ls tx)),some (.int size),some (.lst (kept.map .int)),none] (fin Q):=by
  intro kept hk e
  rw [<-e] at q hrow
  have last:∀w:Int,w=(if t.str="A" then 32 else 0)->((kept.map V.int).length<2^63/\(-(2^63:Int)<=(size:Int)-(kept.map V.int).length/\(size:Int)-(kept.map V.int).length<2^63/\1*((size:Int)-(kept.map V.int).length).toNat<=2^24)/\
    (kept.map V.int).length+(List.replicate ((size:Int)-(kept.map V.int).length).toNat [V.int w]).flatten.length<=sizeLine/\Q (.lst (kept.map V.int++(List.replicate ((size:Int)-(kept.map V.int).length).toNat [V.int w]).flatten)) (upd η a (.list (eP vs (dw none vs i).2)))):=by
   intro w hw
   rw [List.length_map,show ((size:Int)-kept.length).toNat=size-kept.length by simp,gm, <-List.map_append,List.length_map,List.length_replicate,hw]
   exact ⟨by exact DX ‹_› (by exact lA htm),⟨by lia,by lia,by exact lB htm (Nat.sub_le size kept.length)⟩,sz (by exact lB htm (sC hk)),q⟩
  refine ⟨λz=>?_,λz=>?_⟩
  ·obtain ⟨a1,a2,a3,a4⟩:=last 32 (by exact rW (if_pos z) rfl)
   exact ⟨a1,a2,a3,a4⟩
  ·obtain ⟨a1,a2,a3,a4⟩:=last 0 (by exact rW (if_neg z) rfl)
   exact ⟨a1,a2,a3,a4⟩
 refine ⟨λz=>?_,λz=>?_⟩
 ·refine ⟨sz hcl,?_⟩
  refine rW (show max (0:Int) ((size:Int)-1)=((size-1:Nat):Int) from Cw) (rW (iu ..) (rV List.map_take ?_))
  exact fin _ (by refine rW List.length_take ?_;exact lB (Nat.min_le_left (size-1) ((aD tx).length)) (Nat.sub_le size 1)) (by exact rW (if_pos z) rfl)
 ·refine ⟨sz hcl,?_⟩
  refine rW (iu ..) (rV List.map_take ?_)
  exact fin _ (by refine rW List.length_take ?_;exact Nat.min_le_left _ _) (by exact rW (if_neg z) rfl)
end
theorem xb {t:NL}{j:LI}(h:(LI.cnt t j).ok none)(vs:List SV)(i:Nat):∃(so L O:Str) (B:Bool) (c:bB) (inn:V),(∀ov,j.lw ov=bj so L O B (c.ov ov).lc inn)/\
  ((so="text"/\many vs i j=c.sel (λk=>k) ((dw none vs i).1.text.length+if L="Z" then 1 else 0))\/
   (so≠"text"/\many vs i j=c.sel (λk=>min k (vs.length-i)) (vs.length-i))):=by
 obtain ⟨h1,h2⟩:=h
 cases j with
 | cnt=>exact h2.elim
 | aI o c l=>exact ⟨_,_,_,_,c,_,λov=>rfl, .inr ⟨by decide+kernel,rfl⟩⟩
 | pl p=>
  cases p with
  | fS=>exact h2.elim
  | num t o b c=>exact ⟨_,_,_,_,c,_,λov=>rfl, .inr ⟨by decide+kernel,rfl⟩⟩
  | dig t c=>exact ⟨_,_,_,_,c,_,λov=>rfl, .inr ⟨by decide+kernel,rfl⟩⟩
  | text t c=>exact ⟨_,_,_,_,c,_,λov=>rfl, .inl ⟨rfl,rfl⟩⟩
noncomputable abbrev zA:SL:=(dW.sl.tl 1).hd.body
structure Ep (G:Gc)(vs:List SV)(n:Nat)(its:List V)(f:Nat->List Int×Nat):Prop where
 of:∀{m:Nat} {η:Hm} {E:Prop} {Q:V->Hm->Prop} {i:Nat} {a:Addr},i<=vs.length->η a=some (.list (eP vs i))->
 Q (.lst ((f i).1.map .int)) (upd η a (.list (eP vs (f i).2)))->ah G (m+n) (.ref c9) [.lst its, .ref a] η Q E
structure yf (G:Gc)(vs:List SV)(n:Nat)(j:LI):Prop where
 of:∀{m:Nat} {η:Hm} {E:Prop} {K:Kp} {i:Nat} {a r:Addr} {R:List Int} {its:V} {ov:Option Nat} {s4 s5 s6 s7 s8 s9 s10 s11 s12:Option V},j.ok ov->i<=vs.length->r≠a->R.length+j.cst<=100000->
 (∀s4 s5 s6 s7 s8 s9 s10 s11 s12,K.nx (upd (upd η a (.list (eP vs (j.lay vs ov i).2))) r (.list ((R++(j.lay vs ov i).1).map .int))) [some its,some (.ref a),some (.ref r),some (j.lw ov),s4,s5,s6,s7,s8,s9,s10,s11,s12])->
 aQ G (m+n) zA E (upd (upd η a (.list (eP vs i))) r (.list (R.map .int))) [some its,some (.ref a),some (.ref r),some (j.lw ov),s4,s5,s6,s7,s8,s9,s10,s11,s12] K
theorem yf.up {G:Gc}{vs:List SV}{N M:Nat}{j:LI}(h:yf G vs N j)(hm:N<=M):yf G vs M j:=⟨λ{m} {η} {E} {K} {i} {a} {r} {R} {its} {ov} {s4 s5 s6 s7 s8 s9 s10 s11 s12} a1 b c d e=>by
 have:=h.of (m:=m+(M-N)) (E:=E) (its:=its) (s4:=s4) (s5:=s5) (s6:=s6) (s7:=s7) (s8:=s8) (s9:=s9) (s10:=s10) (s11:=s11) (s12:=s12) a1 b c d e
 rw [show m+(M-N)+N=m+M by exact qA (Nat.sub_add_cancel hm)] at this
 exact this⟩
section
variable {G:Gc}(X:GX G){n:Nat}{η:Hm}{Q:V->Hm->Prop}{E:Prop}{vs:List SV}{i:Nat}{a:Addr}
include X
theorem Du (hv:Vals vs)(p:PI):yf G vs 4 (.pl p):=⟨λ{m} {η} {E} {K} {i} {a} {r} {R} {its} {ov} {s4 s5 s6 s7 s8 s9 s10 s11 s12} hok hi hra hR q=>by
 have hb:=PI.b hv (tl:=none) (p:=p) hok hi
 have hR:R.length+64<=100000:=hR
 have hlv:=hv.l
 have ad:∀(row:List Int) (j:Nat) (so L:Str) (o:Str) (b:Bool) (c inn:V) (s10 s11 s12:Option V),row.length<=64->K.nx (upd (upd η a (.list (eP vs j))) r (.list ((R++row).map .int))) [some its,some (.ref a),some (.ref r),some (bj so L o b c inn),some (.str so),some (.str L),some (.str o),some (.bool b),some c,some inn,s10,s11,s12]->
   lO .Add (.ref r) (.lst (row.map .int)) (upd (upd η a (.list (eP vs j))) r (.list (R.map .int))) λW η2=>K.nx η2 [some its,some (.ref a),some W,some (bj so L o b c inn),some (.str so),some (.str L),some (.str o),some (.bool b),some c,some inn,s10,s11,s12]:=by
  intro row j so L o b c inn s10 s11 s12 hr q
  refine ⟨_,ag,sz (by refine rW (List.length_map ..) (rW (List.length_map ..) ?_);exact pO ‹_› (by exact lA hR)),?_⟩
  refine rW ak (rV List.map_append ?_)
  exact q
 have st:upd (upd η a (.list (eP vs i))) r (.list (R.map .int)) a=some (.list (eP vs i)):=by exact rW (af (Ne.symm hra)) (rW ag rfl)
 cases p with
 | num t o b c=>
  refine tF (by decide+kernel) (tF (by decide+kernel) ?_)
  have h7:tm (c.ov ov) (vs.length-i)<=7:=gi hok (by decide) (by exact jF ‹_›)
  refine kK X (n:=m) (tl:=none) hv hi st rfl h7 ?_
  refine rW (d0 (Ne.symm hra)) (rW ak ?_)
  exact ad _ _ "num" t.str o b (c.ov ov).lc .none s10 s11 s12 (Nat.le_trans hb.1 (by decide)) (q _ _ _ _ _ _ _ _ _)
 | text t c=>
  refine tF (by decide+kernel) (tF (by decide+kernel) ?_)
  refine qf X (n:=m) hv hi st hok ?_
  refine rW (d0 (Ne.symm hra)) (rW ak ?_)
  exact ad _ _ "text" t.str "" false (c.ov ov).lc .none s10 s11 s12 (Nat.le_trans hb.1 (by decide)) (q _ _ _ _ _ _ _ _ _)
 | dig t c=>
  refine tF (by decide+kernel) (tF (by decide+kernel) ?_)
  refine qh X (n:=m) hv hi st hok ?_
  refine rW (d0 (Ne.symm hra)) (rW ak ?_)
  exact ad _ _ "digits" t.str "" false (c.ov ov).lc .none s10 s11 s12 (Nat.le_trans hb.1 (by decide)) (q _ _ _ _ _ _ _ _ _)
 | fS c=>
  refine tF (by decide+kernel) (tF (by decide+kernel) ?_)
  have h40:tm (c.ov ov) 0<=40:=gi hok (by decide) (by exact Nat.zero_le _)
  refine qg X (n:=m) (by exact bt ‹_› (by rfl)) ?_
  exact ad _ _ "nought" "x" "" false (c.ov ov).lc .none s10 s11 s12 (Nat.le_trans hb.1 (by decide)) (q _ _ _ _ _ _ _ _ _)⟩
theorem xi (hv:Vals vs){N:Nat}{l:LL}(h:l.all (yf G vs N))(hok:l.ok)(hc:l.cst<=100000):Ep G vs (N+1) l.lw (λi=>l.lay vs i):=⟨λ{m} {η} {E} {Q} {i} {a} hi ha q=>by
 refine spec X 82 rfl rfl rfl ?_
 intro r hr
 have hra:r≠a:=by rintro rfl;rw [hr] at ha;cases ha
 have loop:∀(l':LL) (i:Nat) (R:List Int) (s3 s4 s5 s6 s7 s8 s9 s10 s11 s12:Option V),l'.all (yf G vs N)->l'.ok->i<=vs.length->R.length+l'.cst<=100000->
   Q (.lst ((R++(l'.lay vs i).1).map .int)) (upd η a (.list (eP vs (l'.lay vs i).2)))->
   forL G (m+N) E Q (dW.sl.tl 1) [3] false l'.lw (upd (upd η a (.list (eP vs i))) r (.list (R.map .int))) [some (.lst l.lw),some (.ref a),some (.ref r),s3,s4,s5,s6,s7,s8,s9,s10,s11,s12]:=by
  intro l'
  induction l' using LL.rec (motive_1:=λξ=>True) with
  | nil=>
   intro i R s3 s4 s5 s6 s7 s8 s9 s10 s11 s12 _ _ _ _ q
   refine .inl ⟨_,ag,?_⟩
   rw [bJ (by refine rW (af hra) ?_;exact hr)]
   rw [show (LL.nil.lay vs i)=([],i) from rfl,List.append_nil] at q
   exact q
  | cons j l' _ ih=>
   intro i R s3 s4 s5 s6 s7 s8 s9 s10 s11 s12 ha hok hi hR q
   have hR':R.length+(j.cst+l'.cst)<=100000:=hR
   obtain ⟨b1,b2⟩:=LI.b hv j (ov:=none) hok.1 hi
   refine ha.1.of (m:=m) (ov:=none) hok.1 hi hra (by exact lA hR') λs4 s5 s6 s7 s8 s9 s10 s11 s12=>?_
   refine ih _ _ _ _ _ _ _ _ _ _ _ _ ha.2 hok.2 b2 (by refine rW List.length_append ?_;exact lB hR' b1) ?_
   refine rW (List.append_assoc ..) ?_
   exact q
  | pl|aI|cnt=>trivial
 have:=loop l i [] none none none none none none none none none none h hok hi (by simpa using hc) q
 rw [jH ha] at this
 exact this⟩
end
section
variable {G:Gc}(X:GX G){n:Nat}{η:Hm}{Q:V->Hm->Prop}{E:Prop}{vs:List SV}{i:Nat}{a:Addr}
include X
theorem zz {N:Nat}{j:LI}(h:yf G vs N j){ov:Option Nat}(hok:j.ok ov)(hc:j.cst<=100000):Ep G vs (N+1) [j.lw ov] (λi=>j.lay vs ov i):=⟨λ{m} {η} {E} {Q} {i} {a} hi ha q=>by
 refine spec X 82 rfl rfl rfl ?_
 intro r hr
 have hra:r≠a:=by rintro rfl;rw [hr] at ha;cases ha
 have key:aQ G (m+N) zA E (upd (upd η a (.list (eP vs i))) r (.list (([]:List Int).map .int))) [some (.lst [j.lw ov]),some (.ref a),some (.ref r),some (j.lw ov),none,none,none,none,none,none,none,none,none]
   ⟨λη ρ=>aQ G (m+N) (dW.sl.tl 2) E η ρ (fin Q),λη ρ=>aQ G (m+N) (dW.sl.tl 2) E η ρ (fin Q),λη ρ=>aQ G (m+N) (dW.sl.tl 2) E η ρ (fin Q),Q⟩:=by
  refine h.of (m:=m) hok hi hra (by simpa using hc) λs4 s5 s6 s7 s8 s9 s10 s11 s12=>?_
  refine .inl ⟨_,ag,?_⟩
  rw [bJ (by refine rW (af hra) ?_;exact hr),List.nil_append]
  exact q
 rw [jH ha] at key
 exact key⟩
theorem BI (hv:Vals vs){o:Str}{c:bB}{l:LL}{N:Nat}(IH:Ep G vs (N+4) l.lw (λi=>l.lay vs i)):yf G vs (N+4) (.aI o c l):=⟨λ{m} {η} {E} {K} {i} {a} {r} {R} {its} {ov} {s4 s5 s6 s7 s8 s9 s10 s11 s12} hok hi hra hR q=>by
 obtain ⟨hc,hlo⟩:=hok
 have hlv:=hv.l
 have hR:R.length+(1+7*(1+l.cst))<=100000:=hR
 have hL:∀ov,(LI.aI o c l).lw ov=bj "group" "" o false (c.ov ov).lc (.lst l.lw):=λξ=>rfl
 have hlay:∀i,(LI.aI o c l).lay vs ov i=rep (λi=>l.lay vs i) (c.ov ov).isStar vs.length (tm (c.ov ov) (vs.length-i)) i:=λξ=>rfl
 rw [hL] at q ⊢
 rw [hlay] at q
 generalize c.ov ov=c at q hc ⊢
 refine tT rfl ?_
 refine ⟨_,by exact rW (af (Ne.symm hra)) (rW ag rfl),by refine rW (gj ..) ?_;exact DW (by exact lA hlv),?_⟩
 refine rW (gj ..) ?_
 refine aV X (n:=m+N+3) (s:=vs.length-i) ?_
 have h7:tm c (vs.length-i)<=7:=gi hc (by decide) (by exact jF ‹_›)
 refine ⟨_,aO (by exact bt ‹_› (by rfl)),?_⟩
 generalize tm c (vs.length-i)=k at q h7 ⊢
 have loop:∀(is:List V) (i:Nat) (R:List Int) (s10:Option V),i<=vs.length->R.length+is.length*l.cst<=100000->
   (∀s10,K.nx (upd (upd η a (.list (eP vs (rep (λi=>l.lay vs i) c.isStar vs.length is.length i).2))) r (.list ((R++(rep (λi=>l.lay vs i) c.isStar vs.length is.length i).1).map .int))) [some its,some (.ref a),some (.ref r),some (bj "group" "" o false c.lc (.lst l.lw)),some (.str "group"),some (.str ""),some (.str o),some (.bool false),some c.lc,some (.lst l.lw),s10,s11,s12])->
   fX (m9 [10] false) (λη ρ K=>aQ G (m+(N+4)) (zA.tl 1).hd.th.hd.body E η ρ K) K.nx K.rt is (upd (upd η a (.list (eP vs i))) r (.list (R.map .int)))
    [some its,some (.ref a),some (.ref r),some (bj "group" "" o false c.lc (.lst l.lw)),some (.str "group"),some (.str ""),some (.str o),some (.bool false),some c.lc,some (.lst l.lw),s10,s11,s12]:=by
  intro is
  induction is with
  | nil=>
   intro i R s10 _ _ q
   have:=q s10
   simp only [rep,List.length_nil,List.append_nil] at this
   exact this
  | cons x is ih=>
   intro i R s10 hi hR q
   rw [List.length_cons,Nat.succ_mul] at hR
   rw [List.length_cons] at q
   obtain ⟨b1,b2⟩:=LL.b hv l hlo hi
   refine IH.of (m:=m) hi (by exact rW (af (Ne.symm hra)) (rW ag rfl)) ?_
   refine rW (d0 (Ne.symm hra)) (rW ak ?_)
   refine ⟨_,ag,sz (by refine rW (List.length_map ..) (rW (List.length_map ..) ?_);exact pO ‹_› (by exact lA hR)),?_⟩
   refine rW ak (rV List.map_append ?_)
   have go:¬(c.isStar=true/\vs.length-(l.lay vs i).2=0)->fX (m9 [10] false) (λη ρ K=>aQ G (m+(N+4)) (zA.tl 1).hd.th.hd.body E η ρ K) K.nx K.rt is (upd (upd η a (.list (eP vs (l.lay vs i).2))) r (.list ((R++(l.lay vs i).1).map .int)))
     [some its,some (.ref a),some (.ref r),some (bj "group" "" o false c.lc (.lst l.lw)),some (.str "group"),some (.str ""),some (.str o),some (.bool false),some c.lc,some (.lst l.lw),some x,s11,s12]:=λz=>by
    refine ih _ _ _ b2 (by refine rW List.length_append ?_;exact lB hR b1) λs10=>?_
    have:=q s10
    simp only [rep] at this
    rw [if_neg z, <-List.append_assoc] at this
    exact this
   clear ih hc;cases c with
   | au=>exact go λz=>nomatch z.1
   | num k=>exact go λz=>nomatch z.1
   | star=>
    refine tT rfl ?_
    have hst:upd (upd η a (.list (eP vs (l.lay vs i).2))) r (.list ((R++(l.lay vs i).1).map V.int)) a=some (.list (eP vs (l.lay vs i).2)):=by exact rW (af (Ne.symm hra)) (rW ag rfl)
    have hln:=gj vs (l.lay vs i).2
    rcases Nat.lt_or_ge (l.lay vs i).2 vs.length with y|y
    ·refine ⟨_,hst,false,?_,λz=>(nomatch z),λξ=>go λz=>by exact fC y (eL z.2) (sA vs.length ((LL.lay vs l i).snd))⟩
     unfold jA
     rw [if_neg (by refine rW hln ?_;refine (?_:vs.length-_≠0);exact Nat.ne_of_gt (lB y (sA vs.length ((LL.lay vs l i).snd))))]
    ·have e:eP vs (l.lay vs i).2= []:=List.length_eq_zero_iff.mp (by exact Nat.le_antisymm (lC (eL hln) y (sC b2)) ((by simp+arith only)))
     refine ⟨_,hst,true,by refine rW e ?_;rfl,λξ=>?_,λz=>nomatch z⟩
     have:=q (some x)
     simp only [rep] at this
     rw [if_pos ⟨rfl,by exact Nat.sub_eq_zero_of_le (by assumption)⟩] at this
     exact this
 have:=loop ((List.range k).map λ(k:Nat)=>V.int k) i R s10 hi (by refine rW (List.length_map ..) (rW List.length_range ?_);have:k*l.cst<=7*l.cst:=Nat.mul_le_mul_right _ h7;exact ot ‹_› (by exact lA hR)) (λs=>by refine rW (List.length_map ..) (rW List.length_range ?_);exact q _ _ _ _ _ _ _ _ _)
 exact this⟩
end
theorem vT {v:SV}{η:Hm}{P:V->Prop}(h:P v.v):rq v.pr (.int 0) η P:=h
section
variable {G:Gc}(X:GX G){n:Nat}{η:Hm}{Q:V->Hm->Prop}{E:Prop}{vs:List SV}{i:Nat}{a:Addr}
include X
set_option maxHeartbeats 4000000 in
theorem BJ (hv:Vals vs){t:NL}{j:LI}{N:Nat}(hj:(LI.cnt t j).ok none)(IH:∀k,j.ok (some k)->Ep G vs (N+4) [j.lw (some k)] (λi=>j.lay vs (some k) i)):yf G vs (N+4) (.cnt t j):=⟨λ{m} {η} {E} {K} {i} {a} {r} {R} {its} {ov} {s4 s5 s6 s7 s8 s9 s10 s11 s12} hok hi hra hR q=>by
 have hlv:=hv.l
 have hR:R.length+(100+j.cst)<=100000:=hR
 obtain ⟨so,L,O,B,c,inn,hL,hm⟩:=xb hj vs i
 obtain ⟨hm40,hjm⟩:=pj hv i (j:=j) hj
 obtain ⟨b1,b2⟩:=LI.b hv j (ov:=some (many vs i j)) hjm hi
 have hlay:(LI.cnt t j).lay vs ov i=(rowOf (many vs i j) (t.size false) (t.big "")++(j.lay vs (some (many vs i j)) i).1,(j.lay vs (some (many vs i j)) i).2):=rfl
 have hw:=size_le t false
 have hcl:(LI.cnt t j).lw ov=bj "counted" t.str "" false .none (bj so L O B (c.ov none).lc inn):=by refine (?_:bj _ _ _ _ _ (j.lw none)=_);exact rW (hL ..) rfl
 rw [hlay,hcl] at q
 refine rW hcl ?_
 have hst:∀R:List Int,upd (upd η a (.list (eP vs i))) r (.list (R.map V.int)) a=some (.list (eP vs i)):=λR=>by exact rW (af (Ne.symm hra)) (rW ag rfl)
 have tail:∀s12,aQ G (m+(N+4)) (((zA.tl 1).hd.el.hd.th).tl 2) E (upd (upd η a (.list (eP vs i))) r (.list (R.map .int)))
   [some its,some (.ref a),some (.ref r),some (bj "counted" t.str "" false .none (bj so L O B (c.ov none).lc inn)),some (.str "counted"),some (.str t.str),some (.str ""),some (.bool false),some .none,some (bj so L O B (c.ov none).lc inn),s10,some (.int (many vs i j)),s12] ⟨λη ρ=>K.nx η ρ,K.br,K.ct,K.rt⟩:=λs12=>by
  refine kK X (n:=m+N) (o:="") (b:=false) (c:= .au) (tl:=some (many vs i j:Int)) hv hi (hst R) (m:=1) rfl (by decide) ?_
  have hrow:(layNum (λx=>rowOf x (t.size false) (t.big "")) (some (many vs i j:Int)) vs 1 i)=(rowOf (many vs i j) (t.size false) (t.big ""),i):=by
   simp only [layNum,List.append_nil];rfl
  refine rW hrow (rW (d0 (Ne.symm hra)) (rW ak ?_))
  refine ⟨_,ag,sz (by refine rW (List.length_map ..) (rW (List.length_map ..) (rW (cN ..) ?_));exact pO ‹_› (by lia)),?_⟩
  refine rW ak (rV List.map_append ?_)
  have hjk:=hL (some (many vs i j))
  refine ⟨rfl,by decide,by refine (?_:(4:Int)<6);decide,sz (m:=6) (by decide),sz (m:=5) (by decide),rfl,by decide,by refine (?_:(5:Int)<=6);decide,sz (m:=6) (by decide),sz (m:=6) (by decide),?_⟩
  have k2:=IH (many vs i j) hjm
  rw [hjk] at k2
  refine k2.of (m:=m) hi (hst _) ?_
  refine rW (d0 (Ne.symm hra)) (rW ak ?_)
  refine ⟨_,ag,sz (by refine rW (List.length_map ..) (rW (List.length_map ..) (rW List.length_append (rW (cN ..) ?_)));exact pO ‹_› (by exact lB hR hw)),?_⟩
  refine rW ak (rV List.map_append (rW (List.append_assoc ..) ?_))
  exact q _ _ _ _ _ _ _ _ _
 have hln:=gj vs i
 clear hcl hL q;rcases hm with ⟨rfl,hm⟩|⟨hne,hm⟩
 ·refine tF (by decide+kernel) (tT rfl ?_)
  have t11:c.i<0->∀v:SV,v=(dw none vs i).1->aQ G (m+(N+4)) (((((zA.tl 1).hd.el.hd.th).tl 1).hd.th).tl 1) E (upd (upd η a (.list (eP vs i))) r (.list (R.map .int)))
   [some its,some (.ref a),some (.ref r),some (bj "counted" t.str "" false .none (bj "text" L O B (c.ov none).lc inn)),some (.str "counted"),some (.str t.str),some (.str ""),some (.bool false),some .none,some (bj "text" L O B (c.ov none).lc inn),s10,some c.lc,some v.v] ⟨λη ρ=>aQ G (m+(N+4)) (((zA.tl 1).hd.el.hd.th).tl 2) E η ρ ⟨λη ρ=>K.nx η ρ,K.br,K.ct,K.rt⟩,K.br,K.ct,K.rt⟩:=λhc v hv2=>by
   have hok:=ib hv i
   have h31:=jr hok
   have fin:((many vs i j:Nat):Int)=((dw none vs i).1.text.length:Int)+if decide (L=Str.ofString "Z")=true then 1 else 0:=by
    refine rW (z8 ..) (rW hm ?_)
    cases c with
    | au=>rfl
    | star=>rfl
    | num k=>exact absurd (show (k:Int)<0 from hc) (by simp)
   have tl:=tail (some v.v)
   rw [fin] at tl
   rw [<-hv2] at tl hok h31
   cases v with
   | au=>exact ⟨by decide,tl⟩
   | txt l=>
    have e:(ls l).length=(SV.txt l).text.length:=av l
    refine ⟨by refine rW e ?_;exact bt ‹_› (by rfl),?_⟩
    refine rW e ?_
    exact tl
   | num k=>
    have hok:k.natAbs<10^30:=hok
    have h100:k.natAbs.log2<100:=by
     by_cases h0:k.natAbs=0
     ·refine rW h0 ?_;decide
     ·exact (Nat.log2_lt h0).mpr (Nat.lt_trans hok (by decide))
    have e:(ls (kn k)).length=(SV.num k).text.length:=av (kn k)
    refine ⟨by exact fb ‹_› (by rfl),?_⟩
    refine rW (oC ..) ?_
    refine ⟨by refine rW e ?_;exact bt ‹_› (by rfl),?_⟩
    refine rW e ?_
    exact tl
  have t12:c.i<0->aQ G (m+(N+4)) ((((zA.tl 1).hd.el.hd.th).tl 1).hd.th) E (upd (upd η a (.list (eP vs i))) r (.list (R.map .int)))
   [some its,some (.ref a),some (.ref r),some (bj "counted" t.str "" false .none (bj "text" L O B (c.ov none).lc inn)),some (.str "counted"),some (.str t.str),some (.str ""),some (.bool false),some .none,some (bj "text" L O B (c.ov none).lc inn),s10,some c.lc,s12] ⟨λη ρ=>aQ G (m+(N+4)) (((zA.tl 1).hd.el.hd.th).tl 2) E η ρ ⟨λη ρ=>K.nx η ρ,K.br,K.ct,K.rt⟩,K.br,K.ct,K.rt⟩:=λhc=>by
   refine ⟨_,hst R,by exact lC hlv (eL hln) (Nat.sub_le vs.length i),λz=>?_,λz=>?_⟩
   ·rcases Nat.lt_or_ge i vs.length with y|y
    ·have e:(eP vs i)[0]?=some vs[i].pr:=by unfold eP;refine rW (List.drop_eq_getElem_cons y) ?_;rfl
     refine ⟨_,hst R,_,bX (k:=0) e (by decide),?_⟩
     dsimp only [kQ,BL,xp,wp,dflt]
     exact vT (t11 hc vs[i] (tR y).symm)
    ·rw [show eP vs i= [] from List.length_eq_zero_iff.mp (by exact Nat.le_antisymm (lC (eL hln) y (sC hi)) ((by simp+arith only)))] at z;cases z
   ·rcases Nat.lt_or_ge i vs.length with y|y
    ·rw [show (eP vs i).isEmpty=false by unfold eP;refine rW (List.drop_eq_getElem_cons y) ?_;rfl] at z;cases z
    ·have k:=t11 hc (.txt []) (tS y).symm
     rw [show (SV.txt []).v= .str (Str.ofString "") from congrArg V.str nil_eq] at k
     exact k
  refine tT rfl ?_
  cases c with
  | au=>exact ⟨_,rfl,λξ=>t12 (by decide),λz=>nomatch z⟩
  | star=>exact ⟨_,rfl,λξ=>t12 (by decide),λz=>nomatch z⟩
  | num k=>
   refine ⟨_,rfl,λz=>(nomatch z),λξ=>?_⟩
   refine ⟨λξ=>?_,λz=>absurd rfl z⟩
   have tl:=tail s12
   rw [hm] at tl
   exact tl
 ·refine tF (by decide+kernel) (tT rfl ?_)
  refine ⟨λz=>absurd z hne,λξ=>⟨λz=>absurd z hne,λξ=>?_⟩⟩
  have tl:=tail s12
  rw [hm] at tl
  cases c with
  | au=>
   refine ⟨_,rfl,λξ=>⟨_,hst R,by exact lC hlv (eL hln) (Nat.sub_le vs.length i),?_⟩,λz=>nomatch z⟩
   refine rW hln ?_;exact tl
  | star=>
   refine ⟨_,rfl,λξ=>⟨_,hst R,by exact lC hlv (eL hln) (Nat.sub_le vs.length i),?_⟩,λz=>nomatch z⟩
   refine rW hln ?_;exact tl
  | num k=>
   refine ⟨_,rfl,λz=>(nomatch z),λξ=>⟨_,hst R,by lia,?_⟩⟩
   dsimp only [bB.sel] at tl
   rw [show ((min k (vs.length-i):Nat):Int)=min (k:Int) ((vs.length-i:Nat):Int) by omega] at tl
   refine rW hln ?_
   exact tl⟩
mutual
theorem ldI (hv:Vals vs):(j:LI)->∀{ov:Option Nat},j.ok ov->j.cst<=100000->yf G vs (4+j.ht) j
 | .pl p,ov,hok,hc=>Du X hv p
 | .aI o c l,ov,hok,hc=>by
  have hc:1+7*(1+l.cst)<=100000:=hc
  have:=xi X hv (EV hv l hok.2 (by exact lA hc)) hok.2 (by exact lA hc)
  rw [show 4+l.ht+1=(1+l.ht)+4 by simp+arith] at this
  refine rW (show 4+(LI.aI o c l).ht=(1+l.ht)+4 by refine (?_:4+(1+l.ht)=_);exact Nat.add_comm _ _) ?_
  exact BI X hv this
 | .cnt t j,ov,hok,hc=>by
  have hc:100+j.cst<=100000:=hc
  have h0:=ldI hv j (ov:=none) hok.1 (by exact Cz ‹_›)
  refine rW (show 4+(LI.cnt t j).ht=(1+j.ht)+4 by refine (?_:4+(1+j.ht)=_);exact Nat.add_comm _ _) ?_
  refine BJ X hv hok λk hk=>?_
  have:=zz X h0 (ov:=some k) hk (by exact lA hc)
  rw [show 4+j.ht+1=(1+j.ht)+4 by simp+arith] at this
  exact this
theorem EV (hv:Vals vs):(l:LL)->l.ok->l.cst<=100000->l.all (yf G vs (4+l.ht))
 | .nil,_,_=>trivial
 | .cons j r,hok,hc=>by
  have hc:j.cst+r.cst<=100000:=hc
  exact ⟨(ldI hv j hok.1 (by exact Em ‹_›)).up (by refine (?_:_<=4+max j.ht r.ht);exact lA (Nat.le_max_left j.ht r.ht)),LL.aq (λξ h=>h.up (by refine (?_:_<=4+max j.ht r.ht);exact lA (Nat.le_max_right j.ht r.ht))) r (EV hv r hok.2 (by exact Cz ‹_›))⟩
end
end
noncomputable def gf (t:NL)(o:Str)(row:List Int):List Int:=if t.big o=true then row.reverse else row
noncomputable def sk (t:NL)(o:Str)(b:Bool)(row:List Int):Int:=((List.range (t.size b)).map λk=>(gf t o row).getD k 0*256^k).sum
noncomputable def qM (t:NL)(b:Bool):Bool:=t.is "cslqij"||((b&&t.is "nNvV")||decide ((t.size b:Int)=8))
noncomputable def uS (t:NL)(o:Str)(b:Bool)(row:List Int):Int:=if qM t b=true/\256^t.size b<=2*sk t o b row then sk t o b row-256^t.size b else sk t o b row
theorem pf (c:bB){a m:Nat}(h:m<=a):min ((tm c a:Nat):Int) (m:Nat)=(gN c m:Nat):=by
 cases c with
 | au=>exact Ek 1 m
 | star=>exact Int.min_eq_right (Int.ofNat_le.mpr h)
 | num k=>exact Ek k m
noncomputable def RQ (r:Option (List V×Nat))(Q:V->Prop):Prop:=(r=none->∀k:Int,Q (.tup [.none, .int k]))/\∀p,r=some p->Q (.tup [.lst p.1, .int p.2])
theorem mv (f:List Int->Int)(d:List Int)(w:Nat):∀m i,cy f d w (m+1) i=cy f d w m i++ [.int (f ((d.drop (i+w*m)).take w))]
 | 0,i=>rfl
 | m+1,i=>by
  rw [cy,mv f d w m (i+w),cy,show i+w+w*m=i+w*(m+1) by refine rW (Nat.mul_succ ..) ?_;simp+arith];rfl
section
variable {G:Gc}(X:GX G){n:Nat}{η:Hm}{Q:V->Hm->Prop}{E:Prop}{d:List Int}{i:Nat}
include X
theorem qb {o:Str}{b:Bool}{c:bB}(hd:d.length<=24)(hi:i<=d.length)(q:RQ (if d.length<i+tm c 0 then none else some ([],i+tm c 0)) λY=>Q Y η):
  ah G (n+4) (.ref aM) [bj "nought" "x" o b c.lc .none, .lst (d.map .int), .int i] η Q E:=by
 refine spec X 83 rfl rfl rfl ?_
 refine ⟨by refine rW (List.length_map ..) ?_;exact bt ‹_› (by rfl),?_⟩
 refine rW (List.length_map ..) ?_
 refine tT rfl ?_
 refine aV X (n:=n+2) (s:=0) ⟨λz=>?_,λz=>?_⟩
 ·refine aV X (n:=n+2) (s:=0) ?_
  exact q.1 (if_pos (by lia)) _
 ·refine aV X (n:=n+2) (s:=0) ?_
  exact q.2 _ (if_neg (by lia))
theorem qa {t:NL}{o:Str}{b:Bool}{c:bB}(hd:d.length<=24)(hi:i<=d.length)(hv:∀row:List Int,row.length=t.size b->(∀x∈row,0<=x/\x<=255)->uS t o b row=t.val o b row)(ho:∀x∈d,0<=x/\x<=255)
  (q:RQ (PI.rd d none (.num t o b c) i) λY=>Q Y η):ah G (n+4) (.ref aM) [bj "num" t.str o b c.lc .none, .lst (d.map .int), .int i] η Q E:=by
 refine spec X 83 rfl rfl rfl ?_
 have hw:=size_pos t b
 have hw8:=size_le t b
 have hml:t.size b*gN c ((d.length-i)/t.size b)<=d.length-i:=sv c rfl
 have hm:min ((tm c (d.length-i):Nat):Int) (((d.length-i:Nat):Int).fdiv (t.size b))=(gN c ((d.length-i)/t.size b):Nat):=by
  refine rW (gZ ..) ?_;exact pf c (Nat.div_le_self _ _)
 replace q:=q.2 _ rfl
 dsimp only at q
 rw [show c.ov none=c from rfl] at q
 have hib:∀k:Nat,k<2^20->Builtin.Int.intBits (k:Int)<=64:=λk hk=>intBits_le_64 (by (constructor<;>lia)) (by lia)
 have h9:(Builtin.Int.intBits 256:Int)=9:=by decide+kernel
 have main:∀mI:Int,mI=(gN c ((d.length-i)/t.size b):Nat)->aQ G (n+3) ((aj.sl.tl 3).hd.th.tl 2) E η [some (bj "num" t.str o b c.lc .none),some (.lst (d.map .int)),some (.int i),some (.str "num"),some (.str t.str),some (.str o),some (.bool b),some c.lc,some .none,some (.int (d.length-i:Nat)),some (.int (t.size b)),some (.int mI),none,none,none,none,none,none,none,none,none,none,none,none,none] ⟨λξ ξ=>False,λξ ξ=>False,λξ ξ=>False,Q⟩:=by
  rintro _ rfl
  generalize gN c ((d.length-i)/t.size b)=m at hml q ⊢
  intro a ha
  have hm24:m<=24:=by
   have:1*m<=t.size b*m:=Nat.mul_le_mul_right _ hw
   exact lD hd hml this (Nat.sub_le d.length i)
  refine ⟨_,aO (by exact bt ‹_› (by rfl)),?_⟩
  have loop:∀(k j:Nat) (s13 s14 s15 s16 s17:Option V),k+j=m->
    pC G (n+3) E ((aj.sl.tl 3).hd.th.tl 3) [13] false ⟨λξ ξ=>False,λξ ξ=>False,λξ ξ=>False,Q⟩ (((List.range m).drop j).map λ(k:Nat)=> .int k) (upd η a (.list (cy (t.val o b) d (t.size b) j i)))
     [some (bj "num" t.str o b c.lc .none),some (.lst (d.map .int)),some (.int i),some (.str "num"),some (.str t.str),some (.str o),some (.bool b),some c.lc,some .none,some (.int (d.length-i:Nat)),some (.int (t.size b)),some (.int m),some (.ref a),s13,s14,s15,s16,s17,none,none,none,none,none,none,none]:=by
   intro k
   induction k with
   | zero=>
    intro j s13 s14 s15 s16 s17 hj
    clear hm24 hml;obtain rfl:j=m:=by exact qA hj
    refine rW (List.drop_eq_nil_of_le (by simp)) ?_
    have:m7 (.ref a) (upd η a (.list (cy (t.val o b) d (t.size b) j i))) λX η1=>IntMulOk (t.size b) j/\Q (.tup [X, .int (i+t.size b*j)]) η1:=by
     refine .inl ⟨_,ag,IntMulOk.of_left (hib _ (by exact bt ‹_› (by rfl))),?_⟩
     refine rW (bJ ha) ?_
     exact q
    exact this
   | succ k ih=>
    intro j s13 s14 s15 s16 s17 hj
    refine rW (List.drop_eq_getElem_cons (by simp;exact lA (eL hj))) (rW (List.getElem_range ..) ?_)
    refine ⟨IntMulOk.of_left (hib _ (by exact lA hw8)),IntMulOk.of_left (hib _ (by exact lA hw8)),sz (by refine rW (List.length_map ..) ?_;exact bt ‹_› (by rfl)),?_⟩
    have hjm:t.size b*j+t.size b<=t.size b*m:=by refine rV (Nat.mul_succ ..) ?_;exact Nat.mul_le_mul_left _ (by exact lA (eL hj))
    rw [<-Int.natCast_mul, <-Int.natCast_add, <-Int.natCast_add,kh,Nat.add_sub_cancel_left, <-List.map_drop, <-List.map_take]
    have hRl:((d.drop (i+t.size b*j)).take (t.size b)).length=t.size b:=by refine rW List.length_take (rW List.length_drop (Nat.min_eq_left ?_));exact Nat.le_sub_of_add_le (lB hjm (Nat.add_le_of_le_sub (Nat.le_of_lt (Nat.lt_of_sub_pos (Nat.lt_of_lt_of_le (Nat.lt_of_lt_of_le hw (Nat.le_trans (Nat.le_add_left _ _) hjm)) hml))) hml))
    have hRo:∀x∈(d.drop (i+t.size b*j)).take (t.size b),0<=x/\x<=255:=λx hx=>ho x (List.mem_of_mem_drop (List.mem_of_mem_take hx))
    have hval:=hv _ hRl hRo
    have hnum:cy (t.val o b) d (t.size b) (j+1) i=cy (t.val o b) d (t.size b) j i++ [.int (uS t o b ((d.drop (i+t.size b*j)).take (t.size b)))]:=by
     refine rW hval ?_;exact mv _ _ _ _ _
    generalize (d.drop (i+t.size b*j)).take (t.size b)=R at hRl hval hnum ⊢
    have hLl:(gf t o R).length=t.size b:=by unfold gf;split<;>simp [hRl]
    have rest:∀s15,aQ G (n+3) (((aj.sl.tl 3).hd.th.tl 3).hd.body.tl 2) E (upd η a (.list (cy (t.val o b) d (t.size b) j i)))
     [some (bj "num" t.str o b c.lc .none),some (.lst (d.map .int)),some (.int i),some (.str "num"),some (.str t.str),some (.str o),some (.bool b),some c.lc,some .none,some (.int (d.length-i:Nat)),some (.int (t.size b)),some (.int m),some (.ref a),some (.int j),some (.lst ((gf t o R).map .int)),s15,s16,s17,none,none,none,none,none,none,none]
     ⟨λη ρ=>pC G (n+3) E ((aj.sl.tl 3).hd.th.tl 3) [13] false ⟨λξ ξ=>False,λξ ξ=>False,λξ ξ=>False,Q⟩ (((List.range m).drop (j+1)).map λ(k:Nat)=> .int k) η ρ,λξ ξ=>False,λξ ξ=>False,Q⟩:=λs15=>by
     refine ⟨_,aO (by exact bt ‹_› (by rfl)),?_⟩
     refine cm (g:=λk:Nat=> .int ((gf t o R).getD k 0*256^k)) (List.range (t.size b)) [] (λk hk Q q=>?_) (by refine rW List.length_range (rW List.length_nil ?_);exact vo ‹_› (by rfl)) ?_
     ·have hk:k<t.size b:=List.mem_range.mp hk
      refine ⟨_,bX (gz (by refine rW hLl ?_;exact hk)) (by exact ka ‹_› (by exact lA hw8)),?_⟩
      have hp:∀k,k<8->Builtin.Int.intBits ((256:Int)^k)<=64:=by decide+kernel
      exact ⟨⟨by exact Int.natCast_nonneg _,by refine (?_:(Builtin.Int.intBits 256:Int)*_<=_);refine rW h9 ?_;lia⟩,IntMulOk.of_right (hp k (by exact ka ‹_› ‹_›)),q⟩
     ·refine rW (List.nil_append ..) ?_
      refine ⟨(List.range (t.size b)).map λk=>(gf t o R).getD k 0*256^k,by refine rV (jD ..) (rW List.map_map ?_);rfl,?_⟩
      refine ⟨⟨by exact Int.natCast_nonneg _,by refine (?_:(Builtin.Int.intBits 256:Int)*_<=_);refine rW h9 ?_;lia⟩,?_⟩
      have T:∀s:Bool,s=qM t b->aQ G (n+3) (((aj.sl.tl 3).hd.th.tl 3).hd.body.tl 5) E (upd η a (.list (cy (t.val o b) d (t.size b) j i)))
       [some (bj "num" t.str o b c.lc .none),some (.lst (d.map .int)),some (.int i),some (.str "num"),some (.str t.str),some (.str o),some (.bool b),some c.lc,some .none,some (.int (d.length-i:Nat)),some (.int (t.size b)),some (.int m),some (.ref a),some (.int j),some (.lst ((gf t o R).map .int)),some (.int (sk t o b R)),some (.int (256^t.size b)),some (.bool s),none,none,none,none,none,none,none]
       ⟨λη ρ=>pC G (n+3) E ((aj.sl.tl 3).hd.th.tl 3) [13] false ⟨λξ ξ=>False,λξ ξ=>False,λξ ξ=>False,Q⟩ (((List.range m).drop (j+1)).map λ(k:Nat)=> .int k) η ρ,λξ ξ=>False,λξ ξ=>False,Q⟩:=λs hs=>by
       have fin:∀v:Int,v=uS t o b R->(cy (t.val o b) d (t.size b) j i).length<=sizeLine/\pC G (n+3) E ((aj.sl.tl 3).hd.th.tl 3) [13] false ⟨λξ ξ=>False,λξ ξ=>False,λξ ξ=>False,Q⟩ (((List.range m).drop (j+1)).map λ(k:Nat)=> .int k) (upd (upd η a (.list (cy (t.val o b) d (t.size b) j i))) a (.list (cy (t.val o b) d (t.size b) j i++ [.int v])))
        [some (bj "num" t.str o b c.lc .none),some (.lst (d.map .int)),some (.int i),some (.str "num"),some (.str t.str),some (.str o),some (.bool b),some c.lc,some .none,some (.int (d.length-i:Nat)),some (.int (t.size b)),some (.int m),some (.ref a),some (.int j),some (.lst ((gf t o R).map .int)),some (.int (sk t o b R)),some (.int (256^t.size b)),some (.bool s),none,none,none,none,none,none,none]:=by
        rintro v rfl
        refine ⟨sz (m:=(cy (t.val o b) d (t.size b) j i).length) (by refine rW (fu ..) ?_;exact lB hm24 (eL hj)),?_⟩
        refine rW ak (rV hnum ?_)
        exact ih (j+1) _ _ _ _ _ (by exact qA hj)
       refine ⟨_,ag,?_⟩
       subst hs
       unfold uS at fin
       refine ⟨λz=>⟨IntMulOk.of_left (by decide),λz2=>?_,λz2=>?_⟩,λz=>?_⟩
       ·exact ⟨_,ag,fin _ (if_pos ⟨z,z2⟩).symm⟩
       ·exact ⟨_,ag,fin _ (if_neg λy=>z2 y.2).symm⟩
       ·exact ⟨_,ag,fin _ (if_neg λy=>by rw [z] at y;cases y.1).symm⟩
      have T3:t.is "cslqij"=false->(b&&t.is "nNvV")=false->decide ((t.size b:Int)=8)=qM t b:=λz1 z2=>by unfold qM;refine rW z1 (rW z2 ?_);rfl
      refine ⟨λz=>T _ (by unfold qM;refine rW (show t.is "cslqij"=true from z) ?_;exact z),λz=>?_⟩
      have z:t.is "cslqij"=false:=z
      refine ⟨λzb=>⟨λz2=>?_,λz2=>?_⟩,λzb=>⟨λz2=>?_,λz2=>?_⟩⟩
      ·have z2:t.is "nNvV"=true:=z2
       exact T _ (by unfold qM;refine rW z (rW zb (rW z2 ?_));exact z2)
      ·have z2:t.is "nNvV"=false:=z2
       exact T _ (T3 z (by exact rW z2 (rW (Bool.and_false ..) rfl)))
      ·rw [zb] at z2;cases z2
      ·exact T _ (T3 z (by refine rW zb ?_;rfl))
    refine ji X (n:=n+2) ⟨λz=>?_,λz=>?_⟩
    ·have e3:(R.map V.int).length<2^20:=by refine rW (List.length_map ..) (rW hRl ?_);exact lA hw8
     refine ⟨rfl,sz e3,?_⟩
     refine rW (hJ ..) (rV List.map_reverse ?_)
     rw [show gf t o R=R.reverse from if_pos z] at rest
     exact rest none
    ·rw [show gf t o R=R from if_neg (by refine rW z ?_;decide)] at rest
     exact rest none
  exact loop m 0 none none none none none rfl
 refine ⟨by refine rW (List.length_map ..) ?_;exact lA hd,?_⟩
 have hleft:(((d.map V.int).length:Nat):Int)-(i:Nat)=(d.length-i:Nat):=by refine rW (List.length_map ..) ?_;exact (Int.natCast_sub (by assumption)).symm
 have go:∀L:Int,L=(d.length-i:Nat)->aQ G (n+3) (aj.sl.tl 2) E η [some (bj "num" t.str o b c.lc .none),some (.lst (d.map .int)),some (.int i),some (.str "num"),some (.str t.str),some (.str o),some (.bool b),some c.lc,some .none,some (.int L),none,none,none,none,none,none,none,none,none,none,none,none,none,none,none] (fin Q):=by
  rintro _ rfl
  refine tF (by decide+kernel) (tT rfl ?_)
  refine kJ X (n:=n+1) ?_
  refine aV X (n:=n+2) (s:=d.length-i) ?_
  refine ⟨⟨by lia,cM (by exact bt ‹_› (by rfl))⟩,?_⟩
  exact main _ hm
 exact go _ hleft
end
noncomputable def kP (w:Nat)(base:Int)(big:Bool)(x:Int):List Nat:=
 if big=true then ((List.range w).map λk=>lu ((x.fdiv (base^k)).fmod base).toNat).reverse else (List.range w).map λk=>lu ((x.fdiv (base^k)).fmod base).toNat
noncomputable def lr (w:Nat)(base:Int)(big:Bool)(row:List Int):List Nat:=row.flatMap (kP w base big)
theorem fw {w:Nat}{base:Int}{big:Bool}{x:Int}:(kP w base big x).length=w:=by unfold kP;split<;>simp
theorem xo {w:Nat}{base:Int}{big:Bool}:∀row:List Int,(lr w base big row).length=w*row.length
 | []=>by simp [lr]
 | x::row=>by
  have:=xo (w:=w) (base:=base) (big:=big) row
  unfold lr at this ⊢
  refine rW List.flatMap_cons (rW List.length_append (rW fw (rW this (rW List.length_cons (rW (Nat.mul_succ ..) ?_)))));exact Nat.add_comm _ _
theorem mx (a:Int){b:Int}(hb:0<b):0<=a.fmod b/\a.fmod b<b:=⟨Int.fmod_nonneg_of_pos _ hb,Int.fmod_lt_of_pos _ hb⟩
section
variable {G:Gc}(X:GX G){n:Nat}{η:Hm}{Q:V->Hm->Prop}{E:Prop}{d:List Int}{i:Nat}
include X
theorem jh {c:bB}{s:Int}{m:Nat}(h:s=m)(q:Q (.int (tm c m)) η):ah G (n+1) (.ref ay) [c.lc, .int s] η Q E:=by
 subst h;exact aV X q
theorem qc {t:DL}{c:bB}(hd:d.length<=24)(hi:i<=d.length)(ho:∀x∈d,0<=x/\x<=255)
  (q:∀w base,(w=8/\base=2/\Txt.contains "bB" t.str=true\/w=2/\base=16/\Txt.contains "bB" t.str=false)->∀m,m=gN c (w*(d.length-i))->Q (.tup [.lst [.str (ls ((lr w base (Txt.contains "BH" t.str) ((d.drop i).take ((m+w-1)/w))).take m))], .int (i+(m+w-1)/w:Nat)]) η):
  ah G (n+4) (.ref aM) [bj "digits" t.str "" false c.lc .none, .lst (d.map .int), .int i] η Q E:=by
 refine spec X 83 rfl rfl rfl ?_
 refine ⟨by refine rW (List.length_map ..) ?_;exact bt ‹_› (by rfl),?_⟩
 have hleft:(((d.map V.int).length:Nat):Int)-(i:Nat)=(d.length-i:Nat):=by refine rW (List.length_map ..) ?_;exact (Int.natCast_sub (by assumption)).symm
 have main:∀(w base m:Nat),(w=8/\base=2\/w=2/\base=16)->m<=w*(d.length-i)->Q (.tup [.lst [.str (ls ((lr w base (Txt.contains "BH" t.str) ((d.drop i).take ((m+w-1)/w))).take m))], .int (i+(m+w-1)/w:Nat)]) η->
   aQ G (n+3) ((aj.sl.tl 4).hd.th.tl 2) E η [some (bj "digits" t.str "" false c.lc .none),some (.lst (d.map .int)),some (.int i),some (.str "digits"),some (.str t.str),some (.str ""),some (.bool false),some c.lc,some .none,some (.int (d.length-i:Nat)),none,some (.int m),none,none,none,none,none,none,some (.int w),none,none,none,none,none,none] ⟨λξ ξ=>False,λξ ξ=>False,λξ ξ=>False,Q⟩:=by
  intro w base m hwb hm q
  have hw:=F0 hwb
  have ef:(((m:Int)+w)-1).fdiv w=((m+w-1:Nat)/w:Nat):=by
   refine rW (cP hw.1) ?_;exact gZ _ _
  have hmle:=He hw.1 hm
  have dv:(w:Int)≠0/\Builtin.divisionGoesByPylong (((m:Int)+w)-1) w=false:=⟨Int.natCast_ne_zero.mpr (Nat.ne_of_gt hw.1),cM (Nat.lt_of_le_of_lt hw.2 (by decide))⟩
  refine ⟨dv,sz (by refine rW (List.length_map ..) ?_;exact lA hd),?_⟩
  rw [ef, <-Int.natCast_add,kh,Nat.add_sub_cancel_left, <-List.map_drop, <-List.map_take]
  have hro:∀x∈(d.drop i).take ((m+w-1)/w),0<=x/\x<=255:=λx hx=>ho x (List.mem_of_mem_drop (List.mem_of_mem_take hx))
  have hrl:((d.drop i).take ((m+w-1)/w)).length<=24:=by refine rW List.length_take (rW List.length_drop ?_);exact lC hd (Nat.sub_le d.length i) (Nat.min_le_right ((m+w-1)/w) (d.length-i))
  generalize (d.drop i).take ((m+w-1)/w)=row at q hro hrl ⊢
  have loop:∀(r:List Int) (T:List Nat) (s20 s21:Option V),(∀x∈r,0<=x/\x<=255)->T.length+8*r.length<=1000->T++lr w base (Txt.contains "BH" t.str) r=lr w base (Txt.contains "BH" t.str) row->
    pC G (n+3) E ((aj.sl.tl 4).hd.th.tl 3) [20] false ⟨λξ ξ=>False,λξ ξ=>False,λξ ξ=>False,Q⟩ (r.map .int) η
     [some (bj "digits" t.str "" false c.lc .none),some (.lst (d.map .int)),some (.int i),some (.str "digits"),some (.str t.str),some (.str ""),some (.bool false),some c.lc,some .none,some (.int (d.length-i:Nat)),none,some (.int m),none,none,none,none,none,none,some (.int w),some (.str (ls T)),s20,s21,none,none,none]:=by
   intro r
   induction r with
   | nil=>
    intro T s20 s21 _ hT e
    rw [show lr w base (Txt.contains "BH" t.str) []= [] from rfl,List.append_nil] at e
    have:(ls T).length<=sizeLine/\((w:Int)≠0/\Builtin.divisionGoesByPylong (((m:Int)+w)-1) w=false)/\Q (.tup [.lst [.str (q7 none (some (m:Int)) none (ls T))], .int (i+(((m:Int)+w)-1).fdiv w)]) η:=by
     refine ⟨sz (by refine rW (av ..) ?_;simp at hT;exact lA hT),dv,?_⟩
     refine rW (wc ..) (rW ef (rW e ?_))
     rw [Int.natCast_add] at q
     exact q
    exact this
   | cons x r ih=>
    intro T s20 s21 hx hT e
    rw [List.length_cons] at hT
    have h255:=hx x List.mem_cons_self
    refine ⟨_,aO (by exact lA hw.2),?_⟩
    refine cm (g:=λk:Nat=> .str (ls [lu ((x.fdiv ((base:Int)^k)).fmod base).toNat])) (List.range w) [] (λk hk Q1 q1=>?_) (by refine rW List.length_range (rW List.length_nil ?_);exact lA hw.2) ?_
    ·have hk:k<w:=List.mem_range.mp hk
     have hp:∀k,k<8->((2:Int)^k≠0/\((2:Int)^k).natAbs<2^64)/\((16:Int)^k≠0/\((16:Int)^k).natAbs<2^64):=by decide+kernel
     have hb:(Builtin.Int.intBits 2:Int)=2/\(Builtin.Int.intBits 16:Int)=5:=by decide+kernel
     have hp:=hp k (by exact lB hw.2 hk)
     clear e ih q dv hmle ef hw hm;rcases hwb with ⟨rfl,rfl⟩|⟨rfl,rfl⟩
     ·have hm0:=mx (x.fdiv (2^k)) (b:=2) (by decide)
      exact tT rfl ⟨⟨by exact iA (Int.natCast_nonneg k),by refine (?_:(Builtin.Int.intBits 2:Int)*_<=_);refine rW hb.1 ?_;lia⟩,⟨hp.1.1,cM hp.1.2⟩,tT rfl ⟨by decide,_,pA ⟨hm0.1,Int.le_of_lt_add_one (Int.lt_of_lt_of_le hm0.2 (by decide))⟩,q1⟩⟩
     ·have hm0:=mx (x.fdiv (16^k)) (b:=16) (by decide)
      exact tF (by decide) ⟨⟨by exact iA (Int.natCast_nonneg k),by refine (?_:(Builtin.Int.intBits 16:Int)*_<=_);refine rW hb.2 ?_;lia⟩,⟨hp.2.1,cM hp.2.2⟩,tF (by decide) ⟨by decide,_,pA ⟨hm0.1,Int.le_of_lt_add_one (Int.lt_of_lt_of_le hm0.2 (by decide))⟩,q1⟩⟩
    ·refine rW (List.nil_append ..) ?_
     have rest:∀l:List Nat,l=kP w base (Txt.contains "BH" t.str) x->Ac G.K .join false [.str (Str.ofString ""), .lst (l.map λc=> .str (ls [c]))] η λY η2=>lO .Add (.str (ls T)) Y η2 λW η3=>pC G (n+3) E ((aj.sl.tl 4).hd.th.tl 3) [20] false ⟨λξ ξ=>False,λξ ξ=>False,λξ ξ=>False,Q⟩ (r.map .int) η3
      [some (bj "digits" t.str "" false c.lc .none),some (.lst (d.map .int)),some (.int i),some (.str "digits"),some (.str t.str),some (.str ""),some (.bool false),some c.lc,some .none,some (.int (d.length-i:Nat)),none,some (.int m),none,none,none,none,none,none,some (.int w),some W,some (.int x),some (.lst ((List.range w).map λk:Nat=> .str (ls [lu ((x.fdiv ((base:Int)^k)).fmod base).toNat]))),none,none,none]:=by
      rintro l rfl
      refine lI (.inl rfl) (by refine rW fw ?_;exact lA hw.2) ?_
      refine ⟨sz (by refine rW (av ..) (rW (av ..) (rW fw ?_));exact lB hw.2 hT),?_⟩
      refine rW (dn ..) ?_
      exact ih _ _ _ (λy hy=>hx y (List.mem_cons_of_mem _ hy)) (by refine rW List.length_append (rW fw ?_);exact lB hw.2 hT) (by refine rW (List.append_assoc ..) ?_;exact e)
     have hsl:((List.range w).map λk:Nat=>V.str (ls [lu ((x.fdiv ((base:Int)^k)).fmod base).toNat]))=((List.range w).map λk=>lu ((x.fdiv ((base:Int)^k)).fmod base).toNat).map λc=> .str (ls [c]):=by refine rW List.map_map ?_;rfl
     refine ⟨λz=>?_,λz=>?_⟩
     ·refine ⟨rfl,sz (by refine rW (List.length_map ..) (rW List.length_range ?_);exact lA hw.2),?_⟩
      have:=rest _ (show _=kP w base (Txt.contains "BH" t.str) x from (if_pos z).symm)
      rw [List.map_reverse, <-hsl, <-hJ] at this
      exact this
     ·have:=rest _ (show _=kP w base (Txt.contains "BH" t.str) x from (if_neg (by refine rW (show Txt.contains "BH" t.str=false from z) ?_;decide)).symm)
      rw [<-hsl] at this
      exact this
  exact loop row [] none none hro (by simp;exact lA (Nat.mul_le_mul_left 8 hrl)) rfl
 have go:∀L:Int,L=(d.length-i:Nat)->aQ G (n+3) (aj.sl.tl 2) E η [some (bj "digits" t.str "" false c.lc .none),some (.lst (d.map .int)),some (.int i),some (.str "digits"),some (.str t.str),some (.str ""),some (.bool false),some c.lc,some .none,some (.int L),none,none,none,none,none,none,none,none,none,none,none,none,none,none,none] (fin Q):=by
  rintro _ rfl
  refine tF (by decide+kernel) (tF (by decide+kernel) (tT rfl ?_))
  refine ⟨λz=>?_,λz=>?_⟩
  ·have e1:(8:Int)*((d.length-i:Nat):Int)=((8*(d.length-i):Nat):Int):=by lia
   have k1:=pf c (Nat.le_refl (8*(d.length-i)))
   have k2:=main 8 2 (gN c (8*(d.length-i))) (.inl ⟨rfl,rfl⟩) (eB _ _) (q 8 2 (.inl ⟨rfl,rfl,z⟩) _ rfl)
   rw [<-k1, <-e1] at k2
   have f:IntMulOk 8 ((d.length-i:Nat):Int)/\ah G (n+3) (.ref ay) [c.lc, .int (8*((d.length-i:Nat):Int))] η (λY η2=>IntMulOk 8 ((d.length-i:Nat):Int)/\eh Y λy=>aQ G (n+3) ((aj.sl.tl 4).hd.th.tl 2) E η2 [some (bj "digits" t.str "" false c.lc .none),some (.lst (d.map .int)),some (.int i),some (.str "digits"),some (.str t.str),some (.str ""),some (.bool false),some c.lc,some .none,some (.int (d.length-i:Nat)),none,some (.int (min y (8*((d.length-i:Nat):Int)))),none,none,none,none,none,none,some (.int 8),none,none,none,none,none,none] ⟨λξ ξ=>False,λξ ξ=>False,λξ ξ=>False,Q⟩) E:=
    ⟨IntMulOk.of_left (by decide),jh X (n:=n+2) e1 ⟨IntMulOk.of_left (by decide),k2⟩⟩
   exact f
  ·have e1:(2:Int)*((d.length-i:Nat):Int)=((2*(d.length-i):Nat):Int):=by lia
   have k1:=pf c (Nat.le_refl (2*(d.length-i)))
   have k2:=main 2 16 (gN c (2*(d.length-i))) (.inr ⟨rfl,rfl⟩) (eB _ _) (q 2 16 (.inr ⟨rfl,rfl,z⟩) _ rfl)
   rw [<-k1, <-e1] at k2
   have f:IntMulOk 2 ((d.length-i:Nat):Int)/\ah G (n+3) (.ref ay) [c.lc, .int (2*((d.length-i:Nat):Int))] η (λY η2=>IntMulOk 2 ((d.length-i:Nat):Int)/\eh Y λy=>aQ G (n+3) ((aj.sl.tl 4).hd.th.tl 2) E η2 [some (bj "digits" t.str "" false c.lc .none),some (.lst (d.map .int)),some (.int i),some (.str "digits"),some (.str t.str),some (.str ""),some (.bool false),some c.lc,some .none,some (.int (d.length-i:Nat)),none,some (.int (min y (2*((d.length-i:Nat):Int)))),none,none,none,none,none,none,some (.int 2),none,none,none,none,none,none] ⟨λξ ξ=>False,λξ ξ=>False,λξ ξ=>False,Q⟩) E:=
    ⟨IntMulOk.of_left (by decide),jh X (n:=n+2) e1 ⟨IntMulOk.of_left (by decide),k2⟩⟩
   exact f
 exact go _ hleft
end
section
variable {G:Gc}(X:GX G){n:Nat}{η:Hm}{Q:V->Hm->Prop}{E:Prop}{d:List Int}{i:Nat}
include X
theorem p9 {t:TL}{c:bB}(hd:d.length<=24)(hi:i<=d.length)(ho:∀x∈d,0<=x/\x<=255)(hA:∀l:List Int,l.length<=24->(∀x∈l,0<=x/\x<=255)->Txt.rstripChars (du l) " \n\t\r\x0c\x0b\x00"=du (oB l))
  (q:Q (.tup [.lst [(t.rd c d i).1], .int (t.rd c d i).2]) η):ah G (n+4) (.ref aM) [bj "text" t.str "" false c.lc .none, .lst (d.map .int), .int i] η Q E:=by
 refine spec X 83 rfl rfl rfl ?_
 refine ⟨by refine rW (List.length_map ..) ?_;exact bt ‹_› (by rfl),?_⟩
 have hleft:(((d.map V.int).length:Nat):Int)-(i:Nat)=(d.length-i:Nat):=by refine rW (List.length_map ..) ?_;exact (Int.natCast_sub (by assumption)).symm
 have go:∀L:Int,L=(d.length-i:Nat)->aQ G (n+3) (aj.sl.tl 2) E η [some (bj "text" t.str "" false c.lc .none),some (.lst (d.map .int)),some (.int i),some (.str "text"),some (.str t.str),some (.str ""),some (.bool false),some c.lc,some .none,some (.int L),none,none,none,none,none,none,none,none,none,none,none,none,none,none,none] (fin Q):=by
  rintro _ rfl
  refine tF (by decide+kernel) (tF (by decide+kernel) (tF (by decide+kernel) ?_))
  refine aV X (n:=n+2) (s:=d.length-i) ?_
  have hm:=pf c (Nat.le_refl (d.length-i))
  have hmle:=eB c (d.length-i)
  refine ⟨sz (by refine rW (List.length_map ..) ?_;exact bt ‹_› (by rfl)),?_⟩
  rw [hm, <-Int.natCast_add,kh,Nat.add_sub_cancel_left, <-List.map_drop, <-List.map_take]
  unfold TL.rd at q
  dsimp only at q
  have hlen:((d.drop i).take (gN c (d.length-i))).length=gN c (d.length-i):=by refine rW List.length_take (rW List.length_drop ?_);exact Nat.min_eq_left (lA hmle)
  have hin:∀x∈(d.drop i).take (gN c (d.length-i)),0<=x/\x<=255:=λx hx=>ho x (List.mem_of_mem_drop (List.mem_of_mem_take hx))
  generalize (d.drop i).take (gN c (d.length-i))=l at q hlen hin ⊢
  generalize gN c (d.length-i)=m at q hlen hmle
  clear hm;subst hlen
  have key:aQ G (n+3) (aj.sl.tl 7) E η [some (bj "text" t.str "" false c.lc .none),some (.lst (d.map .int)),some (.int i),some (.str "text"),some (.str t.str),some (.str ""),some (.bool false),some c.lc,some .none,some (.int (d.length-i:Nat)),none,none,none,none,some (.lst (l.map .int)),none,none,none,none,some (.str (du l)),none,none,none,none,none] (fin Q):=by
   have hlm:(l.map V.int).length=l.length:=List.length_map ..
   have hcl:(du l).length=l.length:=by unfold du;exact rW (av ..) (rW (List.length_map ..) rfl)
   cases t with
   | a=>
    refine tF (by decide+kernel) (tF (by decide+kernel) ?_)
    refine ⟨by refine rW hlm ?_;exact lC hd hmle (Nat.sub_le d.length i),?_⟩
    refine rW hlm ?_
    rw [Int.natCast_add] at q
    exact q
   | A=>
    refine tT rfl ?_
    refine ⟨sz (by refine rW hcl ?_;exact lC hd hmle (Nat.sub_le d.length i)),by refine rW hlm ?_;exact lC hd hmle (Nat.sub_le d.length i),?_⟩
    refine rW hlm ?_
    rw [Int.natCast_add, <-hA l (by exact lC hd hmle (Nat.sub_le d.length i)) hin] at q
    exact q
   | Z=>
    refine tF (by decide+kernel) (tT rfl ⟨_,fV 0 l,λz=>?_,λz=>?_⟩)
    ·cases e:yg l with
     | none=>
      have:=List.findIdx?_eq_none_iff.mp e
      obtain ⟨b,hb,hb2⟩:=List.any_eq_true.mp z
      have:=this b hb
      rw [hb2] at this;cases this
     | some j=>
      have hj:=vF e
      rw [e] at q
      dsimp only at q
      refine ⟨_,j,fV 0 l,e,by exact lD hd hmle hj (Nat.sub_le d.length i),sz (by refine rW hcl ?_;exact lC hd hmle (Nat.sub_le d.length i)),?_⟩
      have hs:q7 none (some (j:Int)) none (du l)=du (l.take j):=by unfold du;exact rW (wc ..) (rW List.map_take rfl)
      refine rW hs ?_
      cases c with
      | star=>
       refine tT rfl ⟨_,j,fV 0 l,e,by exact lD hd hmle hj (Nat.sub_le d.length i),?_⟩
       rw [if_pos (show bB.star.isStar=true from rfl),Nat.add_assoc,Int.natCast_add,Int.natCast_add] at q
       exact q
      | au=>
       refine ⟨by refine rW hlm ?_;exact lC hd hmle (Nat.sub_le d.length i),?_⟩
       refine rW hlm ?_
       rw [if_neg (show ¬bB.au.isStar=true from λy=>nomatch y),Int.natCast_add] at q
       exact q
      | num k=>
       refine ⟨by refine rW hlm ?_;exact lC hd hmle (Nat.sub_le d.length i),?_⟩
       refine rW hlm ?_
       rw [if_neg (show ¬(bB.num k).isStar=true from λy=>nomatch y),Int.natCast_add] at q
       exact q
    ·have e:yg l=none:=by
      unfold yg
      rw [List.findIdx?_eq_none_iff]
      intro b hb
      have:=List.any_eq_false.mp z b hb
      simpa using this
     rw [e] at q
     refine ⟨by refine rW hlm ?_;lia,?_⟩
     refine rW hlm ?_
     rw [Int.natCast_add] at q
     exact q
  exact pK (G:=G) (m:=n+3) (i:=24) (ρ:= [some (bj "text" t.str "" false c.lc .none),some (.lst (d.map .int)),some (.int i),some (.str "text"),some (.str t.str),some (.str ""),some (.bool false),some c.lc,some .none,some (.int (d.length-i:Nat)),none,none,none,none,some (.lst (l.map .int)),none,none,none,none,none,none,none,none,none,none]) (Q:=λY η2=>aQ G (n+3) (aj.sl.tl 7) E η2 [some (bj "text" t.str "" false c.lc .none),some (.lst (d.map .int)),some (.int i),some (.str "text"),some (.str t.str),some (.str ""),some (.bool false),some c.lc,some .none,some (.int (d.length-i:Nat)),none,none,none,none,some (.lst (l.map .int)),none,none,none,none,some Y,none,none,none,none,none] (fin Q)) hin (by exact lC hd hmle (Nat.sub_le d.length i)) (by refine (?_:24<25);decide) key
 exact go _ hleft
end
noncomputable def le:List Int->Int
 | []=>0
 | x::r=>x+256*le r
theorem p7 (c:Int)(f:Nat->Int):∀l:List Nat,(l.map λk=>c*f k).sum=c*(l.map f).sum
 | []=>by simp
 | x::l=>by exact rW List.map_cons (rW List.sum_cons (rW (p7 c f l) (rW List.map_cons (rW List.sum_cons (rW (Int.mul_add ..) rfl)))))
theorem BH:∀l:List Int,((List.range l.length).map λk=>l.getD k 0*256^k).sum=le l:=by
 intro l
 induction l with
 | nil=>rfl
 | cons x r ih=>
  rw [List.length_cons,List.range_succ_eq_map,List.map_cons,List.sum_cons,List.map_map,le, <-ih, <-p7]
  congr 1
  ·refine (?_:x*1=x);simp+arith
  ·congr 1
   refine List.map_congr_left λk ξ=>?_
   refine (?_:r.getD k 0*256^(k+1)=256*(r.getD k 0*256^k))
   refine rW (Int.pow_succ ..) ?_;grind
theorem BG (l:List Int):pZ l.reverse=le l:=by
 unfold pZ
 refine rW List.foldl_reverse ?_
 induction l with
 | nil=>rfl
 | cons x r ih=>rw [List.foldr_cons,ih,le];simp+arith
theorem Dt:∀l:List Int,(∀x∈l,0<=x/\x<=255)->l≠ []->0<=le l/\le l<256^l.length/\(BP l.reverse=true ↔ 256^l.length<=2*le l):=by
 intro l
 induction l with
 | nil=>intro _ h;exact absurd rfl h
 | cons x r ih=>
  intro h _
  have hx:=h x List.mem_cons_self
  rw [List.length_cons,Int.pow_succ,List.reverse_cons,le]
  cases r with
  | nil=>
   refine (?_:0<=x+256*0/\x+256*0<1*256/\(decide (127<x)=true ↔ _))
   rw [decide_eq_true_iff]
   refine ⟨by exact iA hx.1,by exact iA hx.2,?_⟩
   refine (?_:127<x ↔ 1*256<=2*(x+256*0))
   lia
  | cons y s=>
   obtain ⟨i1,i2,i3⟩:=ih (λz hz=>h z (List.mem_cons_of_mem _ hz)) (by simp)
   have e:BP ((y::s).reverse++ [x])=BP (y::s).reverse:=by
    cases q:(y::s).reverse with
    | nil=>exact absurd q (by simp)
    | cons z w=>rfl
   rw [e,i3]
   have h2:∃p:Int,(256:Int)^(y::s).length=2*p:=⟨128*256^s.length,by refine rW List.length_cons (rW (Int.pow_succ ..) ?_);simp+arith⟩
   obtain ⟨p,hp⟩:=h2
   rw [hp] at i2 ⊢
   refine ⟨by lia,by lia,by (refine ⟨?_,?_⟩<;>lia)⟩
theorem i0 {v:Int}(h0: -2^63<=v)(h1:v<2^64):wrap64 v=if 2^63<=v then v-2^64 else v:=by
 unfold wrap64
 rcases Int.lt_or_le v 0 with y|y
 ·have e:v.fmod (2^64)=v+2^64:=by
   refine rW (show v=(v+2^64)+2^64*(-1) by lia) (rW (Int.add_mul_fmod_self_left ..) ?_)
   refine rW (Int.fmod_eq_of_lt (by exact iA h0) (by exact iA y)) ?_;lia
  refine rW e (rW (Int.fdiv_eq_ediv_of_nonneg _ (by decide)) ?_)
  split<;>split<;>lia
 ·have e:v.fmod (2^64)=v:=Int.fmod_eq_of_lt (by assumption) (by assumption)
  refine rW e (rW (Int.fdiv_eq_ediv_of_nonneg _ (by decide)) ?_)
  split<;>split<;>lia
theorem xn {t:NL}{o:Str}{b:Bool}{row:List Int}(hl:row.length=t.size b)(ho:∀x∈row,0<=x/\x<=255):uS t o b row=t.val o b row:=by
 have hR:(gf t o row).length=t.size b:=by unfold gf;split<;>simp [hl]
 have hRo:∀x∈gf t o row,0<=x/\x<=255:=by
  unfold gf;split
  ·exact λx hx=>ho x (List.mem_reverse.mp hx)
  ·exact ho
 have e1:sk t o b row=le (gf t o row):=by unfold sk;refine rV hR ?_;exact BH _
 have e2:(if t.big o=true then row else row.reverse)=(gf t o row).reverse:=by unfold gf;split<;>simp
 have hne:gf t o row≠ []:=λz=>by have:=size_pos t b;rw [z] at hR;exact absurd hR (by simp;exact Nat.ne_of_lt (by assumption))
 obtain ⟨h1,h2,h3⟩:=Dt _ hRo hne
 rw [hR] at h2 h3
 have hs:(qM t b=t.sgn b/\(256:Int)^t.size b<=2^32)\/(qM t b=true/\t.size b=8):=by
  clear h3 h2 h1 hne e2 e1 hRo hR hl;cases t<;>cases b<;>first|exact .inl (by decide+kernel)|exact .inr (by decide+kernel)
 have hp:(2:Int)^(8*row.length)=256^t.size b:=by refine rW hl (rW Int.pow_mul ?_);rfl
 have e3:numOf row (t.big o) (t.sgn b)=if t.sgn b=true/\256^t.size b<=2*le (gf t o row) then le (gf t o row)-256^t.size b else le (gf t o row):=by
  unfold numOf
  dsimp only
  refine rW e2 (rW (BG ..) (rW hp ?_))
  congr 1
  rw [Bool.and_eq_true,h3]
 unfold uS NL.val
 refine rW e1 (rW e3 ?_)
 generalize le (gf t o row)=v at h1 h2
 rcases hs with ⟨s1,s2⟩|⟨s1,s2⟩
 ·refine rW s1 ?_
  generalize (256:Int)^t.size b=p at h2 s2
  split
  ·exact rW (i0 (by lia) (by exact iA h2)) (rW (if_neg (by exact Int.not_le.mpr (iA h2))) rfl)
  ·exact rW (i0 (by exact iA h1) (by exact DV ‹_› (by exact iA s2))) (rW (if_neg (by exact Int.not_le.mpr (iB h2 s2))) rfl)
 ·refine rW s1 (rW s2 ?_)
  rw [s2] at h2
  have e4:(256:Int)^8=2^64:=by decide
  rw [e4] at h2 ⊢
  by_cases z:2^64<=2*v
  ·refine rW (if_pos ⟨rfl,z⟩) ?_
   split
   ·exact rW (i0 (by lia) (by exact iA h2)) (rW (if_neg (by exact Int.not_le.mpr (iA h2))) rfl)
   ·exact rW (i0 (by lia) (by exact iA h2)) (rW (if_pos (by lia)) rfl)
  ·exact rW (if_neg λy=>z y.2) (rW (if_neg λy=>z y.2) (rW (i0 (by exact iA h1) (by assumption)) (rW (if_neg (by lia)) rfl)))
theorem mL {f:Int->List Nat}{w:Nat}(hw:0<w)(hf:∀x,(f x).length=w):∀(row:List Int) (k:Nat),k<w*row.length->(row.flatMap f)[k]?=(f (row.getD (k/w) 0))[k%w]?
 | [],k,h=>absurd h (by simp)
 | x::row,k,h=>by
  refine rW List.flatMap_cons ?_
  rw [List.length_cons,Nat.mul_succ] at h
  rcases Nat.lt_or_ge k w with y|y
  ·rw [List.getElem?_append_left (by refine rW (hf ..) ?_;exact y),Nat.div_eq_of_lt y,Nat.mod_eq_of_lt y];rfl
  ·rw [List.getElem?_append_right (by refine rW (hf ..) ?_;exact y),hf,mL hw hf row (k-w) (by exact lB h (sC y))]
   clear h;obtain ⟨j,rfl⟩:=Nat.exists_eq_add_of_le y
   refine rW (Nat.add_sub_cancel_left ..) (rW (Nat.add_mod_left ..) (rW (Nat.add_div_left _ hw) ?_));rfl
theorem yU:∀big:Bool,∀x∈List.range 256,∀k∈List.range 8,(kP 8 2 big (x:Int))[k]?=some (48+(Builtin.bitAnd ((x:Int).fdiv (2^(if big then 7-k else k))) 1).toNat):=by decide+kernel
theorem yV:∀big:Bool,∀x∈List.range 256,∀k∈List.range 2,(kP 2 16 big (x:Int))[k]?=some (lu (Builtin.bitAnd ((x:Int).fdiv (2^(if (decide (k=0)==big)=true then 4 else 0))) 15).toNat):=by decide+kernel
theorem qO {row:List Int}(ho:∀x∈row,0<=x/\x<=255)(k:Nat):∃m:Nat,m∈List.range 256/\row.getD k 0=m:=by
 refine rW List.getD_eq_getElem?_getD ?_
 cases e:row[k]? with
 | none=>exact ⟨0,by decide,rfl⟩
 | some x=>
  have:=ho x (List.mem_of_getElem? e)
  exact ⟨x.toNat,List.mem_range.mpr (by lia),by refine (?_:x=_);lia⟩
set_option tactic.hygienic true in
theorem xm {row:List Int}(ho:∀x∈row,0<=x/\x<=255){m:Nat}(hm:m<=8*row.length)(big:Bool):(lr 8 2 big row).take m=iG row m big:=by
 refine List.ext_getElem? λk=>?_
 unfold iG lr
 refine rW List.getElem?_take (rW List.getElem?_map ?_)
 split
 ·rename_i h
  refine rW (mL (by decide) (λξ=>fw) row k (by exact ka ‹_› ‹_›)) (rW (List.getElem?_range h) ?_)
  obtain ⟨x,hx,e⟩:=qO ho (k/8)
  have:=yU big x hx (k%8) (List.mem_range.mpr (Nat.mod_lt k (show 0<8 by decide)))
  refine rW e (rW this ?_)
  refine (?_:_=some (48+(nJ row big k).toNat))
  unfold nJ
  exact rW e rfl
 ·rename_i h
  rw [List.getElem?_eq_none (by refine rW List.length_range ?_;exact Nat.le_of_not_lt (by assumption))];rfl
set_option tactic.hygienic true in
theorem xk {row:List Int}(ho:∀x∈row,0<=x/\x<=255){m:Nat}(hm:m<=2*row.length)(big:Bool):(lr 2 16 big row).take m=iz row m big:=by
 refine List.ext_getElem? λk=>?_
 unfold iz lr
 refine rW List.getElem?_take (rW List.getElem?_map ?_)
 split
 ·rename_i h
  refine rW (mL (by decide) (λξ=>fw) row k (by exact ka ‹_› ‹_›)) (rW (List.getElem?_range h) ?_)
  obtain ⟨x,hx,e⟩:=qO ho (k/2)
  have:=yV big x hx (k%2) (List.mem_range.mpr (Nat.mod_lt k (show 0<2 by decide)))
  refine rW e (rW this ?_)
  refine (?_:_=some (lu (nH row big k).toNat))
  unfold nH
  rw [e,show decide ((k:Int).fmod 2=0)=decide (k%2=0) from decide_eq_decide.mpr (by refine rW (Int.fmod_eq_emod_of_nonneg _ (by decide)) ?_;(refine ⟨?_,?_⟩<;>lia))]
 ·rename_i h
  rw [List.getElem?_eq_none (by refine rW List.length_range ?_;exact lA (nT h))];rfl
theorem uz:∀l:List Int,fF l=l.drop (l.takeWhile ym).length:=by
 intro L_
 induction L_ with
 | nil=>
  exact rfl
 | cons x r ih=>
  rw [fF,List.takeWhile_cons]
  split
  ·exact rW List.length_cons (rW List.drop_succ_cons (rW (ih) rfl))
  ·rfl
theorem A0 {f:Int->Nat}{g:Nat->Bool}:∀{l:List Int},(∀x∈l,g (f x)=ym x)->((l.map f).takeWhile g).length=(l.takeWhile ym).length:=by
 intro L_
 induction L_ with
 | nil=>
  intro _
  exact rfl
 | cons x r ih=>
  intro h
  refine rW List.map_cons (rW List.takeWhile_cons (rW List.takeWhile_cons (rW (h x List.mem_cons_self) ?_)))
  split
  ·exact rW List.length_cons (rW List.length_cons (rW (ih λy hy=>h y (List.mem_cons_of_mem _ hy)) rfl))
  ·rfl
theorem zE:∀x∈List.range 256,(Str.ofString " \n\t\r\x0c\x0b\x00").cps.contains x=ym (x:Int):=by decide+kernel
theorem wu {l:List Int}(ho:∀x∈l,0<=x/\x<=255):Txt.rstripChars (du l) " \n\t\r\x0c\x0b\x00"=du (oB l):=by
 have hc:(du l).cps.toList=l.map Int.toNat:=by simp [du,ls]
 have hn:(du l).length=l.length:=by unfold du;exact rW (av ..) (rW (List.length_map ..) rfl)
 have e:(((l.map Int.toNat).reverse.takeWhile (Str.ofString " \n\t\r\x0c\x0b\x00").cps.contains)).length=(l.reverse.takeWhile ym).length:=by
  refine rV List.map_reverse ?_
  refine A0 λx hx=>?_
  have:=ho x (List.mem_reverse.mp hx)
  have:=zE x.toNat (List.mem_range.mpr (by lia))
  rwa [show ((x.toNat:Nat):Int)=x by lia] at this
 unfold Txt.rstripChars
 refine rW (PyProof.Rows.stripBy_eq ..) ?_
 refine (?_:Builtin.Str.strSub (du l) 0 ((du l).length-(((du l).cps.toList.drop 0).reverse.takeWhile (Str.ofString " \n\t\r\x0c\x0b\x00").cps.contains).length)=_)
 rw [strSub_mk,List.drop_zero,hc,hn,e,Nat.sub_zero, <-List.map_take]
 unfold oB du ls
 exact rW (uz ..) (rW List.reverse_drop (rW (List.reverse_reverse ..) (rW List.length_reverse rfl)))
theorem PI.fL {d:List Int}{ov:Option Nat}{p:PI}{i:Nat}{r:List V×Nat}(e:p.rd d ov i=some r):r.1.length<=2+2*(r.2-i):=by
 cases p with
 | num t o b c=>
  cases e
  have:=size_pos t b
  have:=Nat.mul_le_mul_right (gN (c.ov ov) ((d.length-i)/t.size b)) this
  refine (?_:(cy _ _ _ _ _).length<=2+2*(i+t.size b*_-i))
  refine rW (fu ..) ?_;exact lB this (sA (i+t.size b*gN (c.ov ov) ((d.length-i)/t.size b)) i)
 | text t c=>cases e;exact Nat.le_add_right 2 _ |>Nat.le_trans (by refine (?_:1<=2);decide)
 | dig t c=>cases e;exact Nat.le_add_right 2 _ |>Nat.le_trans (by refine (?_:1<=2);decide)
 | fS c=>
  simp only [PI.rd] at e
  split at e
  ·cases e
  ·cases e;exact Nat.zero_le _
set_option tactic.hygienic true in
theorem tH {f:Nat->Option (List V×Nat)}{star:Bool}{len a c:Nat}(hf:∀i r,i<=len->f i=some r->(i<=r.2/\r.2<=len)/\r.1.length<=a+c*(r.2-i)/\(star=true->i<len->i<r.2)):
  ∀(k i:Nat) (r:List V×Nat),i<=len->qt f star len k i=some r->r.1.length<=eD star k a+(1+a+c)*(r.2-i)
 | 0,i,r,h,e=>by cases e;exact Nat.zero_le _
 | k+1,i,r,h,e=>by
  rw [qt] at e
  split at e
  ·cases e;exact Nat.zero_le _
  ·rename_i z
   obtain ⟨p,q,e1,e2,rfl⟩:=dU e
   obtain ⟨⟨b1,b2⟩,b3,b4⟩:=hf i p h e1
   have b5:=tH hf k p.2 q b2 e2
   obtain ⟨b6,b7⟩:=oQ (λi r h e=>(hf i r h e).1) k p.2 q b2 e2
   have m1:=bM (c:=1+a+c) b1 b6
   have m2:(1+a+c)*(p.2-i)=(1+a)*(p.2-i)+c*(p.2-i):=Nat.add_mul _ _ _
   refine rW List.length_append ?_
   refine (?_:_<=_+(1+a+c)*(q.2-i))
   unfold eD at b5 ⊢
   by_cases w:star=true
   ·rw [if_pos w] at b5 ⊢
    have:=Nat.mul_le_mul_left (1+a) (show 1<=p.2-i from by have:=b4 w (by have:¬(len-i=0):=λy=>z ⟨w,y⟩;lia);exact lB this (sA p.snd i))
    exact vD ‹_› ‹_› (by exact mB (eR m1) this)
   ·rw [if_neg w] at b5 ⊢
    refine rW (Nat.succ_mul ..) ?_;exact vD ‹_› ‹_› (by exact mA (eR m1))
theorem Am (c:bB)(l a:Nat):eD c.isStar (tm c l) a<=c.K*(1+a):=by cases c<;>first|exact Nat.le_refl _|exact Nat.zero_le _
mutual
theorem LI.fL {d:List Int}:(j:LI)->∀{ov:Option Nat} {i:Nat} {r:List V×Nat},j.gO ov->i<=d.length->j.rd d ov i=some r->r.1.length<=j.aU ov+j.cU*(r.2-i)
 | .pl p,ov,i,r,_,h,e=>PI.fL e
 | .aI o c l,ov,i,r,ok,h,e=>by
  have:=tH (f:=λi=>LL.rd d l i) (a:=l.aU) (c:=l.cU) (λi r h e=>⟨LL.cx l h e,LL.fL l ok.2 h e,λs y=>LL.zO l (ok.1 s) y e⟩) _ i r h e
  have h2:=Am (c.ov ov) d.length l.aU
  refine (?_:_<=1+(c.ov ov).K*(1+l.aU)+(1+l.aU+l.cU)*(r.2-i))
  exact jG ‹_› (by exact lA h2)
 | .cnt t j,ov,i,r,ok,h,e=>ok.elim
theorem LL.fL {d:List Int}:(l:LL)->∀{i:Nat} {r:List V×Nat},l.gO->i<=d.length->l.rd d i=some r->r.1.length<=l.aU+l.cU*(r.2-i)
 | .nil,i,r,_,h,e=>by cases e;exact Nat.zero_le _
 | .cons j l,i,r,ok,h,e=>by
  obtain ⟨p,q,e1,e2,rfl⟩:=dU e
  obtain ⟨a,b⟩:=LI.cx j h e1
  have h1:=LI.fL j ok.1 h e1
  have h2:=LL.fL l ok.2 b e2
  obtain ⟨c,_⟩:=LL.cx l b e2
  have m1:=bM (c:=j.cU) a c
  have m2:=bM (c:=l.cU) a c
  refine rW List.length_append ?_
  refine (?_:_<=(j.aU none+l.aU)+(j.cU+l.cU)*(q.2-i))
  refine rW (Nat.add_mul ..) ?_;exact vD ‹_› ‹_› (by exact lB (eR m1) (eR m2))
end
section
variable {G:Gc}(X:GX G){d:List Int}
include X
theorem vV (hd:d.length<=24)(ho:∀x∈d,0<=x/\x<=255){n i:Nat}{η:Hm}{E:Prop}{Q:V->Hm->Prop}(p:PI){ov:Option Nat}(hi:i<=d.length)(q:RQ (p.rd d ov i) λY=>Q Y η):
  ah G (n+4) (.ref aM) [p.lw ov, .lst (d.map .int), .int i] η Q E:=by
 cases p with
 | num t o b c=>exact qa X hd hi (λrow h1 h2=>xn h1 h2) ho q
 | fS c=>exact qb X hd hi q
 | text t c=>exact p9 X hd hi ho (λl ξ h=>wu h) (q.2 _ rfl)
 | dig t c=>
  refine qc X hd hi ho λw base hw m hm=>?_
  have q:=q.2 _ rfl
  have hb:∀S:Str,Txt.contains "BH" t.str=(decide (t.str="B")||decide (t.str="H")):=λξ=>by clear q hw;cases t<;>decide+kernel
  have hl:=eB (c.ov ov) (w*(d.length-i))
  rw [<-hm] at hl
  have ho2:∀k,∀x∈(d.drop i).take k,0<=x/\x<=255:=λk x hx=>ho x (List.mem_of_mem_drop (List.mem_of_mem_take hx))
  clear hb;rcases hw with ⟨rfl,rfl,hw⟩|⟨rfl,rfl,hw⟩
  ·rw [xm (ho2 _) (by refine rW List.length_take (rW List.length_drop ?_);(refine rW Nat.min_def ?_;split<;>lia))]
   have e:DL.rd t (c.ov ov) d i=(.str (ls (iG ((d.drop i).take ((m+7)/8)) m (decide (t.str="B")))),i+(m+7)/8):=by refine rW hm ?_;exact if_pos hw
   rw [e,show decide (t.str="B")=Txt.contains "BH" t.str by clear e q;cases t<;>first|decide+kernel|exact absurd hw (by decide+kernel)] at q
   exact q
  ·rw [xk (ho2 _) (by refine rW List.length_take (rW List.length_drop ?_);(refine rW Nat.min_def ?_;split<;>lia))]
   have e:DL.rd t (c.ov ov) d i=(.str (ls (iz ((d.drop i).take ((m+1)/2)) m (decide (t.str="H")))),i+(m+1)/2):=by refine rW hm ?_;exact if_neg (by refine rW hw ?_;decide)
   rw [e,show decide (t.str="H")=Txt.contains "BH" t.str by clear e q;cases t<;>first|decide+kernel|exact absurd hw (by decide+kernel)] at q
   exact q
end
noncomputable abbrev yj:SL:=(eV.sl.tl 1).hd.body
structure D2 (G:Gc)(d:List Int)(n:Nat)(its:List V)(f:Nat->Option (List V×Nat)):Prop where
 of:∀{m:Nat} {η:Hm} {E:Prop} {Q:V->Hm->Prop} {i:Nat},i<=d.length->RQ (f i) (λY=>Q Y η)->ah G (m+n) (.ref bz) [.lst its, .lst (d.map .int), .int i] η Q E
structure ye (G:Gc)(d:List Int)(n:Nat)(j:LI):Prop where
 of:∀{m:Nat} {η:Hm} {E:Prop} {K:Kp} {i:Nat} {r:Addr} {F:List V} {its:V} {ov:Option Nat} {s5 s6 s7 s8 s9 s10 s11 s12 s13:Option V},j.gO ov->i<=d.length->F.length+(j.aU ov+j.cU*(d.length-i))<=10000->
 (j.rd d ov i=none->∀(k:Int) (F':List V),K.rt (.tup [.none, .int k]) (upd η r (.list F')))->
 (∀p,j.rd d ov i=some p->∀s5 s6 s7 s8 s9 s10 s11 s12 s13,K.nx (upd η r (.list (F++p.1))) [some its,some (.lst (d.map .int)),some (.int p.2),some (.ref r),some (j.lw ov),s5,s6,s7,s8,s9,s10,s11,s12,s13]/\K.ct (upd η r (.list (F++p.1))) [some its,some (.lst (d.map .int)),some (.int p.2),some (.ref r),some (j.lw ov),s5,s6,s7,s8,s9,s10,s11,s12,s13])->
 aQ G (m+n) yj E (upd η r (.list F)) [some its,some (.lst (d.map .int)),some (.int i),some (.ref r),some (j.lw ov),s5,s6,s7,s8,s9,s10,s11,s12,s13] K
theorem ye.up {G:Gc}{d:List Int}{N M:Nat}{j:LI}(h:ye G d N j)(hm:N<=M):ye G d M j:=by
 obtain ⟨k,rfl⟩:=Nat.exists_eq_add_of_le hm
 exact ⟨λ{m} {_} {E} {_} {_} {_} {_} {its} {_} {s5 s6 s7 s8 s9 s10 s11 s12 s13} a b c d e=>by
  have:=h.of (m:=m+k) (E:=E) (its:=its) (s5:=s5) (s6:=s6) (s7:=s7) (s8:=s8) (s9:=s9) (s10:=s10) (s11:=s11) (s12:=s12) (s13:=s13) a b c d e
  rwa [Nat.add_assoc,Nat.add_comm k N] at this⟩
section
variable {G:Gc}(X:GX G){d:List Int}
include X
theorem Dr (hd:d.length<=24)(ho:∀x∈d,0<=x/\x<=255)(p:PI):ye G d 4 (.pl p):=⟨λ{m} {η} {E} {K} {i} {r} {F} {its} {ov} {s5 s6 s7 s8 s9 s10 s11 s12 s13} hok hi hF qn q=>by
 have key:=λ(Q:V->Hm->Prop) q=>vV X hd ho (n:=m) (η:=upd η r (.list F)) (E:=E) (Q:=Q) p (ov:=ov) hi q
 have hF:F.length+(2+2*(d.length-i))<=10000:=hF
 have b:∀x,PI.rd d ov p i=some x->F.length+x.1.length<2^20:=λx e=>by
  have h1:=PI.fL e
  have h2:=(PI.cx hi e).2
  exact lC hF h1 (Nat.mul_le_mul_left 2 (Nat.sub_le_sub_right h2 i))
 cases p with
 | _=>
  refine tF (by decide+kernel) (tF (by decide+kernel) ?_)
  refine key _ ⟨λe k=>qn e k F,λx e=>⟨_,ag,sz (b x e),?_⟩⟩
  refine rW ak ?_
  exact (q x e _ _ _ _ _ _ _ _ _).1⟩
end
section
variable {G:Gc}(X:GX G){d:List Int}
include X
theorem BA (hd:d.length<=24){o:Str}{c:bB}{l:LL}{N:Nat}(IH:D2 G d (N+4) l.lw (λi=>l.rd d i)):ye G d (N+4) (.aI o c l):=⟨λ{m} {η} {E} {K} {i} {r} {F} {its} {ov} {s5 s6 s7 s8 s9 s10 s11 s12 s13} hok hi hF qn q=>by
 obtain ⟨hc,hlo⟩:=hok
 have hF:F.length+(1+(c.ov ov).K*(1+l.aU)+(1+l.aU+l.cU)*(d.length-i))<=10000:=hF
 have hL:(LI.aI o c l).lw ov=bj "group" "" o false (c.ov ov).lc (.lst l.lw):=rfl
 have hrd:LI.rd d (.aI o c l) ov i=qt (λi=>l.rd d i) (c.ov ov).isStar d.length (tm (c.ov ov) d.length) i:=rfl
 rw [hL] at q ⊢
 rw [hrd] at q qn
 generalize c.ov ov=c at q qn hc hF ⊢
 have hK:=Am c d.length l.aU
 have hk:tm c d.length<=10024:=by
  clear hK hc qn q;cases c with
  | au=>show 1<=_;simp+arith only
  | star=>show d.length<=_;exact lA hd
  | num m=>
   have:m*1<=m*(1+l.aU):=Nat.mul_le_mul_left _ (by simp+arith only)
   have hF:F.length+(1+m*(1+l.aU)+_)<=10000:=hF
   refine (?_:m<=_);exact mA hF
 refine tT rfl ⟨by refine rW (List.length_map ..) ?_;exact lA hd,?_⟩
 refine rW (List.length_map ..) ?_
 refine aV X (n:=m+N+3) (s:=d.length) ⟨_,aO (by exact lA hk),?_⟩
 generalize tm c d.length=k at q qn hK hk
 have loop:∀(is:List V) (i:Nat) (F:List V) (s11 s12:Option V),i<=d.length->F.length+(eD c.isStar is.length l.aU+(1+l.aU+l.cU)*(d.length-i))<=10000->
   (qt (λi=>l.rd d i) c.isStar d.length is.length i=none->∀(k:Int) (F':List V),K.rt (.tup [.none, .int k]) (upd η r (.list F')))->
   (∀p,qt (λi=>l.rd d i) c.isStar d.length is.length i=some p->∀s11 s12,K.ct (upd η r (.list (F++p.1))) [some its,some (.lst (d.map .int)),some (.int p.2),some (.ref r),some (bj "group" "" o false c.lc (.lst l.lw)),some (.str "group"),some (.str ""),some (.str o),some (.bool false),some c.lc,some (.lst l.lw),s11,s12,s13])->
   fX (m9 [11] false) (λη ρ K=>aQ G (m+(N+4)) (yj.tl 1).hd.th.hd.body E η ρ K) K.ct K.rt is (upd η r (.list F))
    [some its,some (.lst (d.map .int)),some (.int i),some (.ref r),some (bj "group" "" o false c.lc (.lst l.lw)),some (.str "group"),some (.str ""),some (.str o),some (.bool false),some c.lc,some (.lst l.lw),s11,s12,s13]:=by
  intro is
  induction is with
  | nil=>
   intro i F s11 s12 _ _ _ q
   have:=q _ rfl s11 s12
   rw [List.append_nil] at this
   exact this
  | cons x is ih=>
   intro i F s11 s12 hi hF qn q
   have e1:(1+l.aU+l.cU)*(d.length-i)=(1+l.aU)*(d.length-i)+l.cU*(d.length-i):=Nat.add_mul _ _ _
   have go:¬(c.isStar=true/\d.length-i=0)->aQ G (m+(N+4)) ((yj.tl 1).hd.th.hd.body.tl 1) E (upd η r (.list F)) [some its,some (.lst (d.map .int)),some (.int i),some (.ref r),some (bj "group" "" o false c.lc (.lst l.lw)),some (.str "group"),some (.str ""),some (.str o),some (.bool false),some c.lc,some (.lst l.lw),some x,s12,s13]
     ⟨λη ρ=>fX (m9 [11] false) (λη ρ K=>aQ G (m+(N+4)) (yj.tl 1).hd.th.hd.body E η ρ K) K.ct K.rt is η ρ,K.ct,λη ρ=>fX (m9 [11] false) (λη ρ K=>aQ G (m+(N+4)) (yj.tl 1).hd.th.hd.body E η ρ K) K.ct K.rt is η ρ,K.rt⟩:=λz=>by
    have er:qt (λi=>l.rd d i) c.isStar d.length (x::is).length i=gc (l.rd d i) (qt (λi=>l.rd d i) c.isStar d.length is.length):=if_neg z
    rw [er] at q qn
    refine IH.of (m:=m) hi ⟨λe k=>qn (by refine rW e ?_;rfl) k F,λp e=>?_⟩
    obtain ⟨b1,b2⟩:=LL.cx l hi e
    have b3:=LL.fL l hlo hi e
    have m0:=bM (c:=l.cU) b1 b2
    have e2:1+l.aU<=eD c.isStar (x::is).length l.aU+(1+l.aU)*(d.length-i):=by
     unfold eD
     by_cases w:c.isStar=true
     ·refine rW (if_pos w) ?_
      have:=Nat.mul_le_mul_left (1+l.aU) (show 1<=d.length-i from Nat.pos_of_ne_zero λy=>z ⟨w,y⟩)
      exact lA this
     ·refine rW (if_neg w) (rW List.length_cons (rW (Nat.succ_mul ..) ?_));simp+arith only
    refine ⟨_,ag,sz (by exact mD hF b3 (eR m0) e2),?_⟩
    refine rW ak ?_
    refine ih p.2 (F++p.1) _ _ b2 ?_ (λe2=>qn (by refine rW e ?_;unfold gc;dsimp only;exact rW e2 rfl)) λp2 e2 s11 s12=>?_
    ·have m1:=bM (c:=1+l.aU+l.cU) b1 b2
     have m2:(1+l.aU+l.cU)*(p.2-i)=(1+l.aU)*(p.2-i)+l.cU*(p.2-i):=Nat.add_mul _ _ _
     refine rW List.length_append ?_
     unfold eD at hF ⊢
     by_cases w:c.isStar=true
     ·rw [if_pos w] at hF ⊢
      have:=LL.zO l (hc w) (Nat.lt_of_le_of_ne hi λy=>z ⟨w,by exact qB y.symm (Nat.sub_add_cancel (eL y))⟩) e
      have:=Nat.mul_le_mul_left (1+l.aU) (show 1<=p.2-i by exact lB this (sA p.snd i))
      exact mD hF b3 (eR m1) this
     ·rw [if_neg w] at hF ⊢
      rw [List.length_cons,Nat.succ_mul] at hF
      exact mC hF b3 (eR m1)
    ·have:=q (p.1++p2.1,p2.2) (by refine rW e ?_;unfold gc;dsimp only;exact rW e2 rfl) s11 s12
     rw [<-List.append_assoc] at this
     exact this
   clear qn hF ih hK hc;cases c with
   | au=>exact go λz=>nomatch z.1
   | num k=>exact go λz=>nomatch z.1
   | star=>
    refine tT rfl ⟨by refine rW (List.length_map ..) ?_;exact lA hd,λz=>?_,λz=>?_⟩
    ·rw [List.length_map] at z
     have:=q _ (if_pos ⟨rfl,by exact Nat.le_antisymm (lB (Int.ofNat_le.mp z) (sC hi)) ((by simp+arith only))⟩) (some x) s12
     rw [List.append_nil] at this
     exact this
    ·rw [List.length_map] at z
     exact go λy=>z (by exact Int.ofNat_le.mpr (lB (eL y.2) (sA d.length i)))
 have hln:((List.range k).map λ(k:Nat)=>V.int k).length=k:=by simp
 exact loop ((List.range k).map λ(k:Nat)=>V.int k) i F s11 s12 hi (by refine rW hln ?_;exact lB hF hK) (by refine rW hln ?_;exact qn) (by refine rW hln ?_;exact λp e s11 s12=>(q p e _ _ _ _ _ _ _ _ _).2)⟩
theorem tZ {N m:Nat}{η:Hm}{E:Prop}{Q:V->Hm->Prop}{r:Addr}{its:V}(hr:η r=none):∀(l:LL) (i:Nat) (F:List V) (s4 s5 s6 s7 s8 s9 s10 s11 s12 s13:Option V),l.all (ye G d N)->l.gO->i<=d.length->F.length+(l.aU+l.cU*(d.length-i))<=10000->
  (l.rd d i=none->∀(k:Int) (F':List V),Q (.tup [.none, .int k]) (upd η r (.list F')))->(∀p,l.rd d i=some p->Q (.tup [.lst (F++p.1), .int p.2]) η)->
  forL G (m+N) E Q (eV.sl.tl 1) [4] false l.lw (upd η r (.list F)) [some its,some (.lst (d.map .int)),some (.int i),some (.ref r),s4,s5,s6,s7,s8,s9,s10,s11,s12,s13]:=by
 intro l
 induction l using LL.rec (motive_1:=λξ=>True) with
 | nil=>
  intro i F s4 s5 s6 s7 s8 s9 s10 s11 s12 s13 _ _ _ _ _ q
  have q:=q _ rfl
  rw [List.append_nil] at q
  have:m7 (.ref r) (upd η r (.list F)) λX η1=>Q (.tup [X, .int i]) η1:= .inl ⟨_,ag,by refine rW (bJ hr) ?_;exact q⟩
  exact this
 | cons j l _ ih=>
  intro i F s4 s5 s6 s7 s8 s9 s10 s11 s12 s13 ha hok hi hF qn q
  have hF:F.length+((j.aU none+l.aU)+(j.cU+l.cU)*(d.length-i))<=10000:=hF
  rw [Nat.add_mul] at hF
  have hrd:(LL.cons j l).rd d i=gc (LI.rd d j none i) λi=>LL.rd d l i:=rfl
  rw [hrd] at qn q
  refine ha.1.of (m:=m) (ov:=none) hok.1 hi (by exact lA hF) (λe k F'=>qn (by refine rW e ?_;rfl) k F') λp e s5 s6 s7 s8 s9 s10 s11 s12 s13=>?_
  obtain ⟨b1,b2⟩:=LI.cx j hi e
  have b3:=LI.fL j hok.1 hi e
  have m1:=bM (c:=j.cU) b1 b2
  have m2:=bM (c:=l.cU) b1 b2
  have:=ih p.2 (F++p.1) (some (j.lw none)) s5 s6 s7 s8 s9 s10 s11 s12 s13 ha.2 hok.2 b2 (by refine rW List.length_append ?_;exact lD hF b3 (eR m1) (eR m2)) (λe2=>qn (by refine rW e ?_;unfold gc;dsimp only;exact rW e2 rfl)) λp2 e2=>by
   refine rW (List.append_assoc ..) ?_
   exact q (p.1++p2.1,p2.2) (by refine rW e ?_;unfold gc;dsimp only;exact rW e2 rfl)
  exact ⟨this,this⟩
 | pl|aI|cnt=>trivial
theorem xf {N:Nat}{l:LL}(h:l.all (ye G d N))(hok:l.gO)(hc:l.aU+l.cU*24<=10000)(hd:d.length<=24):D2 G d (N+1) l.lw (λi=>l.rd d i):=⟨λ{m} {η} {E} {Q} {i} hi q=>by
 refine (spec X 85 rfl rfl rfl ?_:ah G (m+N+1) _ _ η (λX η'=>∃η'',Sub η'' η'/\Q X η'') E).drop
 intro r hr
 have:=Nat.mul_le_mul_left l.cU (show d.length-i<=24 by exact jF ‹_›)
 exact tZ X hr l i [] _ _ _ _ _ _ _ _ _ _ h hok hi (by simp;exact ot ‹_› ‹_›) (λe k F'=>⟨η,i5 hr,q.1 e k⟩) λp e=>⟨η,λξ ξ h=>h,q.2 p e⟩⟩
end
theorem By {j:LI}{x:Option Nat}(h:j.gO x):∃(so L O:Str) (B:Bool) (inn:V),∀ov,j.lw ov=bj so L O B (j.cc.ov ov).lc inn:=by
 cases j with
 | cnt=>exact h.elim
 | aI o c l=>exact ⟨_,_,_,_,_,λov=>rfl⟩
 | pl p=>cases p<;>exact ⟨_,_,_,_,_,λov=>rfl⟩
section
variable {G:Gc}(X:GX G){d:List Int}
include X
theorem oK {n:Nat}{η:Hm}{E:Prop}{Q:V->Hm->Prop}{k:Int}(q:Q (.int k) η):ah G (n+1) (.ref et) [.int k] η Q E:=by
 exact spec X 84 rfl rfl rfl ⟨_,rfl,λh=>(nomatch h),λξ=>q⟩
theorem zw {N:Nat}{j:LI}(h:ye G d N j){ov:Option Nat}(hok:j.gO ov)(hc:j.aU ov+j.cU*24<=10000)(hd:d.length<=24):D2 G d (N+1) [j.lw ov] (λi=>j.rd d ov i):=⟨λ{m} {η} {E} {Q} {i} hi q=>by
 refine (spec X 85 rfl rfl rfl ?_:ah G (m+N+1) _ _ η (λX η'=>∃η'',Sub η'' η'/\Q X η'') E).drop
 intro r hr
 have:=Nat.mul_le_mul_left j.cU (show d.length-i<=24 by exact jF ‹_›)
 have fz:∀p:List V×Nat,j.rd d ov i=some p->m7 (.ref r) (upd η r (.list ([]++p.1))) λX η1=>∃η'',Sub η'' η1/\Q (.tup [X, .int p.2]) η'':=λp e=> .inl ⟨_,ag,η,by refine rW (bJ hr) ?_;exact λξ ξ h=>h,q.2 p e⟩
 refine h.of (m:=m) (F:= []) (K:=⟨λη ρ=>aQ G (m+N) (eV.sl.tl 2) E η ρ (fin _),_,λη ρ=>aQ G (m+N) (eV.sl.tl 2) E η ρ (fin _),_⟩) hok hi (by simp;exact ot ‹_› ‹_›) (λe k F'=>⟨η,i5 hr,q.1 e k⟩) λp e s5 s6 s7 s8 s9 s10 s11 s12 s13=>⟨fz p e,fz p e⟩⟩
mutual
theorem Gh (hd:d.length<=24)(ho:∀x∈d,0<=x/\x<=255):(j:LI)->∀{ov:Option Nat},j.gO ov->j.cU*24<=10000->ye G d (4+j.ht) j
 | .pl p,_,_,_=>Dr X hd ho p
 | .aI o c l,_,hok,hc=>by
  have hc:(1+l.aU+l.cU)*24<=10000:=hc
  have:=xf X (Ee hd ho l hok.2 (by exact lA hc)) hok.2 (by exact lA hc) hd
  rw [show 4+l.ht+1=(1+l.ht)+4 by simp+arith] at this
  refine rW (show 4+(LI.aI o c l).ht=(1+l.ht)+4 by refine (?_:4+(1+l.ht)=_);exact Nat.add_comm _ _) ?_
  exact BA X hd this
 | .cnt t j,_,hok,hc=>hok.elim
theorem Ee (hd:d.length<=24)(ho:∀x∈d,0<=x/\x<=255):(l:LL)->l.gO->l.cU*24<=10000->l.all (ye G d (4+l.ht))
 | .nil,_,_=>trivial
 | .cons j r,hok,hc=>by
  have hc:(j.cU+r.cU)*24<=10000:=hc
  exact ⟨(Gh hd ho j hok.1 (by exact lA hc)).up (by refine (?_:_<=4+max j.ht r.ht);exact lA (Nat.le_max_left j.ht r.ht)),LL.aq (λξ h=>h.up (by refine (?_:_<=4+max j.ht r.ht);exact lA (Nat.le_max_right j.ht r.ht))) r (Ee hd ho r hok.2 (by exact lA hc))⟩
end
end
section
variable {G:Gc}(X:GX G){d:List Int}
include X
theorem BB (hd:d.length<=24)(ho:∀x∈d,0<=x/\x<=255){t:NL}{j:LI}{N:Nat}(IH:∀k,j.gO (some k)->j.aU (some k)+j.cU*24<=10000->D2 G d (N+4) [j.lw (some k)] (λi=>j.rd d (some k) i))(hok:∀k,j.gO (some k))
  (hc:j.aU (some (max (t.told d) 0).toNat)+j.cU*24<=10000) {m:Nat} {η:Hm} {E:Prop} {K:Kp} {r:Addr} {its:V} {s5 s6 s7 s8 s9 s10 s11 s12 s13:Option V} (hr:η r=none)
  (q0:d.length<t.size false->K.rt (.tup [.lst [], .int 0]) η)
  (qn:t.size false<=d.length->(0<=j.cc.i\/j.rd d (some (max (t.told d) 0).toNat) (t.size false)=none)->∀(k:Int) (F':List V),K.rt (.tup [.none, .int k]) (upd η r (.list F')))
  (q:t.size false<=d.length->¬0<=j.cc.i->∀p,j.rd d (some (max (t.told d) 0).toNat) (t.size false)=some p->∀s5 s6 s7 s8 s9 s10 s11 s12 s13,K.nx (upd η r (.list p.1)) [some its,some (.lst (d.map .int)),some (.int p.2),some (.ref r),some ((LI.cnt t j).lw none),s5,s6,s7,s8,s9,s10,s11,s12,s13]):
  aQ G (m+(N+4)) yj E (upd η r (.list [])) [some its,some (.lst (d.map .int)),some (.int (0:Nat)),some (.ref r),some ((LI.cnt t j).lw none),s5,s6,s7,s8,s9,s10,s11,s12,s13] K:=by
 obtain ⟨so,L,O,B,inn,hL⟩:=By (hok 0)
 have hcl:(LI.cnt t j).lw none=bj "counted" t.str "" false .none (bj so L O B (j.cc.ov none).lc inn):=by refine (?_:bj _ _ _ _ _ (j.lw none)=_);exact rW (hL ..) rfl
 rw [hcl] at q ⊢
 have hw:=size_pos t false
 refine tF (by decide+kernel) (tT rfl ⟨by refine rW (List.length_map ..) ?_;exact bt ‹_› (by rfl),?_⟩)
 refine rW (List.length_map ..) ?_
 refine vV X hd ho (n:=m+N) (.num t "" false .au) (ov:=none) (Nat.zero_le _) ⟨λe=>(nomatch e),λp e=>?_⟩
 have e:p=(cy (t.val "" false) d (t.size false) (gN .au ((d.length-0)/t.size false)) 0,0+t.size false*gN .au ((d.length-0)/t.size false)):=(Option.some.inj e).symm
 rcases Nat.lt_or_ge d.length (t.size false) with y|y
 ·obtain rfl:p=([],0):=by refine rW e (rW (Nat.sub_zero ..) (rW (Nat.div_eq_of_lt y) ?_));rfl
  refine ⟨_,ag,sz (m:=0) (by decide),?_⟩
  refine rW ak ?_
  refine ⟨_,ag,true,rfl,λξ=>?_,λz=>nomatch z⟩
  have:m7 (.ref r) (upd η r (.list [])) λX η1=>K.rt (.tup [X, .int 0]) η1:= .inl ⟨_,ag,by refine rW (bJ hr) ?_;exact q0 y⟩
  exact this
 ·have h1:gN .au ((d.length-0)/t.size false)=1:=Nat.min_eq_left (Nat.div_pos y hw)
  obtain rfl:p=([.int (t.told d)],t.size false):=by refine rW e (rW h1 (rW (Nat.zero_add ..) (rW (Nat.mul_one ..) ?_)));rfl
  refine ⟨_,ag,sz (m:=1) (by decide),?_⟩
  refine rW ak ?_
  refine ⟨_,ag,false,rfl,λz=>(nomatch z),λξ=>?_⟩
  have by_:decide ((0:Nat)>=((d.length:Nat):Int))=false:=decide_eq_false (by lia)
  have rest:¬0<=j.cc.i->∀b:Bool,b=false->aQ G (m+(N+4)) ((yj.tl 2).hd.th.tl 5) E (upd η r (.list [.int (t.told d)]))
    [some its,some (.lst (d.map .int)),some (.int (t.size false)),some (.ref r),some (bj "counted" t.str "" false .none (bj so L O B (j.cc.ov none).lc inn)),some (.str "counted"),some (.str t.str),some (.str ""),some (.bool false),some .none,some (bj so L O B (j.cc.ov none).lc inn),s11,some (.lst [.int (t.told d)]),some (.bool b)]
    ⟨λη ρ=>aQ G (m+(N+4)) (yj.tl 3) E η ρ K,K.br,K.ct,K.rt⟩:=λz b hb=>by
   subst hb
   refine ⟨λz=>(nomatch z),λξ=>⟨rfl,by decide,by refine (?_:(4:Int)<6);decide,sz (m:=6) (by decide),_,ag,[], .int (t.told d),ag,by refine rW sizeLine_eq ?_;decide,?_⟩⟩
   refine oK X (n:=m+N+3) ?_
   refine rW ak ?_
   have hm:max 0 (t.told d)=((max (t.told d) 0).toNat:Int):=GG
   have hjk:=hL (some (max (t.told d) 0).toNat)
   have k2:=IH _ (hok _) hc
   have hb:∀p,j.rd d (some (max (t.told d) 0).toNat) (t.size false)=some p->p.1.length<=10000:=λp e=>by
    have h1:=LI.fL j (hok _) y e
    have h2:=LI.cx j y e
    have:=Nat.mul_le_mul_left j.cU (show p.2-t.size false<=24 by exact jF (by exact lB hd h2.2))
    exact lC hc h1 this
   generalize j.rd d (some (max (t.told d) 0).toNat)=f at q qn k2 hb
   rw [hjk] at k2
   have key:∀{Q:V->Hm->Prop} (M:Int),M=((max (t.told d) 0).toNat:Int)->RQ (f (t.size false)) (λY=>Q Y (upd η r (.list [])))->ah G (m+(N+4)) (.ref bz) [.lst [bj so L O B (.int M) inn], .lst (d.map .int), .int (t.size false)] (upd η r (.list [])) Q E:=by
    rintro Q _ rfl hq
    exact k2.of (m:=m) y hq
   refine ⟨sz (m:=5) (by decide),rfl,by decide,by refine (?_:(5:Int)<=6);decide,sz (m:=6) (by decide),sz (m:=6) (by decide),?_⟩
   refine key (max 0 (t.told d)) hm ⟨λe k=>qn y (.inr e) k [],λp e=>⟨_,ag,sz ?_,?_⟩⟩
   ·refine rW List.length_nil ?_;have:=hb p e;exact vo ‹_› (by rfl)
   ·refine rW ak ?_
    exact q y z p e _ _ _ _ _ _ _ _ _
  generalize hcc:j.cc=c at rest qn ⊢
  have fin:∀b:Bool,b=false->aQ G (m+(N+4)) ((yj.tl 2).hd.th.tl 4) E (upd η r (.list [.int (t.told d)]))
    [some its,some (.lst (d.map .int)),some (.int (t.size false)),some (.ref r),some (bj "counted" t.str "" false .none (bj so L O B (c.ov none).lc inn)),some (.str "counted"),some (.str t.str),some (.str ""),some (.bool false),some .none,some (bj so L O B (c.ov none).lc inn),s11,some (.lst [.int (t.told d)]),some (.bool b)]
    ⟨λη ρ=>aQ G (m+(N+4)) (yj.tl 3) E η ρ K,K.br,K.ct,K.rt⟩:=λb hb=>by
   subst hb
   cases c with
   | au=>exact ⟨_,rfl,λξ=>⟨λz=>(nomatch z),λξ=>rest (by decide) _ rfl⟩,λz=>nomatch z⟩
   | star=>exact ⟨_,rfl,λξ=>⟨λz=>(nomatch z),λξ=>rest (by decide) _ rfl⟩,λz=>nomatch z⟩
   | num k=>exact ⟨_,rfl,λz=>(nomatch z),λξ=>qn y (.inl (Int.natCast_nonneg k)) (t.size false) [.int (t.told d)]⟩
  exact fin _ by_
end
section
variable {G:Gc}(X:GX G){d:List Int}
include X
theorem pn (hd:d.length<=24)(ho:∀x∈d,0<=x/\x<=255){l:LL}(ok:l.vB d){n:Nat}{η:Hm}{E:Prop}{Q:V->Hm->Prop}
  (q:(uF d l=none->∀k:Int,Q (.tup [.none, .int k]) η)/\∀vs,uF d l=some vs->∀k:Int,Q (.tup [.lst vs, .int k]) η):ah G (n+(l.ht+10)) (.ref bz) [.lst l.lw, .lst (d.map .int), .int (0:Nat)] η Q E:=by
 have plain:l.gO/\l.aU+l.cU*24<=9000->uF d l=(l.rd d 0).map (·.1)->ah G (n+(l.ht+10)) (.ref bz) [.lst l.lw, .lst (d.map .int), .int (0:Nat)] η Q E:=λok e=>by
  rw [e] at q
  have:=(xf X (Ee X hd ho l ok.1 (by exact lA ok.2)) ok.1 (by exact lA ok.2) hd).of (m:=n+5) (E:=E) (Q:=Q) (η:=η) (Nat.zero_le _) ⟨λz k=>q.1 (by refine rW z ?_;rfl) k,λp z=>q.2 p.1 (by refine rW z ?_;rfl) _⟩
  rwa [show n+5+(4+l.ht+1)=n+(l.ht+10) by simp+arith] at this
 cases l with
 | nil=>exact plain ⟨trivial,by decide⟩ rfl
 | cons j r=>
  cases j with
  | pl p=>exact plain ok rfl
  | aI o c l=>exact plain ok rfl
  | cnt t j=>
   obtain ⟨o1,o2,o3,o4⟩:=ok
   rw [Nat.add_mul] at o3
   have hh:(LL.cons (.cnt t j) r).ht=max (1+j.ht) r.ht:=rfl
   have hb:∀p,j.rd d (some (max (t.told d) 0).toNat) (t.size false)=some p->t.size false<=d.length->p.1.length+(r.aU+r.cU*(d.length-p.2))<=10000/\p.2<=d.length:=λp e y=>by
    have h1:=LI.fL j (o1 _) y e
    have h2:=LI.cx j y e
    have m1:=Nat.mul_le_mul_left j.cU (show p.2-t.size false<=24 by exact jF (by exact lB hd h2.2))
    have m2:=Nat.mul_le_mul_left r.cU (show d.length-p.2<=24 by exact jF ‹_›)
    (refine ⟨?_,?_⟩<;>lia)
   have hIH:∀k,j.gO (some k)->j.aU (some k)+j.cU*24<=10000->D2 G d (5+max (1+j.ht) r.ht+4) [j.lw (some k)] (λi=>j.rd d (some k) i):=λk a b=>by
    have:=zw X (N:=8+max (1+j.ht) r.ht) ((Gh X hd ho j a (by exact Cz ‹_›)).up (by exact lA (Nat.le_max_left (1+j.ht) r.ht))) a b hd
    rwa [show 8+max (1+j.ht) r.ht+1=5+max (1+j.ht) r.ht+4 by simp+arith] at this
   have hA:r.all (ye G d (5+max (1+j.ht) r.ht+4)):=LL.aq (λξ h=>h.up (by exact lA (Nat.le_max_right (1+j.ht) r.ht))) r (Ee X hd ho r o4 (by exact lA o3))
   have hT:uF d (.cons (.cnt t j) r)=if d.length<t.size false then some [] else if 0<=j.cc.i then none else (gc (j.rd d (some (max (t.told d) 0).toNat) (t.size false)) λi=>r.rd d i).map (·.1):=rfl
   rw [hT] at q
   refine rW (show n+((LL.cons (LI.cnt t j) r).ht+10)=n+(5+max (1+j.ht) r.ht+4)+1 by refine (?_:n+(max (1+j.ht) r.ht+10)=_);simp+arith) ?_
   refine (spec X 85 rfl rfl rfl ?_:ah G (n+(5+max (1+j.ht) r.ht+4)+1) _ _ η (λX η'=>∃η'',Sub η'' η'/\Q X η'') E).drop
   intro a ha
   refine BB X hd ho (N:=5+max (1+j.ht) r.ht) (m:=n) hIH o1 (by exact lA o3) ha (λy=>⟨η,λξ ξ h=>h,q.2 [] (if_pos y) 0⟩) (λy h k F'=>⟨η,i5 ha,q.1 ?_ k⟩) λy z p e s5 s6 s7 s8 s9 s10 s11 s12 s13=>?_
   ·refine rW (if_neg (Nat.not_lt.mpr y)) ?_
    rcases h with h|h
    ·exact rW (if_pos h) rfl
    ·split
     ·rfl
     ·refine rW h ?_;rfl
   ·rw [if_neg (Nat.not_lt.mpr y),if_neg z,e] at q
    obtain ⟨b1,b2⟩:=hb p e y
    exact tZ X (m:=n) ha r p.2 p.1 _ s5 s6 s7 s8 s9 s10 s11 s12 s13 hA o4 b2 b1 (λe2 k F'=>⟨η,i5 ha,q.1 (by unfold gc;dsimp only;refine rW e2 ?_;rfl) k⟩) λp2 e2=>⟨η,λξ ξ h=>h,q.2 _ (by unfold gc;dsimp only;refine rW e2 ?_;rfl) _⟩
end
noncomputable def bK (B:Nat)(y:AO):Prop:=∃x t:Int,y= .list [.int x, .int t]/\0<=t/\t<=B
section
variable {G:Gc}(X:GX G){n:Nat}{η:Hm}{Q:V->Hm->Prop}{E:Prop}{p:Addr}{y:AO}{B:Nat}
include X
theorem aR {m:Int}(hy:bK B y)(hB:B<=900000)(hm:0<m)(hm2:m<2^64)(q:∀k y',0<=k->k<m->bK (B+1) y'->Q (.int k) (upd η p y')):
  ah G (n+1) (.ref ai) [.ref p, .int m] (upd η p y) Q E:=by
 obtain ⟨x,t,rfl,h0,h1⟩:=hy
 refine spec X 70 rfl rfl rfl ?_
 have hk:∀a:Int,0<=a.fmod m/\a.fmod m<m:=λa=>mx a hm
 refine ⟨_,_,ag,rfl,_,ag,by decide,show (1:Int)<2 by decide,show 2<2^62 by decide,?_⟩
 refine rW ak ?_
 refine ⟨_,ag,_,rfl,λz=>⟨_,ag,_,rfl,by lia,_,ag,_,rfl,⟨Int.ne_of_gt hm,cM (Cu (n:=2^64) (Int.le_of_lt hm) hm2)⟩,_,ag,by decide,show (0:Int)<2 by decide,show 2<2^62 by decide,?_⟩,λz=>⟨_,ag,_,rfl,_,ag,_,rfl,IntMulOk.of_left ?_,by lia,?_⟩⟩
 ·refine rW ak ?_
  exact q _ _ (hk x).1 (hk x).2 ⟨_,_,rfl,by exact Gs ‹_› (by simp+arith only),by lia⟩
 ·exact intBits_le_64 (by exact iA h0) (by lia)
 ·exact q _ _ (hk _).1 (hk _).2 ⟨_,_,rfl,by exact iA h0,by lia⟩
theorem A' {l:List Int}(q:∀p y,η p=none->bK 0 y->Q (.ref p) (upd η p y))(hl:l.length<2^20):ah G (n+1) (.ref gb) [.lst (l.map .int)] η Q E:=by
 refine spec X 69 rfl rfl rfl ?_
 refine ⟨sz (by refine rW (List.length_map ..) ?_;exact hl),?_⟩
 refine rW (show (30:Int)=((30:Nat):Int) from rfl) (rW (iu ..) (rV List.map_take ?_))
 have loop:∀(is:List Int) (x:Int) (s2:Option V),forL G n E Q (mq.sl.tl 1) [2] false (is.map .int) η [some (.lst (l.map .int)),some (.int x),s2]:=by
  intro is
  induction is with
  | nil=>exact λx s2 p hp=>q p _ hp ⟨x,0,rfl,Int.le_refl _,Int.le_refl _⟩
  | cons c is ih=>
   intro x s2
   exact ⟨IntMulOk.of_right (by decide+kernel),⟨by decide,by decide+kernel⟩,by decide,IntMulOk.of_left (by decide+kernel),λξ=>ih _ _,λξ=>ih _ _⟩
 exact loop _ 0 none
end
noncomputable def bB.ctorIdx (x:bB):Nat:=bB.casesOn x 0 (λξ=>1) 2
noncomputable def cG:bB->Prop
 | .num k=>k<=5
 | _=>True
noncomputable def pV (o:Str):Prop:=o="<"\/o=">"
noncomputable def PG:PI->Prop
 | .num t o b c=>cG c/\(o=""\/pV o/\t.ord=true)/\(b=true->t.is "sSlLiInNvV"=true)
 | .text _ c=>cG c
 | .dig _ c=>cG c
 | .fS c=>cG c/\c≠ .star
noncomputable def GD:List NL:= [.c, .C, .s, .S, .l, .L, .q, .Q, .i, .I, .j, .J, .n, .N, .v, .V]
theorem w3:∀k∈List.range 16,jo (Str.ofString "cCsSlLqQiIjJnNvV").cps.toList (k:Int)=some (GD.getD k .c).ch:=by decide+kernel
theorem EO {k:Int}(h0:0<=k)(h1:k<16):∃t:NL,jo (Str.ofString "cCsSlLqQiIjJnNvV").cps.toList k=some t.ch:=by
 obtain ⟨m,rfl⟩:=Int.eq_ofNat_of_zero_le h0
 exact ⟨_,w3 m (List.mem_range.mpr (by exact Int.ofNat_lt.mp (by assumption)))⟩
theorem Gy {k:Int}(h0:0<=k)(h1:k<3):∃t:TL,jo (Str.ofString "aAZ").cps.toList k=some t.ch:=by
 have:=Eh h0 h1
 clear h1 h0;rcases this with rfl|rfl|rfl
 ·exact ⟨.a,by decide+kernel⟩
 ·exact ⟨.A,by decide+kernel⟩
 ·exact ⟨.Z,by decide+kernel⟩
theorem Hf {k:Int}(h0:0<=k)(h1:k<4):∃t:DL,jo (Str.ofString "bBhH").cps.toList k=some t.ch:=by
 have:=Eg h0 h1
 clear h1 h0;rcases this with rfl|rfl|rfl|rfl
 ·exact ⟨.b,by decide+kernel⟩
 ·exact ⟨.B,by decide+kernel⟩
 ·exact ⟨.h,by decide+kernel⟩
 ·exact ⟨.H,by decide+kernel⟩
theorem Hh {k:Int}(h0:0<=k)(h1:k<8):∃c:bB,jo [V.none, .none, .int 0, .int 1, .int 2, .int 3, .str "*", .int 5] k=some c.lc/\cG c:=by
 have:=GN h0 h1
 clear h1 h0;rcases this with rfl|rfl|rfl|rfl|rfl|rfl|rfl|rfl
 ·exact ⟨.au,rfl,trivial⟩
 ·exact ⟨.au,rfl,trivial⟩
 ·exact ⟨.num 0,rfl,(by decide:0<=5)⟩
 ·exact ⟨.num 1,rfl,(by decide:1<=5)⟩
 ·exact ⟨.num 2,rfl,(by decide:2<=5)⟩
 ·exact ⟨.num 3,rfl,(by decide:3<=5)⟩
 ·exact ⟨.star,rfl,trivial⟩
 ·exact ⟨.num 5,rfl,(by decide:5<=5)⟩
theorem or3 {k:Int}(h0:0<=k)(h1:k<3):∃o:Str,jo [V.str "", .str "<", .str ">"] k=some (.str o)/\(o=""\/pV o):=by
 have:=Eh h0 h1
 clear h1 h0;rcases this with rfl|rfl|rfl
 ·exact ⟨_,rfl, .inl rfl⟩
 ·exact ⟨_,rfl, .inr (.inl rfl)⟩
 ·exact ⟨_,rfl, .inr (.inr rfl)⟩
theorem bK.up {B C:Nat}{y:AO}(h:bK B y)(hc:B<=C):bK C y:=by
 obtain ⟨x,t,e,h0,h1⟩:=h
 exact ⟨x,t,e,h0,by exact Gs ‹_› (by exact Int.ofNat_le.mpr (lA hc))⟩
theorem TL.dR (t:TL):t.str=ls [t.ch]:=by cases t<;>decide+kernel
theorem DL.dR (t:DL):t.str=ls [t.ch]:=by cases t<;>decide+kernel
section
variable {G:Gc}(X:GX G){n:Nat}{η:Hm}{Q:V->Hm->Prop}{E:Prop}{a:Addr}{y:AO}{B:Nat}
include X
theorem jM (hy:bK B y)(hB:B<=9000)(q:∀p y',PG p->bK (B+5) y'->Q (PI.lw none p) (upd η a y')):ah G (n+2) (.ref dk) [.ref a] (upd η a y) Q E:=by
 refine spec X 71 rfl rfl rfl ?_
 refine aR X hy (by exact j7 ‹_› (by rfl)) (by decide) (by decide) λw y1 hw0 hw1 h1=>?_
 refine aR X h1 (by exact bt ‹_› (by rfl)) (by decide) (by decide) λk y2 hk0 hk1 h2=>?_
 obtain ⟨c,hc,hcG⟩:=Hh hk0 hk1
 refine ⟨_,hc,?_⟩
 have nums:w<3->aQ G (n+1) (ck.sl.tl 2).hd.th E (upd η a y2) [some (.ref a),some (.int w),some c.lc,none,none,none] ⟨λη ρ=>aQ G (n+1) (ck.sl.tl 3) E η ρ (fin Q),λξ ξ=>False,λξ ξ=>False,Q⟩:=λξ=>by
  refine aR X h2 (by exact ya ‹_› (by rfl)) (by decide) (by decide) λk y3 hk0 hk1 h3=>?_
  obtain ⟨t,ht⟩:=EO hk0 hk1
  refine ⟨_,ht,?_⟩
  have bang:∀(o:Str) y4,(o=""\/pV o/\t.ord=true)->bK (B+4) y4->aQ G (n+1) ((ck.sl.tl 2).hd.th.tl 2) E (upd η a y4) [some (.ref a),some (.int w),some c.lc,some (.str t.str),some (.str o),none] ⟨λη ρ=>aQ G (n+1) (ck.sl.tl 3) E η ρ (fin Q),λξ ξ=>False,λξ ξ=>False,Q⟩:=λo y4 ho h4=>by
   refine ⟨λz=>?_,λz=>?_⟩
   ·refine aR X h4 (by exact Nat.le_trans (Nat.add_le_add_right (by assumption) _) (by decide)) (by decide) (by decide) λk y5 ξ ξ h5=>?_
    exact q (.num t o (decide (k=0)) c) y5 ⟨hcG,ho,λξ=>z⟩ h5
   ·exact q (.num t o (t.is "sSlLiInNvV") c) y4 ⟨hcG,ho,λz=>z⟩ (h4.up (by exact Nat.le_succ _))
  have key:aQ G (n+1) ((ck.sl.tl 2).hd.th.tl 1) E (upd η a y3) [some (.ref a),some (.int w),some c.lc,some (.str t.str),none,none] ⟨λη ρ=>aQ G (n+1) (ck.sl.tl 3) E η ρ (fin Q),λξ ξ=>False,λξ ξ=>False,Q⟩:=by
   refine ⟨λz=>?_,λz=>bang "" y3 (.inl rfl) (h3.up (by exact Nat.le_succ _))⟩
   refine aR X h3 (by exact ya ‹_› (by rfl)) (by decide) (by decide) λk y4 hk0 hk1 h4=>?_
   obtain ⟨o,ho,hoG⟩:=or3 hk0 hk1
   exact ⟨_,ho,bang o y4 (hoG.imp id λh=>⟨h,z⟩) h4⟩
  rw [t.dR] at key
  exact key
 refine ⟨λz=>nums z,λz=>⟨λz=>?_,λz=>⟨λz=>?_,λz=>?_⟩⟩⟩
 ·refine aR X h2 (by exact lA hB) (by decide) (by decide) λk y3 hk0 hk1 h3=>?_
  obtain ⟨t,ht⟩:=Gy hk0 hk1
  refine ⟨_,ht,?_⟩
  have:=q (.text t c) y3 hcG (h3.up (by simp+arith))
  rw [show PI.lw none (.text t c)=bj "text" (ls [t.ch]) "" false c.lc .none by refine (?_:bj _ t.str _ _ _ _=_);refine rW t.dR ?_;rfl] at this
  exact this
 ·refine aR X h2 (by exact lA hB) (by decide) (by decide) λk y3 hk0 hk1 h3=>?_
  obtain ⟨t,ht⟩:=Hf hk0 hk1
  refine ⟨_,ht,?_⟩
  have:=q (.dig t c) y3 hcG (h3.up (by simp+arith only))
  rw [show PI.lw none (.dig t c)=bj "digits" (ls [t.ch]) "" false c.lc .none by refine (?_:bj _ t.str _ _ _ _=_);refine rW t.dR ?_;rfl] at this
  exact this
 ·have fin:∀c',cG c'->c'≠ .star->Q (bj "nought" "x" "" false c'.lc .none) (upd η a y2):=λc' g1 g2=>q (.fS c') y2 ⟨g1,g2⟩ (h2.up (by simp+arith))
  clear nums hc;cases c with
  | au=>exact fin .au trivial (λz=>nomatch z)
  | num k=>exact fin (.num k) hcG (λz=>nomatch z)
  | star=>exact tT rfl (fin .au trivial (λz=>nomatch z))
end
mutual
noncomputable def LI.lo (od:Str):LI->LI
 | .pl p=>(LI.pl p).so od
 | .aI _ c l=> .aI "" c (l.lo od)
 | .cnt t i=> .cnt t i
noncomputable def LL.lo (od:Str):LL->LL
 | .nil=> .nil
 | .cons i r=> .cons (i.lo od) (r.lo od)
end
mutual
noncomputable def LI.r8:LI->Prop
 | .pl _=>True
 | .aI _ _ l=>l.r8
 | .cnt _ _=>False
noncomputable def LL.r8:LL->Prop
 | .nil=>True
 | .cons i r=>i.r8/\r.r8
end
structure Eo (G:Gc)(od:Str)(N:Nat)(l:LL):Prop where
 of:∀{n:Nat} {η:Hm} {E:Prop} {Q:V->Hm->Prop},Q (.lst (l.lo od).lw) η->ah G (n+N) (.ref bI) [.lst l.lw, .str od] η Q E
noncomputable def Ci (G:Gc)(od:Str)(N:Nat):LI->Prop
 | .aI _ _ l=>Eo G od N l
 | _=>True
theorem Ci.up {G:Gc}{od:Str}{N M:Nat}{j:LI}(h:Ci G od N j)(hm:N<=M):Ci G od M j:=by
 cases j with
 | aI o c l=>
  obtain ⟨k,rfl⟩:=Nat.exists_eq_add_of_le hm
  refine ⟨λ{n} {η} {E} {Q} a=>?_⟩
  have:=(show Eo G od N l from h).of (n:=n+k) (E:=E) (Q:=Q) a
  rwa [Nat.add_assoc,Nat.add_comm k N] at this
 | pl=>trivial
 | cnt=>trivial
section
variable {G:Gc}(X:GX G){od:Str}
include X
theorem wI {N:Nat}{l:LL}(h:l.all (Ci G od N))(hn:l.r8)(hc:l.cst<2^19):Eo G od (N+1) l:=⟨λ{n} {η} {E} {Q} q=>by
 refine spec X 72 rfl rfl rfl ?_
 intro a ha
 have loop:∀(r:LL) (acc:List V) s3 s4 s5 s6 s7 s8,r.all (Ci G od N)->r.r8->acc.length+r.cst<2^19->acc++(r.lo od).lw=(l.lo od).lw->
   forL G (n+N) E Q (cQ.sl.tl 1) [3,4,5,6,7,8] true r.lw (upd η a (.list acc)) [some (.lst l.lw),some (.str od),some (.ref a),s3,s4,s5,s6,s7,s8]:=by
  intro r
  induction r using LL.rec (motive_1:=λξ=>True) with
  | pl|aI|cnt=>trivial
  | nil=>
   intro acc s3 s4 s5 s6 s7 s8 _ _ _ e
   have e:acc++ []=(l.lo od).lw:=e
   rw [List.append_nil] at e
   refine .inl ⟨_,ag,?_⟩
   refine rW (bJ ha) (rW e ?_);exact q
  | cons j r _ ih=>
   intro acc s3 s4 s5 s6 s7 s8 hA hO hl e
   have hl':acc.length+(j.cst+r.cst)<2^19:=hl
   have hj:=j.lM
   have e':acc++((j.lo od).lw none::(r.lo od).lw)=(l.lo od).lw:=e
   have fin':∀W s3 s4 s5 s6 s7 s8,W=(j.lo od).lw none->(∃l',upd η a (.list acc) a=some (.list l')/\l'.length<=sizeLine/\forL G (n+N) E Q (cQ.sl.tl 1) [3,4,5,6,7,8] true r.lw (upd (upd η a (.list acc)) a (.list (l'++ [W]))) [some (.lst l.lw),some (.str od),some (.ref a),s3,s4,s5,s6,s7,s8]):=by
    rintro W s3 s4 s5 s6 s7 s8 rfl
    refine ⟨_,ag,sz (by exact lA hl),?_⟩
    refine rW ak ?_
    refine ih _ _ _ _ _ _ _ hA.2 hO.2 (by refine rW List.length_append (rW List.length_singleton ?_);exact lB hl' hj) ?_
    refine rV e' (rW (List.append_assoc ..) ?_);rfl
   clear e' hj hl' e hl;cases j with
   | cnt=>exact hO.1.elim
   | aI o c l2=>
    refine tF (by decide+kernel) (tT rfl ?_)
    refine (show Eo G od N l2 from hA.1).of (n:=n) ?_
    exact ⟨_,ag,tT rfl (fin' _ _ _ _ _ _ _ rfl)⟩
   | pl p=>
    cases p with
    | num t o b c=>
     have ap:∀o':Str,bj "num" t.str o' b c.lc .none=((LI.pl (.num t o b c)).lo od).lw none->aQ G (n+N) ((cQ.sl.tl 1).hd.body.tl 1) E (upd η a (.list acc)) [some (.lst l.lw),some (.str od),some (.ref a),some (.str "num"),some (.str t.str),some (.str o'),some (.bool b),some c.lc,some .none] ⟨λη ρ=>forL G (n+N) E Q (cQ.sl.tl 1) [3,4,5,6,7,8] true r.lw η ρ,λξ ξ=>False,λξ ξ=>False,λξ ξ=>False⟩:=λo' h=>
      (tF (by decide+kernel) ⟨_,ag,tF (by decide+kernel) (fin' _ _ _ _ _ _ _ h)⟩)
     refine tT rfl ⟨λz=>ap od ?_,λz=>ap o ?_⟩
     ·refine (?_:_=bj "num" t.str (if t.ord=true then od else o) b c.lc .none)
      exact rW (if_pos (show t.ord=true from z)) rfl
     ·refine (?_:_=bj "num" t.str (if t.ord=true then od else o) b c.lc .none)
      refine rW (show t.ord=false from z) ?_;rfl
    | _=>exact tF (by decide+kernel) (tF (by decide+kernel) ⟨_,ag,tF (by decide+kernel) (fin' _ _ _ _ _ _ _ rfl)⟩)
 exact loop l [] none none none none none none h hn (by simpa using hc) rfl⟩
mutual
theorem Gz:(j:LI)->j.r8->j.cst<2^19->Ci G od (j.ht+1) j
 | .pl _,_,_=>trivial
 | .aI _ _ l,h,hc=>by
  have hc:1+7*(1+l.cst)<2^19:=hc
  have:=wI X (EL l h (by exact lA hc)) h (by exact lA hc)
  rwa [show l.ht+1+1=(1+l.ht)+1 by exact Nat.add_comm _ _] at this
 | .cnt _ _,_,_=>trivial
theorem EL:(l:LL)->l.r8->l.cst<2^19->l.all (Ci G od (l.ht+1))
 | .nil,_,_=>trivial
 | .cons j r,h,hc=>by
  have hc:j.cst+r.cst<2^19:=hc
  exact ⟨(Gz j h.1 (by exact sR ‹_›)).up (by refine (?_:_<=max j.ht r.ht+1);exact lA (Nat.le_max_left j.ht r.ht)),LL.aq (λξ h=>h.up (by refine (?_:_<=max j.ht r.ht+1);exact lA (Nat.le_max_right j.ht r.ht))) r (EL r h.2 (by exact Cd ‹_›))⟩
end
theorem rF {n:Nat}{η:Hm}{E:Prop}{Q:V->Hm->Prop}{l:LL}(hn:l.r8)(hc:l.cst<2^19)(q:Q (.lst (l.lo od).lw) η):ah G (n+(l.ht+2)) (.ref bI) [.lst l.lw, .str od] η Q E:=
 (wI X (EL X l hn hc) hn hc).of q
end
mutual
noncomputable def LI.wo (o:Str):LI->Prop
 | .pl p=>(match p with
  | .num t o' _ _=>t.ord=true->o'=o
  | _=>True)
 | .aI o' _ l=>o'=""/\l.wo o
 | .cnt _ _=>False
noncomputable def LL.wo (o:Str):LL->Prop
 | .nil=>True
 | .cons i r=>i.wo o/\r.wo o
end
noncomputable def LL.n:LL->Nat
 | .nil=>0
 | .cons _ r=>r.n+1
noncomputable def gC:bB->Prop
 | .num k=>k<=2
 | _=>True
noncomputable def IG:Nat->LI->Prop
 | 0=>λj=>match j with
  | .pl p=>PG p
  | .aI _ _ _=>False
  | .cnt _ _=>False
 | h+1=>λj=>match j with
  | .pl p=>PG p
  | .aI o c l=>gC c/\(o=""\/pV o/\l.wo o)/\(c.isStar=true->l.ends)/\l.n<=3/\l.all (IG h)
  | .cnt _ _=>False
theorem IG.pl {h:Nat}{p:PI}(g:PG p):IG h (.pl p):=by cases h<;>exact g
theorem IG.to {h:Nat}{p:PI}(g:IG h (.pl p)):PG p:=by cases h<;>exact g
theorem IG.up {j:LI}:∀{h:Nat},IG h j->IG (h+1) j:=by
 have key:∀(h:Nat) (j:LI),IG h j->IG (h+1) j:=by
  intro h
  induction h with
  | zero=>intro j g;cases j with
   | pl p=>exact g
   | aI=>exact g.elim
   | cnt=>exact g.elim
  | succ h ih=>intro j g;cases j with
   | pl p=>exact g
   | aI o c l=>exact ⟨g.1,g.2.1,g.2.2.1,g.2.2.2.1,LL.aq (λj=>ih j) l g.2.2.2.2⟩
   | cnt=>exact g.elim
 exact λ{h}=>key h j
noncomputable def LL.snoc:LL->LI->LL
 | .nil,j=> .cons j .nil
 | .cons i r,j=> .cons i (r.snoc j)
theorem LL.pk (j:LI):∀l:LL,(l.snoc j).lw=l.lw++ [j.lw none]
 | .nil=>rfl
 | .cons i r=>congrArg (i.lw none::·) (LL.pk j r)
theorem LL.pd (j:LI):∀l:LL,(l.snoc j).n=l.n+1
 | .nil=>rfl
 | .cons i r=>congrArg (· +1) (LL.pd j r)
theorem LL.mU {P:LI->Prop}{j:LI}(h:P j):∀{l:LL},l.all P->(l.snoc j).all P
 | .nil,_=>⟨h,trivial⟩
 | .cons i r,g=>⟨g.1,LL.mU h g.2⟩
theorem LL.tc {o:Str}{j:LI}(h:j.wo o):∀{l:LL},l.wo o->(l.snoc j).wo o
 | .nil,_=>⟨h,trivial⟩
 | .cons i r,g=>⟨g.1,LL.tc h g.2⟩
theorem LL.oj:∀l:LL,(l.snoc (.pl (.text .a .au))).ends
 | .nil=> .inl ⟨rfl,rfl⟩
 | .cons i r=> .inr (LL.oj r)
theorem LL.se:∀l:LL,l.lw.length=l.n
 | .nil=>rfl
 | .cons i r=>congrArg (· +1) (LL.se r)
theorem LL.Bx (o:Str):∀l:LL,(l.lo o).n=l.n
 | .nil=>rfl
 | .cons i r=>congrArg (· +1) (LL.Bx o r)
theorem LL.r7:∀{l:LL},l.all LI.r8->l.r8
 | .nil,_=>trivial
 | .cons i r,g=>⟨g.1,LL.r7 g.2⟩
theorem LL.vJ {o:Str}:∀{l:LL},l.all (λj=>(j.lo o).wo o)->(l.lo o).wo o
 | .nil,_=>trivial
 | .cons i r,g=>⟨g.1,LL.vJ g.2⟩
theorem LL.sW {P:LI->Prop}{o:Str}:∀{l:LL},l.all (λj=>P (j.lo o))->(l.lo o).all P
 | .nil,_=>trivial
 | .cons i r,g=>⟨g.1,LL.sW g.2⟩
theorem LL.pJ {m:Nat}:∀{l:LL},l.all (λj=>j.cst<=m)->l.cst<=l.n*m
 | .nil,_=>Nat.zero_le _
 | .cons i r,g=>by
  have:=LL.pJ g.2
  have:=g.1
  refine (?_:i.cst+r.cst<=(r.n+1)*m)
  refine rW (Nat.succ_mul ..) ?_;exact vD ‹_› ‹_› (by simp+arith only)
theorem LL.ud {m:Nat}:∀{l:LL},l.all (λj=>j.ht<=m)->l.ht<=m
 | .nil,_=>Nat.zero_le _
 | .cons i r,g=>Nat.max_le.mpr ⟨g.1,LL.ud g.2⟩
noncomputable def cB:Nat->Nat
 | 0=>64
 | h+1=>1+7*(1+3*cB h)
theorem IG.all {P:LI->Prop}(hp:∀p,PG p->P (.pl p))(hg:∀(o:Str) (c:bB) (l:LL),gC c->(o=""\/pV o/\l.wo o)->(c.isStar=true->l.ends)->l.n<=3->l.all P->P (.aI o c l)):∀(h:Nat) (j:LI),IG h j->P j:=by
 intro h
 induction h with
 | zero=>intro j g;cases j with
  | pl p=>exact hp p g
  | aI=>exact g.elim
  | cnt=>exact g.elim
 | succ h ih=>intro j g;cases j with
  | pl p=>exact hp p g
  | aI o c l=>exact hg o c l g.1 g.2.1 g.2.2.1 g.2.2.2.1 (LL.aq (λj=>ih j) l g.2.2.2.2)
  | cnt=>exact g.elim
theorem IG.r8 {h:Nat}{j:LI}(g:IG h j):j.r8:=IG.all (P:=LI.r8) (λξ ξ=>trivial) (λξ ξ ξ ξ ξ ξ ξ k=>LL.r7 k) h j g
theorem IG.CI {h:Nat}{j:LI}{o:Str}(g:IG h j):(j.lo o).wo o:=IG.all (P:=λj=>(j.lo o).wo o) (λp ξ=>by
  cases p with
  | num t o' b c=>exact λz=>if_pos z
  | _=>exact trivial) (λξ ξ ξ ξ ξ ξ ξ k=>⟨rfl,LL.vJ k⟩) h j g
theorem LL.uj {o:Str}:∀{l:LL},l.ends->(l.lo o).ends
 | .nil,h=>h
 | .cons i r,h=>h.elim (λ⟨a,b⟩=> .inl ⟨by refine rW a ?_;rfl,by refine rW b ?_;rfl⟩) λh=> .inr (LL.uj h)
theorem IG.lo {o:Str}(ho:pV o):∀(h:Nat) {j:LI},IG h j->IG h (j.lo o):=by
 have pl:∀(h:Nat) (p:PI),PG p->IG h ((LI.pl p).lo o):=λh p g=>by
  cases p with
  | num t o' b c=>
   refine IG.pl ⟨g.1,?_,g.2.2⟩
   by_cases z:t.ord=true
   ·refine rW (if_pos z) ?_;exact .inr ⟨ho,z⟩
   ·refine rW (if_neg z) ?_;exact g.2.1
  | _=>exact IG.pl g
 intro h
 induction h with
 | zero=>intro j g;cases j with
  | pl p=>exact pl 0 p g
  | aI=>exact g.elim
  | cnt=>exact g.elim
 | succ h ih=>intro j g;cases j with
  | pl p=>exact pl _ p g
  | aI o' c l=>exact ⟨g.1, .inl rfl,λs=>LL.uj (g.2.2.1 s),by refine rW (LL.Bx ..) ?_;exact g.2.2.2.1,LL.sW (LL.aq (λj=>ih) l g.2.2.2.2)⟩
  | cnt=>exact g.elim
theorem IG.cst:∀{h:Nat} {j:LI},IG h j->j.cst<=cB h:=by
 intro h
 induction h with
 | zero=>intro j g;cases j with
  | pl p=>exact Nat.le_refl _
  | aI=>exact g.elim
  | cnt=>exact g.elim
 | succ h ih=>intro j g;cases j with
  | pl p=>show 64<=1+7*(1+3*cB h);have:64<=cB h:=(by clear g;cases h;exact Nat.le_refl _;exact (by have:=ih (j:= .pl (.fS .au)) (IG.pl ⟨trivial,λz=>nomatch z⟩);exact this));exact jG ‹_› (by simp+arith only)
  | aI o c l=>
   have h1:=LL.pJ (LL.aq (λj=>ih) l g.2.2.2.2)
   have h2:=Nat.mul_le_mul_right (cB h) g.2.2.2.1
   refine (?_:1+7*(1+l.cst)<=1+7*(1+3*cB h))
   exact lB (Nat.mul_le_mul_left 7 h1) (Nat.mul_le_mul_left 7 h2)
  | cnt=>exact g.elim
theorem IG.ht:∀{h:Nat} {j:LI},IG h j->j.ht<=h:=by
 intro h
 induction h with
 | zero=>intro j g;cases j with
  | pl p=>exact Nat.le_refl _
  | aI=>exact g.elim
  | cnt=>exact g.elim
 | succ h ih=>intro j g;cases j with
  | pl p=>exact Nat.zero_le _
  | aI o c l=>have:=LL.ud (LL.aq (λj=>ih) l g.2.2.2.2);refine (?_:1+l.ht<=h+1);exact ot ‹_› (by simp+arith only)
  | cnt=>exact g.elim
noncomputable def CG (t:NL):LI->Prop
 | .pl p=>PG p/\∀c,p≠ .fS c
 | .aI o c l=>t= .C/\o=""/\(c= .au\/c= .num 1\/c= .star)/\(l= .cons (.pl (.text .a .au)) .nil\/l= .cons (.pl (.num .C "" false (.num 1))) .nil)
 | .cnt _ _=>False
noncomputable def TG (j:LI):Prop:=IG 2 j\/∃t i,j= .cnt t i/\CG t i
theorem GA {k:Int}(h0:0<=k)(h1:k<4):∃o:Str,jo [V.str "", .str "", .str "<", .str ">"] k=some (.str o)/\(o=""\/pV o):=by
 have:=Eg h0 h1
 clear h1 h0;rcases this with rfl|rfl|rfl|rfl
 ·exact ⟨_,rfl, .inl rfl⟩
 ·exact ⟨_,rfl, .inl rfl⟩
 ·exact ⟨_,rfl, .inr (.inl rfl)⟩
 ·exact ⟨_,rfl, .inr (.inr rfl)⟩
theorem Hi {k:Int}(h0:0<=k)(h1:k<5):∃c:bB,jo [V.none, .int 0, .int 1, .int 2, .str "*"] k=some c.lc/\gC c:=by
 have:=GP h0 h1
 clear h1 h0;rcases this with rfl|rfl|rfl|rfl|rfl
 ·exact ⟨.au,rfl,trivial⟩
 ·exact ⟨.num 0,rfl,(by decide:0<=2)⟩
 ·exact ⟨.num 1,rfl,(by decide:1<=2)⟩
 ·exact ⟨.num 2,rfl,(by decide:2<=2)⟩
 ·exact ⟨.star,rfl,trivial⟩
theorem mN {body:V->Hm->(V->Hm->Prop)->Prop}{Qf:List V->Hm->Prop}{η:Hm}{a:Addr}{P:LI->Prop}{R:V->Prop}{D:Nat}{pre:List V}(hb:∀Y y B Q,R Y->bK B y->B+D<=8000->(∀j y',P j->bK (B+D) y'->Q (j.lw none) (upd η a y'))->body Y (upd η a y) Q):
  ∀(is:List V) (l:LL) (y:AO) (B:Nat),(∀x∈is,R x)->l.all P->bK B y->B+is.length*D<=8000->pre.length+l.n+is.length<1000->(∀(l':LL) y',l'.all P->l'.n=l.n+is.length->bK (B+is.length*D) y'->Qf (pre++l'.lw) (upd η a y'))->cX body is (pre++l.lw) (upd η a y) Qf
 | [],l,y,B,_,h,hy,_,_,q=>q l y h rfl (hy.up (Nat.le_add_right _ _))
 | x::is,l,y,B,hR,h,hy,hB,hl,q=>by
  rw [List.length_cons,Nat.succ_mul] at hB q
  rw [List.length_cons] at hl
  refine ⟨by refine rW List.length_append (rW (LL.se ..) ?_);exact lA hl,hb x y B _ (hR x List.mem_cons_self) hy (by exact lA hB) λj y' hj hy'=>?_⟩
  refine (?_:cX body is _ _ _)
  refine rW (List.append_assoc ..) (rV (LL.pk ..) ?_)
  refine mN hb is (l.snoc j) y' (B+D) (λz hz=>hR z (List.mem_cons_of_mem _ hz)) (LL.mU hj h) hy' (by exact lA hB) (by refine rW (LL.pd ..) ?_;exact lA hl) λl' y'' a b c=>q l' y'' a (by refine rW b (rW (LL.pd ..) ?_);exact Nat.add_right_comm _ _ _) (by rwa [show B+(is.length*D+D)=B+D+is.length*D by simp+arith])
noncomputable def cD:Nat->Nat
 | 0=>10
 | h+1=>4+2*cD h
structure CB (G:Gc)(h:Nat):Prop where
 of:∀{n:Nat} {η:Hm} {Q:V->Hm->Prop} {E:Prop} {a:Addr} {y:AO} {B:Nat},bK B y->B+cD h<=8000->(∀j y',IG h j->bK (B+cD h) y'->Q (j.lw none) (upd η a y'))->ah G (n+(h+3)) (.ref da) [.ref a, .int h] (upd η a y) Q E
section
variable {G:Gc}(X:GX G){n:Nat}{η:Hm}{Q:V->Hm->Prop}{E:Prop}{a:Addr}{y:AO}{B:Nat}
include X
theorem GZ:CB G 0:=⟨λ{n} {η} {Q} {E} {a} {y} {B} hy hB q=>by
 have hB:B+10<=8000:=hB
 refine spec X 73 rfl rfl rfl ?_
 refine aR X hy (by exact lA hB) (by decide) (by decide) λw y1 hw0 hw1 h1=>?_
 have pl:aQ G (n+2) (bw.sl.tl 1).hd.th E (upd η a y1) [some (.ref a),some (.int (0:Nat)),some (.int w),none,none,none,none,none,none,none] ⟨λη ρ=>aQ G (n+2) (bw.sl.tl 2) E η ρ (fin Q),λξ ξ=>False,λξ ξ=>False,Q⟩:=
  jM X (n:=n) h1 (by exact lA hB) λp y' hp hy'=>q (.pl p) y' hp (hy'.up (by refine (?_:_<=B+10);simp+arith))
 exact ⟨λξ=>pl,λξ=>tT rfl pl⟩⟩
theorem xr {h:Nat}(hh:h<=1)(H:CB G h){w:Int}{K:Kp}(hy:bK B y)(hB:B+3+2*cD h<=8000)(q:∀o c l y',IG (h+1) (.aI o c l)->bK (B+3+2*cD h) y'->K.rt ((LI.aI o c l).lw none) (upd η a y')):
  aQ G (n+(h+3)) (bw.sl.tl 2).hd.th E (upd η a y) [some (.ref a),some (.int (h+1:Nat)),some (.int w),none,none,none,none,none,none,none] K:=by
 refine aR X (n:=n+(h+2)) hy (by exact lA hB) (by decide) (by decide) λk y2 hk0 hk1 h2=>?_
 obtain ⟨k,rfl⟩:=Int.eq_ofNat_of_zero_le hk0
 refine ⟨_,aO (m:=1+k) (by lia),?_⟩
 have hk1:k<=1:=by lia
 have hcD:cD h<=24:=by clear q hB H;rcases (show h=0\/h=1 by lia) with rfl|rfl<;>decide
 have hcD2:(1+k)*cD h<=2*cD h:=Nat.mul_le_mul_right _ (by exact Cc ‹_› (by rfl))
 have hln:((List.range (1+k)).map λ(k:Nat)=>V.int k).length=1+k:=by simp
 refine mN (P:=IG h) (R:=λξ=>True) (D:=cD h) (pre:= []) (λY y B Q ξ hy hB q=>?_) _ .nil y2 (B+1) (λξ ξ=>trivial) trivial h2 ?_ ?_ λl y3 hl hn h3=>?_
 ·clear hcD2 hcD;rcases (show h=0\/h=1 by lia) with rfl|rfl
  ·exact tF (by decide) (H.of (n:=n) hy hB q)
  ·exact tT rfl (H.of (n:=n) hy hB q)
 ·refine rW hln ?_;exact ot ‹_› (by exact lA hB)
 ·refine rW hln ?_;refine (?_:0+0+_<1000);lia
 ·rw [hln] at hn h3
  have hn:l.n<=2:=by have:l.n=0+(1+k):=hn;lia
  refine rW (List.nil_append ..) ?_
  refine aR X (n:=n+(h+2)) h3 (by exact ot ‹_› (by exact lA hB)) (by decide) (by decide) λk4 y4 hk0 hk1 h4=>?_
  clear h3 hcD H;obtain ⟨o,ho,hoG⟩:=GA hk0 hk1
  refine ⟨_,ho,?_⟩
  have rest:∀l:LL,l.n<=2->l.all (IG h)->(o=""\/pV o/\l.wo o)->aQ G (n+(h+3)) ((bw.sl.tl 2).hd.th.tl 3) E (upd η a y4) [some (.ref a),some (.int (h+1:Nat)),some (.int w),some (.lst l.lw),some (.str o),none,none,none,none,some (.int k)] K:=λl hn hl hw=>by
   refine aR X (n:=n+(h+2)) h4 (by exact pO ‹_› (by exact lA hB)) (by decide) (by decide) λk5 y5 hk0 hk1 h5=>?_
   obtain ⟨c,hc,hcG⟩:=Hi hk0 hk1
   refine ⟨_,hc,?_⟩
   have h6:=h5.up (show B+1+(1+k)*cD h+1+1<=B+3+2*cD h by exact lA hcD2)
   clear hc;cases c with
   | au=>exact q o .au l y5 ⟨hcG,hw,λz=>(nomatch z),by exact j7 ‹_› (by rfl),hl⟩ h6
   | num m=>exact q o (.num m) l y5 ⟨hcG,hw,λz=>(nomatch z),by exact lA hn,hl⟩ h6
   | star=>
    refine tT rfl ⟨sz (by refine rW (LL.se ..) ?_;refine (?_:l.n+1<_);exact ya ‹_› (by rfl)),?_⟩
    have:=q o .star (l.snoc (.pl (.text .a .au))) y5 ⟨trivial,hw.imp id λz=>⟨z.1,LL.tc (show LI.wo o (.pl (.text .a .au)) from trivial) z.2⟩,λξ=>LL.oj l,by refine rW (LL.pd ..) ?_;exact Nat.lt_succ_of_le (by assumption),LL.mU (IG.pl (show PG (.text .a .au) from trivial)) hl⟩ h6
    rw [show (LI.aI o .star (l.snoc (.pl (.text .a .au)))).lw none=bj "group" "" o false (.str "*") (.lst (l.lw++ [bj "text" "a" "" false .none .none])) from congrArg (λx=>bj "group" "" o false (.str "*") (.lst x)) (LL.pk _ l)] at this
    exact this
  refine ⟨λz=>rest l hn hl (.inl z),λz=>?_⟩
  have hO:pV o:=hoG.resolve_left z
  refine ah.up (rF X (n:=0) (LL.r7 (LL.aq (λξ g=>g.r8) l hl)) ?_ ?_) ?_
  ·have h1:=LL.pJ (LL.aq (λξ g=>IG.cst g) l hl)
   have h2:=Nat.mul_le_mul_right (cB h) hn
   have h3:cB h<=1352:=by rcases (show h=0\/h=1 by lia) with rfl|rfl<;>decide
   lia
  ·exact rest (l.lo o) (by refine rW (LL.Bx ..) ?_;exact hn) (LL.sW (LL.aq (λξ g=>IG.lo hO h g) l hl)) (.inr ⟨hO,LL.vJ (LL.aq (λξ g=>g.CI) l hl)⟩)
  ·have:=LL.ud (LL.aq (λξ (g:IG h _)=>g.ht) l hl)
   exact lA this
theorem GY {h:Nat}(hh:h=0)(H:CB G h):CB G (h+1):=⟨λ{n} {η} {Q} {E} {a} {y} {B} hy hB q=>by
 subst hh
 have hB:B+(4+2*cD 0)<=8000:=hB
 refine spec X 73 rfl rfl rfl ?_
 refine aR X (n:=n+2) hy (by lia) (by decide) (by decide) λw y1 hw0 hw1 h1=>?_
 have gr:=xr X (n:=n) (E:=E) (w:=w) (Nat.zero_le _) H h1 (B:=B+1) (by assumption) (K:=⟨λη ρ=>aQ G (n+3) (bw.sl.tl 3) E η ρ (fin Q),λξ ξ=>False,λξ ξ=>False,Q⟩) λo c l y' hg hy'=>q _ y' hg (hy'.up (by refine (?_:_<=B+(4+2*cD 0));exact Nat.lt_succ_self _))
 exact ⟨λξ=>jM X (n:=n+1) h1 (by lia) λp y' hp hy'=>q (.pl p) y' hp (hy'.up (by refine (?_:_<=B+(4+2*10));simp+arith)),λξ=>tF (by decide) ⟨λξ=>gr,λξ=>⟨λξ=>gr,λz=>absurd z (by decide)⟩⟩⟩⟩
end
theorem GF {k:Int}(h0:0<=k)(h1:k<4):∃t:NL,jo (Str.ofString "CnvN").cps.toList k=some t.ch:=by
 have:=Eg h0 h1
 clear h1 h0;rcases this with rfl|rfl|rfl|rfl
 ·exact ⟨.C,by decide+kernel⟩
 ·exact ⟨.n,by decide+kernel⟩
 ·exact ⟨.v,by decide+kernel⟩
 ·exact ⟨.N,by decide+kernel⟩
theorem Hj {k:Int}(h0:0<=k)(h1:k<3):∃c:bB,jo [V.none, .int 1, .str "*"] k=some c.lc/\(c= .au\/c= .num 1\/c= .star):=by
 have:=Eh h0 h1
 clear h1 h0;rcases this with rfl|rfl|rfl
 ·exact ⟨.au,rfl, .inl rfl⟩
 ·exact ⟨.num 1,rfl, .inr (.inl rfl)⟩
 ·exact ⟨.star,rfl, .inr (.inr rfl)⟩
theorem EM {k:Int}(h0:0<=k)(h1:k<2):∃l:LL,jo [bj "text" "a" "" false .none .none,bj "num" "C" "" false (.int 1) .none] k=l.lw[0]?/\l.lw.length=1/\(l= .cons (.pl (.text .a .au)) .nil\/l= .cons (.pl (.num .C "" false (.num 1))) .nil):=by
 have:=Gi h0 h1
 clear h1 h0;rcases this with rfl|rfl
 ·exact ⟨_,rfl,rfl, .inl rfl⟩
 ·exact ⟨_,rfl,rfl, .inr rfl⟩
theorem wD (p:PI):∃(so L O:Str) (b:Bool) (c:V),PI.lw none p=bj so L O b c .none/\so≠"group"/\((∃c,p= .fS c)->so="nought"):=by
 cases p with
 | num t o b c=>exact ⟨_,_,_,_,_,rfl,by decide+kernel,λ⟨_,h⟩=>nomatch h⟩
 | text t c=>exact ⟨_,_,_,_,_,rfl,by decide+kernel,λ⟨_,h⟩=>nomatch h⟩
 | dig t c=>exact ⟨_,_,_,_,_,rfl,by decide+kernel,λ⟨_,h⟩=>nomatch h⟩
 | fS c=>exact ⟨_,_,_,_,_,rfl,by decide+kernel,λξ=>rfl⟩
section
variable {G:Gc}(X:GX G){n:Nat}{η:Hm}{Q:V->Hm->Prop}{E:Prop}{a:Addr}{y:AO}{B:Nat}
include X
theorem BN {w:Int}(hy:bK B y)(hB:B+20<=8000)(q:∀t i y',CG t i->bK (B+20) y'->Q ((LI.cnt t i).lw none) (upd η a y')):
  aQ G (n+4) (bw.sl.tl 3) E (upd η a y) [some (.ref a),some (.int 2),some (.int w),none,none,none,none,none,none,none] (fin Q):=by
 refine jM X (n:=n+2) hy (by exact lA hB) λp y1 hp h1=>?_
 obtain ⟨so,L,O,b,c,e,hg,hn⟩:=wD p
 refine rW e ?_
 have aI:∀y2,bK (B+6) y2->aQ G (n+4) ((bw.sl.tl 3).tl 1).hd.th E (upd η a y2) [some (.ref a),some (.int 2),some (.int w),none,none,none,some (bj so L O b c .none),none,none,none] ⟨λη ρ=>aQ G (n+4) ((bw.sl.tl 3).tl 2) E η ρ (fin Q),λξ ξ=>False,λξ ξ=>False,Q⟩:=λy2 h2=>by
  refine aR X (n:=n+3) h2 (by exact lA hB) (by decide) (by decide) λk y3 hk0 hk1 h3=>?_
  obtain ⟨l,hl,hl1,hl2⟩:=EM hk0 hk1
  obtain ⟨W,hW⟩:∃W,l.lw= [W]:=by clear hl1 hl;rcases hl2 with rfl|rfl<;>exact ⟨_,rfl⟩
  rw [hW] at hl
  refine ⟨_,hl,?_⟩
  refine aR X (n:=n+3) h3 (by exact lA hB) (by decide) (by decide) λk y4 hk0 hk1 h4=>?_
  obtain ⟨c',hc,hcG⟩:=Hj hk0 hk1
  refine ⟨_,hc,?_⟩
  refine tT rfl ?_
  have:=q .C (.aI "" c' l) y4 ⟨rfl,rfl,hcG,hl2⟩ (h4.up (by simp+arith))
  rw [show (LI.cnt .C (.aI "" c' l)).lw none=bj "counted" "C" "" false .none (bj "group" "" "" false c'.lc (.lst [W])) from by refine rV hW ?_;rfl] at this
  exact this
 have pln:(∀c,p≠ .fS c)->∀y2,bK (B+6) y2->aQ G (n+4) ((bw.sl.tl 3).tl 2) E (upd η a y2) [some (.ref a),some (.int 2),some (.int w),none,none,none,some (bj so L O b c .none),none,none,none] (fin Q):=λhne y2 h2=>by
  refine tF hg ?_
  refine aR X (n:=n+3) h2 (by exact lA hB) (by decide) (by decide) λk y3 hk0 hk1 h3=>?_
  obtain ⟨t,ht⟩:=GF hk0 hk1
  refine ⟨_,ht,?_⟩
  have:=q t (.pl p) y3 ⟨hp,hne⟩ (h3.up (by simp+arith))
  rw [show (LI.cnt t (.pl p)).lw none=bj "counted" (ls [t.ch]) "" false .none (bj so L O b c .none) by refine (?_:bj _ t.str _ _ _ (PI.lw none p)=_);exact rW e (rW t.dR rfl)] at this
  exact this
 refine ⟨λz=>aI y1 (h1.up (by exact Nat.le_succ _)),λz=>?_⟩
 refine aR X (n:=n+3) h1 (by exact lA hB) (by decide) (by decide) λk y2 hk0 hk1 h2=>?_
 exact ⟨λξ=>aI y2 h2,λξ=>pln (λc hc=>z (hn ⟨c,hc⟩)) y2 h2⟩
theorem vX (H:CB G 1)(hy:bK B y)(hB:B+60<=8000)(q:∀j y',TG j->bK (B+60) y'->Q (j.lw none) (upd η a y')):ah G (n+5) (.ref da) [.ref a, .int 2] (upd η a y) Q E:=by
 refine spec X 73 rfl rfl rfl ?_
 have hc:cD 1=24:=rfl
 refine aR X (n:=n+3) hy (by exact lA hB) (by decide) (by decide) λw y1 hw0 hw1 h1=>?_
 have gr:=xr X (n:=n) (E:=E) (w:=w) (Nat.le_refl _) H h1 (B:=B+1) (by lia) (K:=⟨λη ρ=>aQ G (n+4) (bw.sl.tl 3) E η ρ (fin Q),λξ ξ=>False,λξ ξ=>False,Q⟩) λo c l y' hg hy'=>q _ y' (.inl hg) (hy'.up (by exact Int.ofNat_lt.mp (by exact Int.ofNat_lt.mpr ((by simp+arith only)))))
 have ct:=BN X (n:=n) (E:=E) (w:=w) h1 (B:=B+1) (by exact lA hB) λt i y' hg hy'=>q _ y' (.inr ⟨t,i,rfl,hg⟩) (hy'.up (by simp+arith))
 exact ⟨λξ=>jM X (n:=n+2) h1 (by exact lA hB) λp y' hp hy'=>q (.pl p) y' (.inl hp) (hy'.up (by simp+arith)),λξ=>tF (by decide) ⟨λξ=>gr,λξ=>tF (by decide) ct⟩⟩
end
mutual
noncomputable def LI.tg:LI->Prop
 | .pl p=>PG p
 | .aI o c l=>c.le 9/\(o=""\/pV o/\l.wo o)/\l.tg
 | .cnt _ i=>i.tg/\(match i with
  | .pl p=>∀c,p≠ .fS c
  | .aI _ _ _=>True
  | .cnt _ _=>False)
noncomputable def LL.tg:LL->Prop
 | .nil=>True
 | .cons i r=>i.tg/\r.tg
end
noncomputable def AF (ab:Str)(P:Prop):Prop:=ab=""\/pV ab/\P
structure TI (ab:Str)(p:PT)(j:LI):Prop where
 ok:p.ok
 e0:ab=""->p.it=j
 e1:pV ab->p.it.wM ab/\p.it.so ab=j
 len:p.txt.length+6<=2*j.cst
structure TS (ab:Str)(p:PL)(l:LL):Prop where
 ok:p.ok
 e0:ab=""->p.it=l
 e1:pV ab->p.it.wM ab/\p.it.so ab=l
 len:p.txt.length<=2*l.cst
theorem TS.nil {ab:Str}:TS ab .nil .nil:=⟨trivial,λξ=>rfl,λξ=>⟨trivial,rfl⟩,Nat.zero_le _⟩
theorem TS.cons {ab:Str}{b:List Nat}{p:PT}{j:LI}{pl:PL}{l:LL}(hb:b∈sL)(h:TI ab p j)(k:TS ab pl l):TS ab (.cons b p pl) (.cons j l):=
 ⟨⟨hb,h.ok,k.ok⟩,λz=>by refine (?_:LL.cons p.it pl.it=_);exact rW (h.e0 z) (rW (k.e0 z) rfl),λz=>⟨⟨(h.e1 z).1,(k.e1 z).1⟩,by refine (?_:LL.cons (p.it.so ab) (pl.it.so ab)=_);exact rW ((h.e1 z).2) (rW ((k.e1 z).2) rfl)⟩,by
  have h1:=h.len
  have h2:=k.len
  have h3:b.length<=6:=(show ∀b∈sL,b.length<=6 by decide) b hb
  refine (?_:(b++(p.txt++pl.txt)).length<=2*(j.cst+l.cst))
  refine rW List.length_append (rW List.length_append ?_);exact vp ‹_› (by exact lB h1 h2)⟩
theorem Ho {k:Int}(h0:0<=k)(h1:k<4):∃b∈sL,jo [V.str "", .str " ", .str "\n", .str "# a#(\n"] k=some (.str (ls b)):=by
 have:=Eg h0 h1
 clear h1 h0;rcases this with rfl|rfl|rfl|rfl
 ·exact ⟨[],by decide,by refine rW nil_eq ?_;rfl⟩
 ·exact ⟨[32],by decide,by refine rW (show ls [32]=Str.ofString " " by decide+kernel) ?_;rfl⟩
 ·exact ⟨[10],by decide,by refine rW (show ls [10]=Str.ofString "\n" by decide+kernel) ?_;rfl⟩
 ·exact ⟨[35,32,97,35,40,10],by decide,by refine rW (show ls [35,32,97,35,40,10]=Str.ofString "# a#(\n" by decide+kernel) ?_;rfl⟩
theorem yS (l:List Nat):q7 none none (some (-1)) (ls l)=ls l.reverse:=by
 unfold q7;refine rW (show (ls l).cps.toList=l from rfl) (rW (hJ ..) ?_);rfl
theorem Dl {L o:Str}{b:Bool}(ho:o=""\/pV o/\(L="("\/Txt.contains "sSlLqQiIjJ" L=true))(hb:b=true->Txt.contains "sSiIlLnNvVxX@." L=true):
  ∃m:List Nat,o++(if b=true then Str.ofString "!" else Str.ofString "")=ls m/\m.length<=2/\(pT L "" m/\mF ("",false) m=(o,b))/\pT L "" m.reverse/\mF ("",false) m.reverse=(o,b):=by
 have k60:Str.ofString "<"=ls [60]:=by decide+kernel
 have k62:Str.ofString ">"=ls [62]:=by decide+kernel
 have m60:jC 60=true:=by decide
 have m62:jC 62=true:=by decide
 rcases ho with rfl|⟨rfl|rfl,h⟩<;>cases b
 ·exact ⟨[],by decide+kernel,by decide,⟨trivial,rfl⟩,trivial,rfl⟩
 ·exact ⟨[33],by decide+kernel,by decide,⟨⟨hb rfl,trivial⟩,rfl⟩,⟨hb rfl,trivial⟩,rfl⟩
 ·exact ⟨[60],by decide+kernel,by decide,⟨⟨m60,h, .inl rfl,trivial⟩,by refine rW k60 ?_;rfl⟩,⟨m60,h, .inl rfl,trivial⟩,by refine rW k60 ?_;rfl⟩
 ·exact ⟨[60,33],by decide+kernel,by decide,⟨⟨m60,h, .inl rfl,hb rfl,trivial⟩,by refine rW k60 ?_;rfl⟩,⟨hb rfl,m60,h, .inl rfl,trivial⟩,by refine rW k60 ?_;rfl⟩
 ·exact ⟨[62],by decide+kernel,by decide,⟨⟨m62,h, .inl rfl,trivial⟩,by refine rW k62 ?_;rfl⟩,⟨m62,h, .inl rfl,trivial⟩,by refine rW k62 ?_;rfl⟩
 ·exact ⟨[62,33],by decide+kernel,by decide,⟨⟨m62,h, .inl rfl,hb rfl,trivial⟩,by refine rW k62 ?_;rfl⟩,⟨hb rfl,m62,h, .inl rfl,trivial⟩,by refine rW k62 ?_;rfl⟩
theorem wU {k:Nat}(h:k<10):kn (k:Int)= [48+k]:=by
 have:∀k∈List.range 10,kn (k:Int)= [48+k]:=by decide+kernel
 exact this k (List.mem_range.mpr h)
section
variable {G:Gc}(X:GX G){n N:Nat}{η:Hm}{E:Prop}{a:Addr}{it ab:V}{K:Kp}
include X
theorem AZ {c:bB}(hc:c.le 9){B:Nat}{y:AO}(hy:bK B y)(hB:B<=800000){t:List Nat}(ht:t.length<2^19){so L o b inn m:V}
  (q:∀ct y',cT c ct->ct.length<=3->bK (B+1) y'->K.nx (upd η a y') [some (.ref a),some it,some ab,some (.str (ls (t++ct))),some so,some L,some o,some b,some c.lc,some inn,some m]):
  aQ G (n+1) ((aG.sl.tl 1).hd.body.tl 5) E (upd η a y) [some (.ref a),some it,some ab,some (.str (ls t)),some so,some L,some o,some b,some c.lc,some inn,some m] K:=by
 have add:∀(ct:List Nat) (W:Str) y',W=ls ct->cT c ct->ct.length<=3->bK (B+1) y'->(ls t).length+W.length<=sizeLine/\K.nx (upd η a y') [some (.ref a),some it,some ab,some (.str (ls t++W)),some so,some L,some o,some b,some c.lc,some inn,some m]:=by
  rintro ct _ y' rfl h1 h2 h3
  refine ⟨sz (by refine rW (av ..) (rW (av ..) ?_);exact pO ‹_› (by exact lA ht)),?_⟩
  refine rW (dn ..) ?_
  exact q ct y' h1 h2 h3
 cases c with
 | au=>
  have:=q [] y rfl (by decide) (hy.up (Nat.le_succ _))
  rw [List.append_nil] at this
  exact this
 | star=>exact tT rfl (add [42] _ y (by decide+kernel) rfl (by decide) (hy.up (Nat.le_succ _)))
 | num k=>
  have hk:k<=9:=hc
  have hl:((k:Int).natAbs).log2<1920:=Nat.lt_of_le_of_lt (Nat.log2_le_self _) (by exact bt ‹_› (by rfl))
  have hs:Str.ofString (toString (k:Int))=ls [48+k]:=by exact rW (oC ..) (rW (wU (by exact Nat.lt_succ_of_le (by assumption))) rfl)
  refine aR X hy (by exact j7 ‹_› (by rfl)) (by decide) (by decide) λd y1 ξ ξ h1=>⟨λξ=>⟨hl,add [48+k] _ y1 hs ⟨by exact lA hk, .inl rfl⟩ (by refine (?_:1<=3);decide) h1⟩,λξ=>⟨hl,?_,?_,?_⟩⟩
  ·refine rW hs ?_;exact sz (m:=2) (by decide)
  ·refine rW hs ?_;exact sz (m:=3) (by decide)
  ·exact add [91,48+k,93] _ y1 (by rw [hs,show Str.ofString "["=ls [91] by decide+kernel,show Str.ofString "]"=ls [93] by decide+kernel,dn,dn];rfl) ⟨by exact lA hk, .inr rfl⟩ (Nat.le_refl 3) h1
theorem tf {c:bB}(hc:c.le 9){B:Nat}{y:AO}(hy:bK B y)(hB:B<=700000){t Lc:List Nat}(ht:t.length+3<2^19){so inn:V}{Lp o:Str}{b:Bool}{s10:Option V}(hLc:Lc.length<=1)
  (ho:o=""\/pV o/\(Lp="("\/Txt.contains "sSlLqQiIjJ" Lp=true)) (hb:b=true->Txt.contains "sSiIlLnNvVxX@." Lp=true)
  (q:∀m ct y',pT Lp "" m/\mF ("",false) m=(o,b)->cT c ct->m.length<=2->ct.length<=3->bK (B+2) y'->∀M,K.nx (upd η a y') [some (.ref a),some it,some ab,some (.str (ls (t++(Lc++m)++ct))),some so,some (.str (ls Lc)),some (.str o),some (.bool b),some c.lc,some inn,some M]):
  aQ G (n+1) ((aG.sl.tl 1).hd.body.tl 3) E (upd η a y) [some (.ref a),some it,some ab,some (.str (ls t)),some so,some (.str (ls Lc)),some (.str o),some (.bool b),some c.lc,some inn,s10] K:=by
 obtain ⟨m,em,hm,okm,okr⟩:=Dl ho hb
 have hol:o.length<=1:=by clear okr okm em q;rcases ho with rfl|⟨rfl|rfl, -⟩<;>decide+kernel
 have key:∀M:Str,M=ls m->aQ G (n+1) ((aG.sl.tl 1).hd.body.tl 4) E (upd η a y) [some (.ref a),some it,some ab,some (.str (ls t)),some so,some (.str (ls Lc)),some (.str o),some (.bool b),some c.lc,some inn,some (.str M)] K:=by
  rintro _ rfl
  have add:∀(m':List Nat) y1,m'.length<=2->pT Lp "" m'/\mF ("",false) m'=(o,b)->bK (B+1) y1->(ls Lc).length+(ls m').length<=sizeLine/\((ls t).length+(ls Lc++ls m').length<=sizeLine/\aQ G (n+1) ((aG.sl.tl 1).hd.body.tl 5) E (upd η a y1) [some (.ref a),some it,some ab,some (.str (ls t++(ls Lc++ls m'))),some so,some (.str (ls Lc)),some (.str o),some (.bool b),some c.lc,some inn,some (.str (ls m))] K):=λm' y1 h1 h2 h3=>by
   refine ⟨sz (by refine rW (av ..) (rW (av ..) ?_);exact Nat.lt_of_le_of_lt (Nat.add_le_add (by assumption) (by assumption)) (by decide)),?_⟩
   refine rW (dn ..) (rW (dn ..) ?_)
   refine ⟨sz (by refine rW (av ..) (rW (av ..) (rW List.length_append ?_));exact lC ht hLc h1),?_⟩
   exact AZ X hc h3 (by exact bt ‹_› (by rfl)) (by refine rW List.length_append (rW List.length_append ?_);exact lC ht hLc h1) λct y' k1 k2 k3=>q m' ct y' h2 k1 h1 k2 k3 _
  refine aR X hy (by exact j7 ‹_› (by rfl)) (by decide) (by decide) λd y1 ξ ξ h1=>⟨λξ=>add m y1 hm okm h1,λξ=>⟨rfl,sz (by refine rW (av ..) ?_;exact bt ‹_› (by rfl)),?_⟩⟩
  refine rW (yS ..) ?_
  exact add m.reverse y1 (by refine rW List.length_reverse ?_;exact hm) okr h1
 have h1:(Str.ofString "!").length=1:=by decide+kernel
 have h0:(Str.ofString "").length=0:=by decide+kernel
 exact ⟨λz=>⟨sz (by exact ya ‹_› (by rfl)),key _ (by rw [if_pos z] at em;exact em)⟩,λz=>⟨sz (by exact bt ‹_› (by rfl)),key _ (by rw [if_neg (by refine rW z ?_;decide)] at em;exact em)⟩⟩
end
noncomputable def LL.ctorIdx (x:LL):Nat:=LL.casesOn x 0 λξ ξ=>1
structure vr (G:Gc)(N:Nat)(l:LL):Prop where
 of:∀{n:Nat} {η:Hm} {E:Prop} {Q:V->Hm->Prop} {a:Addr} {y:AO} {B:Nat} {ab:Str},AF ab (l.wo ab)->bK B y->B+l.cst<=600000->(∀pl y',TS ab pl l->bK (B+l.cst) y'->Q (.str (ls pl.txt)) (upd η a y'))->ah G (n+N) (.ref cj) [.ref a, .lst l.lw, .str ab] (upd η a y) Q E
noncomputable def yt (G:Gc)(N:Nat):LI->Prop
 | .aI _ _ l=>vr G N l
 | .cnt _ i=>vr G N (.cons i .nil)
 | .pl _=>True
theorem xt {o:Str}(h:pV o):o≠"":=by rcases h with rfl|rfl<;>decide+kernel
theorem TS.cst {ab:Str}{pl:PL}{l:LL}{P:Prop}(h:TS ab pl l)(k:AF ab P):pl.it.cst=l.cst:=by
 rcases k with k|k
 ·exact rW (h.e0 k) rfl
 ·exact rV ((h.e1 k.1).2) (rW (LL.kg ..) rfl)
theorem PI.sh (p:PI):∃so:Str,PI.lw none p=bj so (ls [p.ch]) p.o p.b' p.c.lc .none/\so≠"counted"/\so≠"group":=by
 cases p with
 | num t o b c=>exact ⟨_,by refine (?_:bj _ t.str _ _ _ _=_);rw [t.dR];rfl,by decide+kernel,by decide+kernel⟩
 | text t c=>exact ⟨_,by refine (?_:bj _ t.str _ _ _ _=_);rw [t.dR];rfl,by decide+kernel,by decide+kernel⟩
 | dig t c=>exact ⟨_,by refine (?_:bj _ t.str _ _ _ _=_);rw [t.dR];rfl,by decide+kernel,by decide+kernel⟩
 | fS c=>exact ⟨_,congrArg (λs=>bj "nought" s "" false c.lc .none) (show Str.ofString "x"=ls [120] by decide+kernel),by decide+kernel,by decide+kernel⟩
theorem PG.sh {p:PI}(h:PG p):(p.o=""\/pV p.o/\Txt.contains "sSlLqQiIjJ" (ls [p.ch])=true)/\(p.b'=true->Txt.contains "sSiIlLnNvVxX@." (ls [p.ch])=true)/\p.c.le 9/\∀c,p= .fS c->c.i≠ -1:=by
 have hc:∀c:bB,cG c->c.le 9:=λc h=>by
  cases c with
  | num k=>exact Nat.le_trans (show k<=5 from h) (by decide)
  | _=>trivial
 cases p with
 | num t o b c=>
  have e:ls [(PI.num t o b c).ch]=t.str:=t.dR.symm
  refine rW e ?_
  exact ⟨h.2.1,λz=>(by cases t<;>first|decide+kernel|exact absurd (h.2.2 z) (by decide+kernel)),hc c h.1,λξ z=>nomatch z⟩
 | text t c=>exact ⟨.inl rfl,λz=>(nomatch z),hc c h,λξ z=>nomatch z⟩
 | dig t c=>exact ⟨.inl rfl,λz=>(nomatch z),hc c h,λξ z=>nomatch z⟩
 | fS c=>exact ⟨.inl rfl,λz=>(nomatch z),hc c h.1,λc' z=>by
   cases z
   cases c with
   | au=>decide
   | num k=>show (k:Int)≠ -1;simp+arith
   | star=>exact absurd rfl h.2⟩
set_option tactic.hygienic true in
theorem CH {p:PI}{o:Str}(h:(LI.pl p).wo o):(LI.pl p).wM o/\(LI.pl p).so o= .pl p:=by
 cases p with
 | num t o' b c=>
  refine ⟨λz=> .inr (h z),?_⟩
  refine (?_:LI.pl (.num t (if t.ord=true then o else o') b c)=_)
  split
  ·rename_i z;exact rW (show o'=o from h z) rfl
  ·rfl
 | _=>exact ⟨trivial,rfl⟩
theorem Dp (j:LI):∃(so L o:Str) (bb:Bool) (c inn:V),j.lw none=bj so L o bb c inn:=by
 cases j with
 | cnt=>exact ⟨_,_,_,_,_,_,rfl⟩
 | aI=>exact ⟨_,_,_,_,_,_,rfl⟩
 | pl p=>cases p<;>exact ⟨_,_,_,_,_,_,rfl⟩
noncomputable def EN (g:Hm->Ro->Prop)(η:Hm)(a:Addr)(I0:V)(ab:Str)(t b:List Nat)(B:Nat)(j:LI):Prop:=
 ∀(p:PT) (W:Str) y5 s4 s5 s6 s7 s8 s9 s10,TI ab p j->W=ls (t++(b++p.txt))->bK (B+j.cst) y5->g (upd η a y5) [some (.ref a),some I0,some (.str ab),some (.str W),s4,s5,s6,s7,s8,s9,s10]
section
variable {G:Gc}(X:GX G)
include X
theorem CQ {t2:NL}{i:LI}{n N:Nat}{E:Prop}{η:Hm}{a:Addr}{y1:AO}{B:Nat}{ab:Str}{I0:V}{t b:List Nat}{s10:Option V}{g g':Hm->Ro->Prop}{rt:V->Hm->Prop}(nx:EN g η a I0 ab t b B (LI.cnt t2 i))(hb6:b.length<=6)(h1:bK (B+1) y1)(hw:AF ab (LI.wo ab (LI.cnt t2 i)))(hA:yt G (N+1) (LI.cnt t2 i))(hg:(LI.cnt t2 i).tg)(hB:B+(LI.cnt t2 i).cst<=600000)(ht:t.length+2*(LI.cnt t2 i).cst<=200000):
  aQ G (n+(N+1)) ((aG.sl.tl 1).hd.body.tl 1) E (upd η a y1) [some (.ref a),some I0,some (.str ab),some (.str (ls (t++b))),some (.str "counted"),some (.str t2.str),some (.str ""),some (.bool false),some .none,some (i.lw none),s10] (kFor g g' rt):=by
 have hab:ab="":=hw.resolve_right λz=>z.2
 have hc2:(LL.cons i .nil).cst+100<=(LI.cnt t2 i).cst:=by refine (?_:i.cst+0+100<=100+i.cst);simp+arith
 have hch:t2.str.length=1:=by refine rW t2.dR (rW (av ..) ?_);rfl
 have hsl:(Str.ofString "/ ").length=2:=by decide+kernel
 refine tT rfl ⟨sz (by exact lB (eL hch) (eL hsl)),?_⟩
 refine (show vr G (N+1) (.cons i .nil) from hA).of (n:=n) (ab:="") (.inl rfl) h1 (by exact lB hB hc2) λpl y' k1 k2=>?_
 have hl:=k1.len
 obtain ⟨b2,p,rfl,hp⟩:∃b2 p,pl= .cons b2 p .nil/\p.it=i:=by
  have e:=k1.e0 rfl
  clear hl k1;cases pl with
  | nil=>cases e
  | cons b2 p r2=>
   have e:LL.cons p.it r2.it= .cons i .nil:=e
   cases r2 with
   | nil=>injection e with e1 e2;exact ⟨b2,p,rfl,e1⟩
   | cons=>injection e with e1 e2;cases e2
 have e3:t2.str++Str.ofString "/ "++ls (PL.cons b2 p .nil).txt=ls (PT.cnt t2 b2 p).txt:=by
  rw [t2.dR,show Str.ofString "/ "=ls [47,32] by decide+kernel,dn,dn]
  refine (?_:ls ([t2.ch]++ [47,32]++(b2++(p.txt++ [])))=_)
  refine rW (List.append_nil ..) ?_;rfl
 refine ⟨sz (by rw [av];refine (?_:(t2.str++Str.ofString "/ ").length+_<_);refine rW t2.dR (rW (show Str.ofString "/ "=ls [47,32] by decide+kernel) (rW (dn ..) (rW (av ..) ?_)));refine (?_:3+_<_);exact pO ‹_› (by exact lB ht (Nat.mul_le_mul_left 2 hc2))),?_⟩
 refine rW e3 ?_
 have hl2:(PT.cnt t2 b2 p).txt.length+6<=2*(LI.cnt t2 i).cst:=by
  have t1:(PL.cons b2 p .nil).txt.length=b2.length+p.txt.length:=by refine (?_:(b2++(p.txt++ [])).length=_);simp
  have t3:(PT.cnt t2 b2 p).txt.length=3+b2.length+p.txt.length:=by refine (?_:(t2.ch::47::(32::b2++p.txt)).length=_);simp;simp+arith
  exact lD (eL t3) (eR t1) hl (Nat.mul_le_mul_left 2 hc2)
 refine ⟨sz (by refine rW (av ..) (rW (av ..) (rW List.length_append ?_));exact lC hb6 ht hl2),?_⟩
 refine rW (dn ..) (rW (List.append_assoc ..) ?_)
 refine nx (.cnt t2 b2 p) _ y' _ _ _ _ _ _ _ ⟨⟨k1.ok.1,k1.ok.2.1,?_,?_⟩,λξ=>by refine rV hp ?_;rfl,λz=>?_,hl2⟩ rfl (k2.up (by exact lA hc2))
 ·clear hl2 e3 hl k1;cases p with
  | cnt=>rw [<-hp] at hg;exact hg.2.elim
  | _=>rfl
 ·rintro c m ct rfl
  rw [<-hp] at hg
  exact hg.2 c rfl
 ·rw [hab] at z;rcases z with z|z<;>exact absurd z (by decide+kernel)
theorem AY {o:Str}{c:bB}{l2:LL}{n N:Nat}{E:Prop}{η:Hm}{a:Addr}{y1:AO}{B:Nat}{ab:Str}{I0:V}{t b:List Nat}{s10:Option V}{g g':Hm->Ro->Prop}{rt:V->Hm->Prop}(nx:EN g η a I0 ab t b B (LI.aI o c l2))(hb6:b.length<=6)(h1:bK (B+1) y1)(hw:AF ab (LI.wo ab (LI.aI o c l2)))(hA:yt G (N+1) (LI.aI o c l2))(hg:(LI.aI o c l2).tg)(hB:B+(LI.aI o c l2).cst<=600000)(ht:t.length+2*(LI.aI o c l2).cst<=200000):
  aQ G (n+(N+1)) ((aG.sl.tl 1).hd.body.tl 1) E (upd η a y1) [some (.ref a),some I0,some (.str ab),some (.str (ls (t++b))),some (.str "group"),some (.str ""),some (.str o),some (.bool false),some c.lc,some (.lst l2.lw),s10] (kFor g g' rt):=by
 have hc2:(LI.aI o c l2).cst=1+7*(1+l2.cst):=rfl
 have rest:∀pl y',pl.txt.length<=2*l2.cst->(∀m ct,pT "(" "" m/\mF ("",false) m=(o,false)->cT c ct->(PT.aI o c m ct pl).txt.length+6<=2*(LI.aI o c l2).cst->TI ab (.aI o c m ct pl) (.aI o c l2))->bK (B+1+l2.cst) y'->
   (Str.ofString "(").length+(ls pl.txt).length<=sizeLine/\((Str.ofString "("++ls pl.txt).length+(Str.ofString ")").length<=sizeLine/\((ls (t++b)).length+(Str.ofString "("++ls pl.txt++Str.ofString ")").length<=sizeLine/\
   aQ G (n+(N+1)) ((aG.sl.tl 1).hd.body.tl 3) E (upd η a y') [some (.ref a),some I0,some (.str ab),some (.str (ls (t++b)++(Str.ofString "("++ls pl.txt++Str.ofString ")"))),some (.str "group"),some (.str ""),some (.str o),some (.bool false),some c.lc,some (.lst l2.lw),s10]
    (kFor g g' rt))):=λpl y' hl hT hy'=>by
  rw [show Str.ofString "("=ls [40] by decide+kernel,show Str.ofString ")"=ls [41] by decide+kernel,dn,dn,dn,av,av,av,av,av,av, <-nil_eq]
  have h7:(t++b).length+([40]++pl.txt++ [41]).length<=200000:=by simp;exact lD hb6 ht (eR hc2) hl
  refine ⟨sz (by refine (?_:1+_<_);exact lC ht (eR hc2) hl),sz (by simp;exact lC ht (eR hc2) hl),sz (by exact bt ‹_› (by rfl)),?_⟩
  refine tf X hg.1 hy' (by exact lB hB (eR hc2)) (by refine rW List.length_append ?_;exact ya ‹_› (by rfl)) (Lc:= []) (Lp:="(") (by decide) (hg.2.1.imp id λz=>⟨z.1, .inl rfl⟩) (λz=>nomatch z) λm ct y5 h1 h2 h3 h4 h5 M=>?_
  have e5:t++b++([40]++pl.txt++ [41])++([]++m)++ct=t++(b++(PT.aI o c m ct pl).txt):=by
   refine (?_:_=t++(b++(40::(pl.txt++41::(m++ct)))))
   simp
  refine rW e5 ?_
  refine nx (.aI o c m ct pl) _ y5 _ _ _ _ _ _ _ (hT m ct h1 h2 ?_) rfl (h5.up (by exact lA (eR hc2)))
  refine (?_:(40::(pl.txt++41::(m++ct))).length+6<=_)
  simp;exact lD hl ‹_<=2› ‹_<=3› (Nat.mul_le_mul_left 2 (eR hc2))
 refine tF (by decide+kernel) (tT rfl ⟨λz=>?_,λz=>?_⟩)
 ·refine (show vr G (N+1) l2 from hA).of (n:=n) (hw.imp id λz=>⟨z.1,z.2.2⟩) h1 (by exact lB hB (eR hc2)) λpl y' k1 k2=>?_
  clear ht hg hA nx;subst z
  refine rest pl y' k1.len (λm ct h1 h2 h3=>⟨⟨h1.1,h1.2,h2,k1.ok,λz=>absurd rfl z,by refine rW (k1.cst (hw.imp id λz=>⟨z.1,z.2.2⟩)) ?_;lia⟩,λz=>?_,λz=>⟨(k1.e1 z).1,?_⟩,h3⟩) (k2.up (by exact Nat.le_refl _))
  ·refine (?_:LI.aI _ c (if Str.ofString ""="" then pl.it else _)=_)
   exact rW (if_pos rfl) (rW (k1.e0 z) rfl)
  ·refine (?_:LI.aI _ c (LL.so ab (if Str.ofString ""="" then pl.it else _))=_)
   exact rW (if_pos rfl) (rW ((k1.e1 z).2) rfl)
 ·have ho:=hg.2.1.resolve_left z
  refine (show vr G (N+1) l2 from hA).of (n:=n) (.inr ho) h1 (by exact lB hB (eR hc2)) λpl y' k1 k2=>?_
  obtain ⟨k3,k4⟩:=k1.e1 ho.1
  refine rest pl y' k1.len (λm ct h1 h2 h3=>⟨⟨h1.1,h1.2,h2,k1.ok,λξ=>k3,by refine rW (k1.cst (.inr ho)) ?_;exact lB ht (eR hc2)⟩,λξ=>?_,λy=>absurd (hw.resolve_left (xt y)).2.1 z,h3⟩) (k2.up (by simp+arith only))
  refine (?_:LI.aI o c (if o="" then pl.it else pl.it.so o)=_)
  exact rW (if_neg z) (rW k4 rfl)
theorem CP {p:PI}{so L o:Str}{bb:Bool}{c inn:V}(e:(LI.pl p).lw none=bj so L o bb c inn){n N:Nat}{E:Prop}{η:Hm}{a:Addr}{y1:AO}{B:Nat}{ab:Str}{I0:V}{t b:List Nat}{s10:Option V}{g g':Hm->Ro->Prop}{rt:V->Hm->Prop}(nx:EN g η a I0 ab t b B (LI.pl p))(hb6:b.length<=6)(h1:bK (B+1) y1)(hw:AF ab (LI.wo ab (LI.pl p)))(hA:yt G (N+1) (LI.pl p))(hg:(LI.pl p).tg)(hB:B+(LI.pl p).cst<=600000)(ht:t.length+2*(LI.pl p).cst<=200000):
  aQ G (n+(N+1)) ((aG.sl.tl 1).hd.body.tl 1) E (upd η a y1) [some (.ref a),some I0,some (.str ab),some (.str (ls (t++b))),some (.str so),some (.str L),some (.str o),some (.bool bb),some c,some inn,s10] (kFor g g' rt):=by
 clear hA;obtain ⟨sp,esh,n1,n2⟩:=p.sh
 have e:PI.lw none p=bj so L o bb c inn:=e
 rw [esh] at e
 cases e
 have hg1:PG p:=hg
 have rest:∀(p':PI) (o':Str) y',p'.ch=p.ch->p'.b'=p.b'->p'.c=p.c->(o'=""\/pV o'/\Txt.contains "sSlLqQiIjJ" (ls [p.ch])=true)->(p.b'=true->Txt.contains "sSiIlLnNvVxX@." (ls [p.ch])=true)->p.c.le 9->(∀m ct,pT (ls [p.ch]) "" m/\mF ("",false) m=(o',p.b')->cT p.c ct->(PT.pl p' m ct).txt.length+6<=128->TI ab (.pl p' m ct) (.pl p))->bK (B+2) y'->
   aQ G (n+(N+1)) ((aG.sl.tl 1).hd.body.tl 3) E (upd η a y') [some (.ref a),some I0,some (.str ab),some (.str (ls (t++b))),some (.str so),some (.str (ls [p.ch])),some (.str o'),some (.bool p.b'),some p.c.lc,some .none,s10]
    (kFor g g' rt):=λp' o' y' e1 e2 e3 ho hb hc hT hy'=>by
  have hj64:(LI.pl p).cst=64:=rfl
  refine tf X hc hy' (by exact lA hB) (by refine rW List.length_append ?_;exact lB hb6 ht) (Lc:= [p.ch]) (Lp:=ls [p.ch]) (Nat.le_refl 1) (ho.imp id λz=>⟨z.1, .inr z.2⟩) hb λm ct y5 h1 h2 h3 h4 h5 M=>?_
  have e5:t++b++([p.ch]++m)++ct=t++(b++(PT.pl p' m ct).txt):=by
   refine (?_:_=t++(b++(p'.ch::(m++ct))))
   refine rW e1 ?_;simp
  refine rW e5 ?_
  refine nx (.pl p' m ct) _ y5 _ _ _ _ _ _ _ (hT m ct h1 h2 ?_) rfl (h5.up (by (constructor<;>lia)))
  refine (?_:(p'.ch::(m++ct)).length+6<=_)
  simp;exact Gr ‹_› ‹_› (by rfl)
 obtain ⟨g1,g2,g3,g4⟩:=hg1.sh
 have keep:∀y',bK (B+2) y'->_:=λy' hy'=>rest p p.o y' rfl rfl rfl g1 g2 g3 (λm ct h1 h2 h3=>⟨⟨h1.1,h1.2,h2,g4⟩,λξ=>rfl,λz=>CH (hw.resolve_left (xt z)).2,h3⟩) hy'
 refine tF n1 (tF n2 ⟨λξ=>keep y1 (h1.up (by exact Nat.le_succ _)),λz=>⟨λz2=>?_,λξ=>keep y1 (h1.up (by simp+arith only))⟩⟩)
 refine aR X (n:=n+N) h1 (by exact lA hB) (by decide) (by decide) λk y2 ξ ξ h2=>⟨λξ=>?_,λξ=>keep y2 (h2.up (by exact Nat.lt_succ_self _))⟩
 have hO:=g1.resolve_left z
 cases p with
 | num t2 o b2 c=>
  have z2:o=ab:=z2
  clear keep hw nx;subst z2
  have hord:t2.ord=true:=by have:=hO.2;rwa [show ls [(PI.num t2 o b2 c).ch]=t2.str from t2.dR.symm] at this
  refine rest (.num t2 "" b2 c) "" y2 rfl rfl rfl (.inl rfl) g2 g3 (λm ct h1 h2 h3=>⟨⟨h1.1,h1.2,h2,λξ h=>nomatch h⟩,λy=>absurd y z,λξ=>⟨λξ=> .inl rfl,?_⟩,h3⟩) (h2.up (by simp+arith only))
  refine (?_:LI.pl (.num t2 (if t2.ord=true then o else _) b2 c)=_)
  exact rW (if_pos hord) rfl
 | text=>exact absurd rfl z
 | dig=>exact absurd rfl z
 | fS=>exact absurd rfl z
theorem rz {N:Nat}{l:LL}(h:l.all (yt G (N+1)))(hg:l.tg)(hc:l.cst<=100000):vr G (N+2) l:=⟨λ{n} {η} {E} {Q} {a} {y} {B} {ab} hw hy hB q=>by
 refine spec X 74 rfl rfl rfl ?_
 have loop:∀(r:LL) (t:List Nat) y B s4 s5 s6 s7 s8 s9 s10,r.all (yt G (N+1))->r.tg->AF ab (r.wo ab)->bK B y->B+r.cst<=600000->t.length+2*r.cst<=200000->(∀pl y',TS ab pl r->bK (B+r.cst) y'->Q (.str (ls (t++pl.txt))) (upd η a y'))->
   forL G (n+(N+1)) E Q (aG.sl.tl 1) [4,5,6,7,8,9] true r.lw (upd η a y) [some (.ref a),some (.lst l.lw),some (.str ab),some (.str (ls t)),s4,s5,s6,s7,s8,s9,s10]:=by
  intro r
  induction r using LL.rec (motive_1:=λξ=>True) with
  | pl|aI|cnt=>trivial
  | nil=>
   intro t y B s4 s5 s6 s7 s8 s9 s10 _ _ _ hy _ _ q
   have:=q .nil y TS.nil hy
   rw [show t++PL.nil.txt=t from List.append_nil t] at this
   exact this
  | cons j r _ ih=>
   intro t y B s4 s5 s6 s7 s8 s9 s10 hA hg hw hy hB ht q
   have hB:B+(j.cst+r.cst)<=600000:=hB
   have ht:t.length+2*(j.cst+r.cst)<=200000:=ht
   have hj:=j.lM
   have hB1:B+j.cst<=600000:=Nat.le_trans (Nat.add_le_add_left (Nat.le_add_right _ _) _) hB
   have ht1:t.length+2*j.cst<=200000:=Nat.le_trans (Nat.add_le_add_left (Nat.mul_le_mul_left _ (Nat.le_add_right _ _)) _) ht
   have hwj:AF ab (j.wo ab):=hw.imp id λz=>⟨z.1,z.2.1⟩
   have hwr:AF ab (r.wo ab):=hw.imp id λz=>⟨z.1,z.2.2⟩
   have body:∀(b:List Nat) y1,b∈sL->bK (B+1) y1->∀(so L o:Str) (bb:Bool) (c inn:V),j.lw none=bj so L o bb c inn->
     aQ G (n+(N+1)) ((aG.sl.tl 1).hd.body.tl 1) E (upd η a y1) [some (.ref a),some (.lst l.lw),some (.str ab),some (.str (ls (t++b))),some (.str so),some (.str L),some (.str o),some (.bool bb),some c,some inn,s10]
      (kFor (forL G (n+(N+1)) E Q (aG.sl.tl 1) [4,5,6,7,8,9] true r.lw) (λη ρ=>aQ G (n+(N+1)) (aG.sl.tl 2) E η ρ (fin Q)) Q):=λb y1 hb h1=>by
    have hb6:b.length<=6:=(show ∀b∈sL,b.length<=6 by decide) b hb
    have nx:∀(p:PT) (W:Str) y5 s4 s5 s6 s7 s8 s9 s10,TI ab p j->W=ls (t++(b++p.txt))->bK (B+j.cst) y5->
      forL G (n+(N+1)) E Q (aG.sl.tl 1) [4,5,6,7,8,9] true r.lw (upd η a y5) [some (.ref a),some (.lst l.lw),some (.str ab),some (.str W),s4,s5,s6,s7,s8,s9,s10]:=by
     rintro p _ y5 s4 s5 s6 s7 s8 s9 s10 hp rfl h5
     have hpl:=hp.len
     refine ih (t++(b++p.txt)) y5 (B+j.cst) _ _ _ _ _ _ _ hA.2 hg.2 hwr h5 (by exact lA hB) (by refine rW List.length_append (rW List.length_append ?_);exact lC ht hb6 hpl) λpl y' k1 k2=>?_
     refine rW (List.append_assoc ..) (rW (List.append_assoc ..) ?_)
     exact q (.cons b p pl) y' (TS.cons hb hp k1) (k2.up (by refine (?_:_<=B+(j.cst+r.cst));simp+arith))
    intro so L o bb c inn e
    clear hj ht hB q hw;cases j with
    | cnt t2 i=>
     cases e
     exact CQ X nx hb6 h1 hwj hA.1 hg.1 hB1 ht1
    | aI o c l2=>
     cases e
     exact AY X nx hb6 h1 hwj hA.1 hg.1 hB1 ht1
    | pl p=>exact CP X e nx hb6 h1 hwj hA.1 hg.1 hB1 ht1
   obtain ⟨so,L,o,bb,c,inn,e⟩:=Dp j
   have key:forL G (n+(N+1)) E Q (aG.sl.tl 1) [4,5,6,7,8,9] true (bj so L o bb c inn::r.lw) (upd η a y) [some (.ref a),some (.lst l.lw),some (.str ab),some (.str (ls t)),s4,s5,s6,s7,s8,s9,s10]:=by
    refine aR X (n:=n+N) hy (by lia) (by decide) (by decide) λk y1 hk0 hk1 h1=>?_
    obtain ⟨b,hb,e2⟩:=Ho (mx k (show (0:Int)<4 by decide)).1 (mx k (show (0:Int)<4 by decide)).2
    have hb6:b.length<=6:=(show ∀b∈sL,b.length<=6 by decide) b hb
    refine ⟨by decide,_,e2,sz (by refine rW (av ..) (rW (av ..) ?_);exact pO ‹_› (by lia)),?_⟩
    have:=body b y1 hb h1 so L o bb c inn e
    rw [<-dn] at this
    exact this
   rw [<-e] at key
   exact key
 exact loop l [] y B none none none none none none none h hg hw hy hB (by simp;exact lA (Nat.mul_le_mul_left 2 hc)) q⟩
end
theorem vr.up {G:Gc}{N M:Nat}{l:LL}(h:vr G N l)(hm:N<=M):vr G M l:=by
 obtain ⟨k,rfl⟩:=Nat.exists_eq_add_of_le hm
 exact ⟨λ{n} {η} {E} {Q} {a} {y} {B} {ab} a b c d=>ah.up (h.of (n:=n) a b c d) (by simp+arith only)⟩
theorem yt.up {G:Gc}{N M:Nat}{j:LI}(h:yt G N j)(hm:N<=M):yt G M j:=by
 cases j with
 | aI o c l=>exact vr.up (l:=l) h hm
 | cnt t i=>exact vr.up (l:= .cons i .nil) h hm
 | pl=>trivial
section
variable {G:Gc}(X:GX G)
include X
mutual
theorem F2:(j:LI)->j.tg->j.cst<=100000->yt G (j.ht+1) j
 | .pl _,_,_=>trivial
 | .aI _ _ l,h,hc=>by
  have hc:1+7*(1+l.cst)<=100000:=hc
  exact vr.up (l:=l) (rz X (EA l h.2.2 (by exact lA hc)) h.2.2 (by exact lA hc)) (by refine (?_:l.ht+2<=1+l.ht+1);simp+arith)
 | .cnt _ i,h,hc=>by
  have hc:100+i.cst<=100000:=hc
  exact vr.up (l:= .cons i .nil) (rz X (l:= .cons i .nil) ⟨F2 i h.1 (by exact Cz ‹_›),trivial⟩ ⟨h.1,trivial⟩ (by refine (?_:i.cst+0<=_);exact Cz ‹_›)) (by refine (?_:i.ht+2<=1+i.ht+1);simp+arith)
theorem EA:(l:LL)->l.tg->l.cst<=100000->l.all (yt G (l.ht+1))
 | .nil,_,_=>trivial
 | .cons j r,h,hc=>by
  have hc:j.cst+r.cst<=100000:=hc
  exact ⟨(F2 j h.1 (by exact Em ‹_›)).up (by refine (?_:_<=max j.ht r.ht+1);exact lA (Nat.le_max_left j.ht r.ht)),LL.aq (λξ h=>h.up (by refine (?_:_<=max j.ht r.ht+1);exact lA (Nat.le_max_right j.ht r.ht))) r (EA r h.2 (by exact Cz ‹_›))⟩
end
theorem yH {n:Nat}{η:Hm}{E:Prop}{Q:V->Hm->Prop}{a:Addr}{y:AO}{B:Nat}{l:LL}(hg:l.tg)(hc:l.cst<=100000)(hh:l.ht<=3)(hy:bK B y)(hB:B<=400000)
  (q:∀(pl:PL) y',pl.ok->pl.it=l->pl.txt.length<=200000->bK (B+100000) y'->Q (.str (ls pl.txt)) (upd η a y')):ah G (n+5) (.ref cj) [.ref a, .lst l.lw, .str ""] (upd η a y) Q E:=
 ah.up ((rz X (EA X l hg hc) hg hc).of (n:=n) (ab:="") (.inl rfl) hy (by exact Gr ‹_› ‹_› (by rfl)) λpl y' h1 h2=>q pl y' h1.ok (h1.e0 rfl) (by have:=h1.len;exact jG ‹_› (by exact lA (Nat.mul_le_mul_left 2 hc))) (h2.up (by exact Nat.add_le_add_left (by assumption) _))) (by exact lA hh)
end
mutual
theorem PT.om:(p:PT)->p.dp<=p.it.ht
 | .pl _ _ _=>Nat.zero_le _
 | .aI o c m ct l=>by
  have h:=PL.om l
  have e:(if o="" then l.it else l.it.so o).ht=l.it.ht:=by
   split
   ·rfl
   ·exact LL.ma _ l.it
  refine (?_:l.dp+1<=1+(if o="" then l.it else l.it.so o).ht)
  refine rW e ?_;exact DX ‹_› (by simp+arith only)
 | .cnt t b i=>Nat.le_trans (PT.om i) (Nat.le_add_left _ _)
theorem PL.om:(l:PL)->l.dp<=l.it.ht
 | .nil=>Nat.le_refl _
 | .cons b i r=>by
  have h:=PT.om i
  have h2:=PL.om r
  refine (?_:max i.dp r.dp<=max i.it.ht r.it.ht)
  exact Nat.max_le.mpr ⟨lB h (Nat.le_max_left i.it.ht r.it.ht),lB h2 (Nat.le_max_right i.it.ht r.it.ht)⟩
end
mutual
theorem PT.nV:(p:PT)->p.rn<=5+3*p.it.ht
 | .pl _ _ _=>Nat.le_refl _
 | .aI o c m ct l=>by
  have h:=PL.nV l
  have e:(if o="" then l.it else l.it.so o).ht=l.it.ht:=by
   split
   ·rfl
   ·exact LL.ma _ l.it
  refine (?_:l.rn+3<=5+3*(1+(if o="" then l.it else l.it.so o).ht))
  refine rW e ?_;exact Nat.lt_of_le_of_lt (Nat.add_le_add_right (by assumption) _) (by simp+arith only)
 | .cnt t b i=>by
  have h:=PT.nV i
  refine (?_:i.rn+1<=5+3*(1+i.it.ht))
  exact DX ‹_› (by simp+arith only)
theorem PL.nV:(l:PL)->l.rn<=5+3*l.it.ht
 | .nil=>Nat.le_refl _
 | .cons b i r=>by
  have h:=PT.nV i
  have h2:=PL.nV r
  refine (?_:max i.rn r.rn<=5+3*max i.it.ht r.it.ht)
  exact Nat.max_le.mpr ⟨lB h (Nat.mul_le_mul_left 3 (Nat.le_max_left i.it.ht r.it.ht)),lB h2 (Nat.mul_le_mul_left 3 (Nat.le_max_right i.it.ht r.it.ht))⟩
end
noncomputable abbrev iY (l:List Int):Prop:=∀x∈l,0<=x/\x<=255
theorem iY.app {a b:List Int}(h:iY a)(k:iY b):iY (a++b):=λx hx=>(List.mem_append.mp hx).elim (h x) (k x)
theorem iY.nil:iY []:=λξ h=>nomatch h
theorem iY.rep {m:Nat}{z:Int}(h:0<=z/\z<=255):iY (List.replicate m z):=λx hx=>by refine rW ((List.mem_replicate.mp hx).2) ?_;exact h
theorem tO (i:Int)(w:Nat)(b:Bool):iY (rowOf i w b):=by
 have h:iY (jy i w):=λx hx=>by
  obtain ⟨k,_,rfl⟩:=List.mem_map.mp hx
  exact dS
 unfold rowOf
 split
 ·exact λx hx=>h x (List.mem_reverse.mp hx)
 ·exact h
theorem nZ:∀l:List Nat,iY (aD l)
 | []=>iY.nil
 | _::l=>λx hx=>by
  rcases List.mem_cons.mp hx with rfl|hx
  ·exact dS
  ·exact nZ l x hx
theorem wQ (codes:List Int)(count:Nat)(big:Bool):iY (gM codes count big):=λx hx=>by
 rw [oq] at hx
 obtain ⟨j,_,rfl⟩:=List.mem_map.mp hx
 have h:∀k,∀x:Int,x=(if 8*j+k<min count codes.length then Builtin.bitAnd (codes.getD (8*j+k) 0) 1 else 0)->0<=x/\x<=1:=λk x e=>by
  refine rW e ?_
  split
  ·have:=DY (codes.getD (8*j+k) 0)
   simp only [List.mem_cons,List.not_mem_nil,or_false] at this
   rcases this with y|y<;>refine rW y ?_<;>decide
  ·decide
 have h0:=h 0 _ rfl
 have h1:=h 1 _ rfl
 have h2:=h 2 _ rfl
 have h3:=h 3 _ rfl
 have h4:=h 4 _ rfl
 have h5:=h 5 _ rfl
 have h6:=h 6 _ rfl
 have h7:=h 7 _ rfl
 unfold v8
 split
 ·exact bS (bS (bS (bS (bS (bS (bS h7 h6 (by decide)) h5 (by decide)) h4 (by decide)) h3 (by decide)) h2 (by decide)) h1 (by decide)) h0 (by decide)
 ·exact bS (bS (bS (bS (bS (bS (bS h0 h1 (by decide)) h2 (by decide)) h3 (by decide)) h4 (by decide)) h5 (by decide)) h6 (by decide)) h7 (by decide)
theorem wO (codes:List Int)(count:Nat)(big:Bool):iY (gG codes count big):=λx hx=>by
 rw [n0] at hx
 obtain ⟨j,_,rfl⟩:=List.mem_map.mp hx
 have h:∀k,∀x:Int,x=(if 2*j+k<min count codes.length then pU (codes.getD (2*j+k) 0) else 0)->0<=x/\x<=15:=λk x e=>by
  refine rW e ?_
  split
  ·exact kp _
  ·decide
 have h0:=h 0 _ rfl
 have h1:=h 1 _ rfl
 unfold v2
 split
 ·exact bS h1 h0 (by decide)
 ·exact bS h0 h1 (by decide)
theorem tQ {f:Int->List Int}(hf:∀i,iY (f i))(tl:Option Int)(vs:List SV):∀k i,iY (layNum f tl vs k i).1
 | 0,_=>iY.nil
 | k+1,_=>(hf _).app (tQ hf tl vs k _)
theorem tP {f:Nat->List Int×Nat}(hf:∀i,iY (f i).1)(s:Bool)(len:Nat):∀k i,iY (rep f s len k i).1
 | 0,_=>iY.nil
 | k+1,i=>by
  rw [rep]
  split
  ·exact hf i
  ·exact (hf i).app (tP hf s len k _)
theorem PI.oct (tl:Option Int)(vs:List SV)(ov:Option Nat)(p:PI)(i:Nat):iY (p.lay tl vs ov i).1:=by
 cases p with
 | num t o b c=>exact tQ (λξ=>tO _ _ _) _ _ _ _
 | fS c=>exact iY.rep (by decide)
 | text t c=>
  refine (?_:iY (TL.row _ _ _))
  unfold TL.row
  dsimp only
  refine iY.app ?_ (iY.rep (by split<;>decide))
  split<;>exact λx hx=>nZ _ x (List.mem_of_mem_take hx)
 | dig t c=>
  refine (?_:iY (DL.row _ _ _))
  unfold DL.row
  dsimp only
  split
  ·exact wQ _ _ _
  ·exact wO _ _ _
mutual
theorem LI.oct (vs:List SV):(j:LI)->∀ov i,iY (j.lay vs ov i).1
 | .pl p,ov,i=>p.oct none vs ov i
 | .aI _ _ l,_,_=>tP (f:=λi=>LL.lay vs l i) (λi=>LL.oct vs l i) _ _ _ _
 | .cnt t j,_,_=>(tO _ _ _).app (LI.oct vs j _ _)
theorem LL.oct (vs:List SV):(l:LL)->∀i,iY (l.lay vs i).1
 | .nil,_=>iY.nil
 | .cons j r,i=>(LI.oct vs j none i).app (LL.oct vs r _)
end
theorem LL.vQ:∀{l:LL},l.all LI.tg->l.tg
 | .nil,_=>trivial
 | .cons _ _,g=>⟨g.1,LL.vQ g.2⟩
theorem LL.wL:∀{l:LL},l.all (λj=>j.ok none)->l.ok
 | .nil,_=>trivial
 | .cons _ _,g=>⟨g.1,LL.wL g.2⟩
theorem LL.rZ:∀{l:LL},l.all (λj=>j.gO none)->l.gO
 | .nil,_=>trivial
 | .cons _ _,g=>⟨g.1,LL.rZ g.2⟩
theorem LL.yd {m:Nat}:∀{l:LL},l.all (λj=>j.aU none<=m)->l.aU<=l.n*m
 | .nil,_=>Nat.zero_le _
 | .cons i r,g=>by
  have:=LL.yd g.2
  have:=g.1
  refine (?_:i.aU none+r.aU<=(r.n+1)*m)
  refine rW (Nat.succ_mul ..) ?_;exact vD ‹_› ‹_› (by simp+arith only)
theorem LL.xW {m:Nat}:∀{l:LL},l.all (λj=>j.cU<=m)->l.cU<=l.n*m
 | .nil,_=>Nat.zero_le _
 | .cons i r,g=>by
  have:=LL.xW g.2
  have:=g.1
  refine (?_:i.cU+r.cU<=(r.n+1)*m)
  refine rW (Nat.succ_mul ..) ?_;exact vD ‹_› ‹_› (by simp+arith only)
theorem cG.le {c:bB}(h:cG c){m:Nat}(hm:5<=m):c.le m:=by
 cases c with
 | num k=>exact Nat.le_trans (show k<=5 from h) hm
 | _=>trivial
theorem gC.le {c:bB}(h:gC c){m:Nat}(hm:2<=m):c.le m:=by
 cases c with
 | num k=>exact Nat.le_trans (show k<=2 from h) hm
 | _=>trivial
theorem PG.ok {p:PI}(h:PG p):p.ok none:=by
 cases p with
 | num t o b c=>exact cG.le h.1 (by decide)
 | text t c=>exact cG.le (show cG c from h) (by decide)
 | dig t c=>exact cG.le (show cG c from h) (by decide)
 | fS c=>exact cG.le h.1 (by decide)
theorem PG.gO {p:PI}(h:PG p):(LI.pl p).gO none:=λc e=>h.sh.2.2.2 c e
theorem IG.tg {h:Nat}{j:LI}(g:IG h j):j.tg:=IG.all (P:=LI.tg) (λξ g=>g) (λξ ξ ξ a b ξ ξ k=>⟨gC.le a (by decide),b,LL.vQ k⟩) h j g
theorem IG.ok {h:Nat}{j:LI}(g:IG h j):j.ok none:=IG.all (P:=λj=>j.ok none) (λξ g=>g.ok) (λξ ξ ξ a ξ ξ ξ k=>⟨gC.le a (by decide),LL.wL k⟩) h j g
theorem IG.gO {h:Nat}{j:LI}(g:IG h j):j.gO none:=IG.all (P:=λj=>j.gO none) (λξ g=>g.gO) (λξ ξ ξ ξ ξ s ξ k=>⟨s,LL.rZ k⟩) h j g
noncomputable def aB:Nat->Nat
 | 0=>2
 | h+1=>1+2*(1+3*aB h)
noncomputable def zV:Nat->Nat
 | 0=>2
 | h+1=>1+3*aB h+3*zV h
theorem IG.aU:∀{h:Nat} {j:LI},IG h j->j.aU none<=aB h/\j.cU<=zV h:=by
 intro h
 induction h with
 | zero=>intro j g;cases j with
  | pl p=>exact ⟨Nat.le_refl _,Nat.le_refl _⟩
  | aI=>exact g.elim
  | cnt=>exact g.elim
 | succ h ih=>intro j g;cases j with
  | pl p=>
   have:=ih (j:= .pl (.fS .au)) (IG.pl ⟨trivial,λz=>nomatch z⟩)
   have h1:2<=aB h:=this.1
   have h2:2<=zV h:=this.2
   exact ⟨show 2<=1+2*(1+3*aB h) by simp+arith,show 2<=1+3*aB h+3*zV h by exact ka ‹_› (by simp+arith only)⟩
  | aI o c l=>
   have h1:=LL.yd (LL.aq (λj g=>(ih g).1) l g.2.2.2.2)
   have h2:=LL.xW (LL.aq (λj g=>(ih g).2) l g.2.2.2.2)
   have h3:=Nat.mul_le_mul_right (aB h) g.2.2.2.1
   have h4:=Nat.mul_le_mul_right (zV h) g.2.2.2.1
   have hK:c.K<=2:=by
    cases c with
    | num k=>exact g.1
    | au=>decide
    | star=>decide
   have h5:=Nat.mul_le_mul_right (1+l.aU) hK
   exact ⟨show 1+c.K*(1+l.aU)<=1+2*(1+3*aB h) by exact ot ‹_› (by exact lB (Nat.mul_le_mul_left 2 h1) (Nat.mul_le_mul_left 2 h3)),show 1+l.aU+l.cU<=1+3*aB h+3*zV h by exact lD h1 h2 h3 h4⟩
  | cnt=>exact g.elim
structure vw (l:LL):Prop where
 ex:∃j r,l= .cons j r/\TG j/\r.all (IG 1)/\r.n<=3
theorem CG.tg {t:NL}{i:LI}(h:CG t i):(LI.cnt t i).tg/\(LI.cnt t i).ok none/\i.cst<=456/\i.ht<=1:=by
 have hta:PG (.text .a .au):=trivial
 have hnc:PG (.num .C "" false (.num 1)):=⟨(by decide:1<=5), .inl rfl,λz=>nomatch z⟩
 cases i with
 | cnt=>exact h.elim
 | pl p=>
  refine ⟨⟨h.1,h.2⟩,⟨h.1.ok,?_⟩,(by decide:64<=456),Nat.zero_le _⟩
  cases p with
  | fS c=>exact h.2 c rfl
  | _=>trivial
 | aI o c l=>
  obtain ⟨-,rfl,hc,rfl|rfl⟩:=h<;>(
   refine ⟨⟨⟨?_, .inl rfl,?_,trivial⟩,trivial⟩,⟨⟨?_,?_,trivial⟩,trivial⟩,(by decide:1+7*(1+(64+0))<=456),(by decide:1+max 0 0<=1)⟩
   ·rcases hc with rfl|rfl|rfl<;>first|trivial|exact (by decide:1<=9)
   ·first|exact hta|exact hnc
   ·rcases hc with rfl|rfl|rfl<;>first|trivial|exact (by decide:1<=7)
   ·first|exact hta.ok|exact hnc.ok)
theorem vw.tg {l:LL}(h:vw l):l.tg/\l.ok/\l.cst<=40000/\l.ht<=2:=by
 obtain ⟨j,r,rfl,hj,hr,hn⟩:=h.ex
 have r3:=LL.pJ (LL.aq (λξ g=>IG.cst g) r hr)
 have r4:=Nat.mul_le_mul_right (cB 1) hn
 have r5:=LL.ud (LL.aq (λξ g=>IG.ht g) r hr)
 have c1:cB 1=1352:=by decide
 have c2:cB 2=28400:=by decide
 have rest:j.tg->j.ok none->j.cst<=28400->j.ht<=2->(LL.cons j r).tg/\(LL.cons j r).ok/\(LL.cons j r).cst<=40000/\(LL.cons j r).ht<=2:=λa b c d=>
  ⟨⟨a,LL.vQ (LL.aq (λξ g=>g.tg) r hr)⟩,⟨b,LL.wL (LL.aq (λξ g=>g.ok) r hr)⟩,by refine (?_:j.cst+r.cst<=_);exact vD ‹_› ‹_› (by lia),by refine (?_:max j.ht r.ht<=2);exact Nat.max_le.mpr ⟨lA d,lA r5⟩⟩
 rcases hj with g|⟨t,i,rfl,g⟩
 ·exact rest g.tg g.ok (c2▸g.cst) g.ht
 ·obtain ⟨k1,k2,k3,k4⟩:=g.tg
  exact rest k1 k2 (by refine (?_:100+i.cst<=_);exact Cc ‹_› (by rfl)) (by refine (?_:1+i.ht<=2);exact Nat.add_le_add_left (by assumption) _)
theorem AM (n:Int):(wrap64 n).natAbs<10^30:=by
 have h:=mx n (show (0:Int)<2^64 by decide)
 unfold wrap64
 split
 ·exact Cu (n:=10^30) h.1 (Int.lt_trans h.2 (by decide))
 ·exact rV (Int.natAbs_neg _) (rW (Int.neg_sub ..) (Cu (n:=10^30) (Int.sub_nonneg_of_le (Int.le_of_lt h.2)) (Int.lt_of_le_of_lt (Int.sub_le_self _ h.1) (by decide))))
theorem A1 {d:List Int}(ho:iY d):(max (NL.C.told d) 0).toNat<=255:=by
 have e:NL.C.told d=wrap64 (numOf (d.take 1) false false):=by
  refine (?_:wrap64 (numOf (d.take (NL.C.size false)) (NL.C.big "") (NL.C.sgn false))=_)
  exact rW (show NL.C.size false=1 by decide+kernel) (rW (show NL.C.big ""=false by decide+kernel) (rW (show NL.C.sgn false=false by decide+kernel) rfl))
 refine rW e ?_
 clear e;cases d with
 | nil=>decide+kernel
 | cons x d=>
  have hx:=ho x List.mem_cons_self
  have e2:numOf ((x::d).take 1) false false=0*256+x:=rfl
  refine rW e2 (rW (i0 (by exact iA hx.1) (by exact iA hx.2)) (rW (if_neg (by exact Int.not_le.mpr (iA hx.2))) ?_))
  exact Int.toNat_le.mpr (Int.max_le.mpr ⟨(show 0*256+x<=(255:Int) from iA hx.2),by decide⟩)
theorem vw.vB {l:LL}(h:vw l){d:List Int}(ho:iY d):l.vB d:=by
 obtain ⟨j,r,rfl,hj,hr,hn⟩:=h.ex
 have r1:=LL.yd (LL.aq (λξ g=>(IG.aU g).1) r hr)
 have r2:=LL.xW (LL.aq (λξ g=>(IG.aU g).2) r hr)
 have r3:=Nat.mul_le_mul_right (aB 1) hn
 have r4:=Nat.mul_le_mul_right (zV 1) hn
 have r5:=LL.rZ (LL.aq (λξ g=>IG.gO g) r hr)
 have c1:aB 1=15:=by decide
 have c2:zV 1=13:=by decide
 have c3:aB 2=93:=by decide
 have c4:zV 2=85:=by decide
 rcases hj with g|⟨t,i,rfl,g⟩
 ·have ga:=g.aU
  have key:(LL.cons j r).gO/\(LL.cons j r).aU+(LL.cons j r).cU*24<=9000:=⟨⟨g.gO,r5⟩,by
   refine (?_:(j.aU none+r.aU)+(j.cU+r.cU)*24<=9000)
   rw [c1] at r1;rw [c2] at r2;rw [c3,c4] at ga
   exact lE r1 (Nat.mul_le_mul_left 24 r2) (Nat.mul_le_mul_left 327 hn) ga.1 (Nat.mul_le_mul_left 24 ga.2)⟩
  clear ga h;cases j with
  | pl p=>exact key
  | aI o c l=>exact key
  | cnt=>exact g.elim
 ·have tb:=AM (numOf (d.take (t.size false)) (t.big "") (t.sgn false))
  cases i with
  | cnt=>exact g.elim
  | pl p=>exact ⟨λm c e=>absurd e (g.2 c),tb,by refine (?_:(2+r.aU)+(2+r.cU)*24<=9000);rw [c1] at r1;rw [c2] at r2;exact lC r1 (Nat.mul_le_mul_left 24 r2) (Nat.mul_le_mul_left 327 hn),r5⟩
  | aI o c l=>
   obtain ⟨rfl,rfl,hc,hl⟩:=g
   have hk:=A1 ho
   have hlu:l.gO/\l.aU=2/\l.cU=2:=by rcases hl with rfl|rfl<;>exact ⟨⟨λξ e=>(nomatch e),trivial⟩,rfl,rfl⟩
   refine ⟨λm=>⟨λz=>(nomatch z),hlu.1⟩,tb,?_,r5⟩
   have h5:=Nat.mul_le_mul_right (1+l.aU) hk
   refine (?_:(1+(max (NL.C.told d) 0).toNat*(1+l.aU)+r.aU)+((1+l.aU+l.cU)+r.cU)*24<=9000)
   rw [c1] at r1;rw [c2] at r2;rw [hlu.2.1,hlu.2.2]
   exact lD r1 (Nat.mul_le_mul_left 24 r2) (Nat.mul_le_mul_left 327 hn) (Nat.mul_le_mul_left 3 hk)
theorem kH {x:V}(h:(∃k,x= .int k)\/∃s,x= .str s):il x x=some true:=by
 rcases h with ⟨k,rfl⟩|⟨s,rfl⟩
 ·refine (?_:some (k==k)=_);exact rW (beq_self_eq_true ..) rfl
 ·refine (?_:some (s==s)=_);exact rW (beq_self_eq_true ..) rfl
theorem ku {l:List V}(h:∀x∈l,(∃k,x= .int k)\/∃s,x= .str s):jA l l=some true:=by
 unfold jA
 refine rW (if_pos rfl) ?_
 induction l with
 | nil=>rfl
 | cons x l ih=>refine rW yb (rW (kH (h x List.mem_cons_self)) (rW (ih λy hy=>h y (List.mem_cons_of_mem _ hy)) ?_));rfl
noncomputable abbrev rm (l:List V):Prop:=∀x∈l,(∃k,x= .int k)\/∃s,x= .str s
theorem rm.app {a b:List V}(h:rm a)(k:rm b):rm (a++b):=λx hx=>(List.mem_append.mp hx).elim (h x) (k x)
theorem rm.nums (f:List Int->Int)(d:List Int)(w:Nat):∀m i,rm (cy f d w m i)
 | 0,_=>λξ h=>nomatch h
 | m+1,i=>λx hx=>by
  rcases List.mem_cons.mp hx with rfl|hx
  ·exact .inl ⟨_,rfl⟩
  ·exact rm.nums f d w m _ x hx
theorem PI.dP {d:List Int}{ov:Option Nat}{p:PI}{i:Nat}{r:List V×Nat}(e:p.rd d ov i=some r):rm r.1:=by
 cases p with
 | num t o b c=>cases e;exact rm.nums _ _ _ _ _
 | text t c=>
  cases e
  intro x hx
  refine rW (List.mem_singleton.mp hx) ?_
  clear hx;cases t with
  | Z=>
   right
   unfold TL.rd
   dsimp only
   cases yg ((d.drop i).take (gN (c.ov ov) (d.length-i)))<;>exact ⟨_,rfl⟩
  | _=>exact .inr ⟨_,rfl⟩
 | dig t c=>
  cases e
  intro x hx
  refine rW (List.mem_singleton.mp hx) ?_
  unfold DL.rd
  split<;>exact .inr ⟨_,rfl⟩
 | fS c=>
  simp only [PI.rd] at e
  split at e
  ·cases e
  ·cases e;exact λξ h=>nomatch h
theorem tJ {f:Nat->Option (List V×Nat)}(hf:∀i r,f i=some r->rm r.1)(s:Bool)(len:Nat):∀k i r,qt f s len k i=some r->rm r.1
 | 0,i,r,e=>by cases e;exact λξ h=>nomatch h
 | k+1,i,r,e=>by
  rw [qt] at e
  split at e
  ·cases e;exact λξ h=>nomatch h
  ·obtain ⟨p,q,e1,e2,rfl⟩:=dU e
   exact (hf _ _ e1).app (tJ hf s len k _ _ e2)
mutual
theorem LI.dP {d:List Int}:(j:LI)->∀{ov:Option Nat} {i:Nat} {r:List V×Nat},j.rd d ov i=some r->rm r.1
 | .pl _,_,_,_,e=>PI.dP e
 | .aI _ _ l,_,_,_,e=>tJ (f:=λi=>LL.rd d l i) (λξ ξ e=>LL.dP l e) _ _ _ _ _ e
 | .cnt _ _,_,_,_,e=>nomatch e
theorem LL.dP {d:List Int}:(l:LL)->∀{i:Nat} {r:List V×Nat},l.rd d i=some r->rm r.1
 | .nil,_,_,e=>by cases e;exact λξ h=>nomatch h
 | .cons j l,_,_,e=>by
  obtain ⟨p,q,e1,e2,rfl⟩:=dU e
  exact (LI.dP j e1).app (LL.dP l e2)
end
theorem tG {d:List Int}{l:LL}{vs:List V}(e:uF d l=some vs):rm vs:=by
 have k:∀{o:Option (List V×Nat)},(∀r,o=some r->rm r.1)->o.map (·.1)=some vs->rm vs:=λ{o} h e=>by
  obtain ⟨r,e1,rfl⟩:=Option.map_eq_some_iff.mp e
  exact h r e1
 cases l with
 | nil=>clear k;cases e;exact λξ h=>nomatch h
 | cons j r=>
  cases j with
  | pl p=>exact k (λξ=>LL.dP _) e
  | aI o c l=>exact k (λξ=>LL.dP _) e
  | cnt t j=>
   have e:(if _ then _ else if _ then _ else _)=some vs:=e
   split at e
   ·clear k;cases e;exact λξ h=>nomatch h
   ·split at e
    ·cases e
    ·exact k (λξ e=>by
      obtain ⟨p,q,e1,e2,rfl⟩:=dU e
      exact (LI.dP j e1).app (LL.dP r e2)) e
section
variable {G:Gc}(X:GX G){n:Nat}{η:Hm}{Q:V->Hm->Prop}{E:Prop}{ρ:Ro}
include X
theorem t7 (q:Q gI η):(wp G (n+2) (.jc (.fn az .n))).1 E η ρ Q:=by
 refine X.lim λx dx hx hd hne=>?_
 have:m7 (.ref x) (upd (upd η dx (.aZ sj ky)) x (.inst az dx)) Q:=by
  refine .inr ⟨_,_,_,_,ag,by exact rW (af (Ne.symm hne)) (rW ag rfl),?_⟩
  rw [bJ (by refine rW (af hne) ?_;exact hx),bJ hd]
  exact q
 exact this
theorem qj {d:List Int}(hdl:d.length<=24)(hd:iY d){l:LL}{text:Str}(hl:l.vB d)(hh:l.ht<=10)
  (hp:∀{η:Hm} {Q:V->Hm->Prop} {E:Prop},Q (.lst l.v) η->ah G (n+50) (.ref aF) [.str text] η Q E) (q:(uF d l=none->∀η',Q .none η')/\∀vs,uF d l=some vs->∀η',Q (.lst vs) η'):
  ah G (n+52) (.ref dm) [.str text, .lst (d.map .int)] η Q E:=by
 refine spec X 86 rfl rfl rfl ?_
 have key:(wp G (n+51) (.jc (.fn az .n))).1 (Q .none nul) η [some (.str text),some (.lst (d.map .int)),some .none,none] λL η3=>ah G (n+51) (.ref bA) [.str text, .str (du d),L] η3 (λW η4=>aQ G (n+51) (ia.sl.tl 2) E η4 [some (.str text),some (.lst (d.map .int)),some W,none] (fin Q))
   (Q .none nul):=by
  refine t7 X (n:=n+49) ?_
  exact kb X (n:=n) hdl hd hl hh hp ⟨λe=>q.1 e _,λvs e η'=>q.2 vs e _⟩
 exact pK (G:=G) (m:=n+51) (i:=3) (ρ:= [some (.str text),some (.lst (d.map .int)),some .none,none]) (Q:=λY η2=>(wp G (n+51) (.jc (.fn az .n))).1 (Q .none nul) η2 [some (.str text),some (.lst (d.map .int)),some .none,none] λL η3=>ah G (n+51) (.ref bA) [.str text,Y,L] η3 (λW η4=>aQ G (n+51) (ia.sl.tl 2) E η4 [some (.str text),some (.lst (d.map .int)),some W,none] (fin Q))
   (Q .none nul)) hd (by exact bt ‹_› (by rfl)) (by refine (?_:3<4);decide) key
end
noncomputable def Ad:List V:= [.tup [.str "", .int 0], .tup [.str "7", .int 7], .tup [.str " -3x", .int (-3)], .tup [.str "abc", .int 0], .tup [.str "f0Zq", .int 0], .tup [.str "1011", .int 1011], .tup [.none, .int 0]]
theorem Ey {k:Int}(h0:0<=k)(h1:k<7):∃v:SV,jo Ad k=some v.pr/\v.ok:=by
 have tx:∀(l:List Nat) (s:Str) (i:Int),ls l=s->i7 l=i->(SV.txt l).pr= .tup [.str s, .int i]:=by rintro l _ _ rfl rfl;rfl
 have:=GO h0 h1
 clear h1 h0;rcases this with rfl|rfl|rfl|rfl|rfl|rfl|rfl
 ·exact ⟨.txt [],by refine rW (tx [] "" 0 (by decide+kernel) (by decide+kernel)) ?_;rfl,by refine (?_:_∈eN);decide+kernel⟩
 ·exact ⟨.txt [55],by refine rW (tx [55] "7" 7 (by decide+kernel) (by decide+kernel)) ?_;rfl,by refine (?_:_∈eN);decide+kernel⟩
 ·exact ⟨.txt [32,45,51,120],by refine rW (tx _ " -3x" (-3) (by decide+kernel) (by decide+kernel)) ?_;rfl,by refine (?_:_∈eN);decide+kernel⟩
 ·exact ⟨.txt [97,98,99],by refine rW (tx _ "abc" 0 (by decide+kernel) (by decide+kernel)) ?_;rfl,by refine (?_:_∈eN);decide+kernel⟩
 ·exact ⟨.txt [102,48,90,113],by refine rW (tx _ "f0Zq" 0 (by decide+kernel) (by decide+kernel)) ?_;rfl,by refine (?_:_∈eN);decide+kernel⟩
 ·exact ⟨.txt [49,48,49,49],by refine rW (tx _ "1011" 1011 (by decide+kernel) (by decide+kernel)) ?_;rfl,by refine (?_:_∈eN);decide+kernel⟩
 ·exact ⟨.au,rfl,trivial⟩
theorem Be {k:Int}(h0:0<=k)(h1:k<3):∃m:Int,jo [V.int 9, .int 70000, .int (2^63)] k=some (.int m)/\0<m/\m<=2^63:=by
 have:=Eh h0 h1
 clear h1 h0;rcases this with rfl|rfl|rfl
 ·exact ⟨_,rfl,by decide,by decide⟩
 ·exact ⟨_,rfl,by decide,by decide⟩
 ·exact ⟨_,rfl,by decide,by decide⟩
section
variable {G:Gc}(X:GX G){n:Nat}{η:Hm}{Q:V->Hm->Prop}{E:Prop}{p st:Addr}
include X
theorem uA (q:Q (.lst Ad) η):ah G (n+1) (.ref dM) [] η Q E:=by
 refine spec X 68 rfl rfl rfl ?_
 exact q
theorem zu {S I T:V}(hne:st≠p){K:Hm->Ro->Prop}:∀(is:List V) (vs:List SV) (y:AO) (B:Nat) (s5 s6 s7 s8 s9 s10 s11 s12 s13 s14 s15 s16:Option V),bK B y->B+is.length*3<=800000->(∀v∈vs,v.ok)->vs.length+is.length<=7->
  (∀(vs':List SV) y' s5 s6 s7 s8 s9 s10 s11 s12 s13 s14 s15 s16,vs'.length<=7->(∀v∈vs',SV.ok v)->K (upd (upd η st (.list (vs'.map SV.pr))) p y') [some S,some (.ref p),some I,some T,some (.ref st),s5,s6,s7,s8,s9,s10,s11,s12,s13,s14,s15,s16])->
  fX (m9 [5] false) (λη ρ K=>aQ G (n+2) (tK.sl.tl 4).hd.body E η ρ K) K Q is (upd (upd η st (.list (vs.map SV.pr))) p y) [some S,some (.ref p),some I,some T,some (.ref st),s5,s6,s7,s8,s9,s10,s11,s12,s13,s14,s15,s16]:=by
 intro is;induction is with
 | nil=>exact λvs y B s5 s6 s7 s8 s9 s10 s11 s12 s13 s14 s15 s16 hy hB hv hl q=>q vs y s5 s6 s7 s8 s9 s10 s11 s12 s13 s14 s15 s16 hl hv
 | cons x is ih=>
  intro vs y B s5 s6 s7 s8 s9 s10 s11 s12 s13 s14 s15 s16 hy hB hv hl q
  rw [List.length_cons] at hl hB
  have go:∀(v:SV) y' B' s6 s7,v.ok->bK B' y'->B'<=B+3->fX (m9 [5] false) (λη ρ K=>aQ G (n+2) (tK.sl.tl 4).hd.body E η ρ K) K Q is (upd (upd (upd η st (.list (vs.map SV.pr))) p y') st (.list (vs.map SV.pr++ [v.pr]))) [some S,some (.ref p),some I,some T,some (.ref st),some x,s6,s7,s8,s9,s10,s11,s12,s13,s14,s15,s16]:=λv y' B' s6 s7 ok hy' hB'=>by
   rw [d0 hne,ak,show vs.map SV.pr++ [v.pr]=(vs++ [v]).map SV.pr by refine rW List.map_append ?_;rfl]
   exact ih (vs++ [v]) y' B' _ _ _ _ _ _ _ _ _ _ _ _ hy' (by exact vp ‹_› (by exact lA hB)) (λw hw=>(List.mem_append.mp hw).elim (hv w) λh=>by refine rW (List.mem_singleton.mp h) ?_;exact ok) (by refine rW List.length_append (rW List.length_singleton ?_);exact lA hl) q
  have at_:∀y',(upd (upd η st (.list (vs.map SV.pr))) p y') st=some (.list (vs.map SV.pr)):=λy'=>by exact rW (af hne) (rW ag rfl)
  have szv:(vs.map SV.pr).length<=sizeLine:=sz (by refine rW (List.length_map ..) ?_;exact lA hl)
  refine aR X hy (by exact lA hB) (by decide) (by decide) λw y1 hw0 hw1 h1=>⟨λz=>?_,λz=>?_⟩
  ·obtain ⟨v,e,ok⟩:=Ey hw0 z
   refine ⟨_,at_ y1,?_⟩
   refine uA X (n:=n+1) ⟨_,e,_,at_ y1,szv,?_⟩
   exact go v y1 (B+1) _ _ ok h1 (by simp+arith)
  ·obtain ⟨m,e,m0,m1⟩:=Be (k:=w-7) (by exact iA (Int.not_lt.mp z)) (by exact iA hw1)
   refine aR X h1 (by exact lA hB) (by decide) (by decide) λk y2 hk0 hk1 h2=>⟨IntMulOk.of_left (by decide),⟨by decide,by decide+kernel⟩,_,e,?_⟩
   have hk:(1-2*k)=1\/(1-2*k)= -1:=(Gi hk0 hk1).imp (by rintro rfl;rfl) (by rintro rfl;rfl)
   refine aR X h2 (by exact lA hB) m0 (by exact Int.lt_of_le_of_lt (by assumption) (by decide)) λr y3 hr0 hr1 h3=>?_
   have hok:(SV.num ((1-2*k)*r)).ok:=by refine (?_:((1-2*k)*r).natAbs<10^30);have a:=Cu (n:=10^30) hr0 (Int.lt_of_lt_of_le hr1 (Int.le_trans m1 (by decide)));exact hk.elim (λh=>by rw [h,Int.one_mul];exact a) λh=>by rw [h,Int.neg_one_mul,Int.natAbs_neg];exact a
   refine ⟨?_,_,at_ y3,_,at_ y3,szv,?_⟩
   ·rcases hk with h|h<;>refine rW h ?_<;>exact IntMulOk.of_left (by decide+kernel)
   ·exact go (.num ((1-2*k)*r)) y3 (B+3) _ _ hok h3 (by exact Nat.le_refl _)
end
theorem zZ (v:SV):il v.v v.v=some true:=by
 cases v with
 | au=>rfl
 | txt l=>exact kH (.inr ⟨_,rfl⟩)
 | num i=>exact kH (.inl ⟨_,rfl⟩)
theorem zv (vs:List SV):jA (vs.map SV.v) (vs.map SV.v)=some true:=by
 unfold jA
 refine rW (if_pos rfl) ?_
 induction vs with
 | nil=>rfl
 | cons x l ih=>refine rW List.map_cons (rW yb (rW (zZ ..) (rW ih ?_)));rfl
theorem uP (l:List Int):jA (l.map V.int) (l.map V.int)=some true:=ku λx hx=>by
 obtain ⟨k,_,rfl⟩:=List.mem_map.mp hx
 exact .inl ⟨k,rfl⟩
noncomputable def SL.fr:SL->SL
 | .jc _ r=>r
 | _=> .n
noncomputable abbrev Ed:SL:=(tK.sl.tl 5).fr
section
variable {G:Gc}(X:GX G){n:Nat}{η:Hm}{Q:V->Hm->Prop}{E:Prop}{p st:Addr}
include X
theorem Bz {s:List Int}(hs:s.length<=63){l:LL}(hl:vw l){pl:PL}(hk:pl.ok)(hit:pl.it=l)(hlen:pl.txt.length<=200000){vs:List SV}(hv:Vals vs)(q:∀η',Q (.bool true) η'){s1 s5 s6 s7 s8 s9 s10 s11 s12 s13 s14 s15 s16:Option V}:
  aQ G (n+52) Ed E η [some (.lst (s.map .int)),s1,some (.lst l.lw),some (.str (ls pl.txt)),some (.lst (vs.map SV.pr)),s5,s6,s7,s8,s9,s10,s11,s12,s13,s14,s15,s16] (fin Q):=by
 have hlv:=hv.l
 obtain ⟨g1,g2,g3,g4⟩:=hl.tg
 refine cm (F:=SV.pr) (g:=SV.v) vs [] (λv ξ Q q=>?_) (by refine (?_:0+_<_);exact vo ‹_› (by rfl)) ?_
 ·dsimp only [kQ,BL,xp,wp,dflt]
  exact vT (v:=v) (η:=η) (P:=λY=>Q Y η) q
 refine rW (List.nil_append ..) ?_
 refine ⟨sz (by refine rW (List.length_map ..) ?_;exact bt ‹_› (by rfl)),?_⟩
 refine t7 X (n:=n+50) (ρ:= []) ?_
 have hp:∀{n:Nat} {η:Hm} {Q:V->Hm->Prop} {E:Prop},Q (.lst l.v) η->ah G (n+50) (.ref aF) [.str (ls pl.txt)] η Q E:=λ{n} {η} {Q} {E} q=>by
  refine vW X hk (by refine rW hit ?_;exact bt ‹_› (by rfl)) ?_ (by exact bt ‹_› (by rfl)) ?_ (by refine rW hit ?_;exact q)
  ·have:=PL.om pl
   rw [hit] at this;exact jG ‹_› (by exact lA g4)
  ·have:=PL.nV pl
   rw [hit] at this;exact jG ‹_› (by exact lA (Nat.mul_le_mul_left 3 g4))
 refine lX X (n:=n+1) hv g2 (by exact j7 ‹_› (by rfl)) (by exact j7 ‹_› (by rfl)) (LL.oct vs l 0) hp λη1=>?_
 refine ⟨sz (by refine rW (List.length_map ..) ?_;exact lA hlv),λa ha=>?_⟩
 have hld:=(xi X hv (EV X hv l g2 (by exact lA g3)) g2 (by exact lA g3))
 have last:∀(η:Hm) (row:List Int),aQ G (n+52) (Ed.tl 6) E η [some (.lst (s.map .int)),s1,some (.lst l.lw),some (.str (ls pl.txt)),some (.lst (vs.map SV.pr)),s5,s6,s7,some (.lst (vs.map SV.v)),some (.lst (vs.map SV.v)),some (.str (du row)),some (.lst (row.map .int)),s12,s13,s14,s15,s16] (fin Q):=λη row=>by
  have hto:iY ((s.take 20).map λx=>x.fmod 256):=λx hx=>by
   obtain ⟨y,_,rfl⟩:=List.mem_map.mp hx
   have:=mx y (show (0:Int)<256 by decide)
   lia
  have htl:((s.take 20).map λx:Int=>x.fmod 256).length<=24:=by refine rW (List.length_map ..) (rW List.length_take ?_);exact Nat.le_trans (Nat.min_le_left _ _) (by decide)
  refine ⟨sz (by refine rW (List.length_map ..) ?_;exact bt ‹_› (by rfl)),?_⟩
  refine rW (show (20:Int)=((20:Nat):Int) from rfl) (rW (iu ..) (rV List.map_take ?_))
  refine cm (F:=V.int) (g:=λx:Int=> .int (x.fmod 256)) (s.take 20) [] (λx ξ Q q=>⟨by decide,q⟩) (by refine rW List.length_take ?_;refine (?_:0+_<_);exact lA (Nat.min_le_left 20 s.length)) ?_
  rw [List.nil_append,show (s.take 20).map (λx:Int=>V.int (x.fmod 256))=((s.take 20).map λx=>x.fmod 256).map V.int by refine rW List.map_map ?_;rfl]
  generalize (s.take 20).map (λx=>x.fmod 256)=d at hto htl
  refine qj X (n:=n) htl hto (hl.vB hto) (by exact lA g4) hp ⟨λe η'=>?_,λv e η'=>?_⟩
  ·refine ah.up (pn X htl hto (hl.vB hto) (n:=0) ⟨λξ k=>?_,λv e2=>(by rw [e] at e2;cases e2)⟩) (by exact lA g4)
   exact q _
  ·refine ah.up (pn X htl hto (hl.vB hto) (n:=0) ⟨λe2=>(by rw [e] at e2;cases e2),λv2 e2 k=>?_⟩) (by exact lA g4)
   obtain rfl:v=v2:=by rw [e] at e2;exact Option.some.inj e2
   exact ⟨true,ku (tG e),q _⟩
 have rest:∀(η:Hm) (row:List Int),iY row->row.length<=100000->aQ G (n+52) (Ed.tl 4) E η [some (.lst (s.map .int)),s1,some (.lst l.lw),some (.str (ls pl.txt)),some (.lst (vs.map SV.pr)),s5,s6,s7,some (.lst (vs.map SV.v)),some (.lst (vs.map SV.v)),some (.str (du row)),some (.lst (row.map .int)),s12,s13,s14,s15,s16] (fin Q):=λη row hrow hlen=>by
  have hcs:(row.map Int.toNat).map (λc:Nat=>V.int c)=row.map V.int:=by
   refine rW List.map_map ?_
   exact List.map_congr_left λx hx=>by have:=hrow x hx;refine (?_:V.int (x.toNat:Int)=_);exact rW (Int.toNat_of_nonneg this.1) rfl
  refine cm (α:=Nat) (F:=λc=> .str ⟨#[c]⟩) (g:=λc=> .int c) (row.map Int.toNat) [] (λc ξ Q q=>⟨c,rfl,q⟩) (by refine rW (List.length_map ..) ?_;refine (?_:0+_<_);exact vo ‹_› (by rfl)) ?_
  refine rW (List.nil_append ..) (rW hcs ?_)
  refine ⟨true,uP row,λξ=>⟨true,zv vs,λξ=>?_,λz=>nomatch z⟩,λz=>nomatch z⟩
  have hto:iY (row.take 24):=λx hx=>hrow x (List.mem_of_mem_take hx)
  have htl:(row.take 24).length<=24:=by refine rW List.length_take ?_;exact Nat.min_le_left _ _
  have szr:(row.map V.int).length<2^20:=by refine rW (List.length_map ..) ?_;exact bt ‹_› (by rfl)
  refine ⟨sz szr,?_⟩
  refine rW (show (24:Int)=((24:Nat):Int) from rfl) (rW (iu ..) (rV List.map_take ?_))
  refine qj X (n:=n) htl hto (hl.vB hto) (by exact lA g4) hp ⟨λe η'=>?_,λv e η'=>?_⟩
  ·refine ⟨sz szr,?_⟩
   refine rW (iu ..) (rV List.map_take ?_)
   refine ah.up (pn X htl hto (hl.vB hto) (n:=0) ⟨λξ k=>?_,λv e2=>(by rw [e] at e2;cases e2)⟩) (by exact lA g4)
   exact last η' row
  ·refine ⟨sz szr,?_⟩
   refine rW (iu ..) (rV List.map_take ?_)
   refine ah.up (pn X htl hto (hl.vB hto) (n:=0) ⟨λe2=>(by rw [e] at e2;cases e2),λv2 e2 k=>?_⟩) (by lia)
   obtain rfl:v=v2:=by rw [e] at e2;exact Option.some.inj e2
   exact ⟨true,ku (tG e),λξ=>last η' row,λz=>nomatch z⟩
 refine ah.up (hld.of (m:=n) (i:=0) (Nat.zero_le _) (by refine rW ag ?_;rfl) ?_) (by exact lA g4)
 have hb:=(LL.b hv l (i:=0) g2 (Nat.zero_le _)).1
 exact rest _ _ (LL.oct vs l 0) (by exact jG ‹_› (by exact lA g3))
theorem Ba {s:List Int}(hs:s.length<=63)(q:∀η',Q (.bool true) η'):ah G (n+53) (.ref mW) [.lst (s.map .int)] η Q E:=by
 refine spec X 87 rfl rfl rfl ?_
 refine A' X (n:=n+51) (λp y hp hy=>?_) (by exact lA hs)
 refine aR X (n:=n+51) hy (by exact Nat.zero_le _) (by decide) (by decide) λk y1 hk0 hk1 h1=>?_
 obtain ⟨k,rfl⟩:=Int.eq_ofNat_of_zero_le hk0
 refine ⟨_,aO (m:=1+k) (by lia),?_⟩
 have hI:CB G 1:=GY X rfl (GZ X)
 rw [show ((List.range (1+k)).map λ(k:Nat)=>V.int k)=V.int 0::((List.range k).map λ(k:Nat)=>V.int (k+1:Nat)) by refine rW (Nat.add_comm ..) (rW List.range_succ_eq_map (rW List.map_cons (rW List.map_map ?_)));rfl]
 refine ⟨by decide,tT rfl (ah.up (vX X (n:=0) hI h1 (by exact Nat.le_add_left _ _) λj y2 hj h2=>?_) (by exact Nat.le_add_left _ _))⟩
 have hln:((List.range k).map λ(k:Nat)=>V.int (k+1:Nat)).length=k:=by simp
 refine mN (P:=IG 1) (R:=λx=>∃m:Nat,x= .int (m+1:Nat)) (D:=24) (pre:= [j.lw none]) (λY y B Q hY hy hB q=>?_) _ .nil y2 (0+1+60) (λx hx=>?_) trivial h2 (by refine rW hln ?_;lia) (by refine rW hln ?_;refine (?_:1+0+k<1000);lia) λr y3 hr hn h3=>?_
 ·obtain ⟨m,rfl⟩:=hY
  exact tF (by lia) (ah.up (hI.of (n:=0) hy hB q) (by exact Nat.le_add_left _ _))
 ·obtain ⟨m,_,rfl⟩:=List.mem_map.mp hx
  exact ⟨m,rfl⟩
 have hT:vw (.cons j r):=⟨j,r,rfl,hj,hr,by have:r.n=0+_:=hn;rw [hln] at this;lia⟩
 obtain ⟨g1,g2,g3,g4⟩:=hT.tg
 refine ah.up (yH X (n:=0) (l:= .cons j r) g1 (by exact j7 ‹_› (by rfl)) (by exact j7 ‹_› (by rfl)) h3 (by refine rW hln ?_;lia) λpl y4 k1 k2 k3 h4=>?_) (by simp+arith only)
 intro st hst
 obtain ⟨hne,hst2⟩:=cw hst
 refine rW (d0 hne) ?_
 refine aR X (n:=n+51) h4 (by refine rW hln ?_;lia) (by decide) (by decide) λk8 y5 hk0 hk1 h5=>?_
 obtain ⟨k8,rfl⟩:=Int.eq_ofNat_of_zero_le hk0
 refine ⟨_,aO (m:=k8) (by lia),?_⟩
 have hl8:((List.range k8).map λ(k:Nat)=>V.int k).length=k8:=by simp
 refine zu X (n:=n+50) hne _ [] y5 _ _ _ _ _ _ _ _ _ _ _ _ _ h5 (by refine rW hln (rW hl8 ?_);lia) (λv hv=>nomatch hv) (by refine rW hl8 ?_;refine (?_:0+k8<=7);lia) λvs y6 s5 s6 s7 s8 s9 s10 s11 s12 s13 s14 s15 s16 hl hv=>?_
 have:m7 (.ref st) (upd (upd η st (.list (vs.map SV.pr))) p y6) λY η1=>aQ G (n+52) Ed E η1 [some (.lst (s.map .int)),some (.ref p),some (.lst (LL.cons j r).lw),some (.str (ls pl.txt)),some Y,s5,s6,s7,s8,s9,s10,s11,s12,s13,s14,s15,s16] (fin Q):=
  .inl ⟨_,by exact rW (af hne) (rW ag rfl),Bz X hs hT k1 k2 k3 ⟨hl,hv⟩ q⟩
 exact this
end
theorem xG {f g:Str->Option (Str×Value)}:∀{l:List Str},(∀n∈l,f n=g n)->l.filterMap f=l.filterMap g:=by
 intro L_
 induction L_ with
 | nil=>
  intro _
  exact rfl
 | cons x l ih=>
  intro h
  exact rW List.filterMap_cons (rW List.filterMap_cons (rW (h x List.mem_cons_self) (rW (ih λn hn=>h n (List.mem_cons_of_mem _ hn)) rfl)))
theorem pW:∀{ps:List Str} {vals:List Value},ps.Nodup->vals.length=ps.length->(∀n∈ps,((ps.zip vals).lookup n).isSome=true)/\ps.filterMap (λn=>((ps.zip vals).lookup n).map (n,·))=ps.zip vals
 | [],vals,_,_=>⟨λξ h=>(nomatch h),by simp⟩
 | p::ps,[],_,h=>by simp at h
 | p::ps,v::vals,nd,h=>by
  rw [List.nodup_cons] at nd
  obtain ⟨i1,i2⟩:=pW nd.2 (by simpa using h)
  have ne:∀n∈ps,(n==p)=false:=λn hn=>by
   rw [beq_eq_false_iff_ne];rintro rfl;exact nd.1 hn
  refine ⟨λn hn=>?_,?_⟩
  ·refine rW List.zip_cons_cons (rW List.lookup_cons ?_)
   clear h nd;rcases List.mem_cons.mp hn with rfl|hn
   ·refine rW (beq_self_eq_true ..) ?_;rfl
   ·refine rW (ne n hn) ?_;exact i1 n hn
  ·refine rW List.zip_cons_cons (rW List.filterMap_cons (rW List.lookup_cons (rW (beq_self_eq_true ..) ?_)))
   refine (?_:(p,v)::_=_)
   have:ps.filterMap (λn=>(((p,v)::ps.zip vals).lookup n).map (n,·))=ps.zip vals:=(xG λn hn=>by exact rW List.lookup_cons (rW (ne n hn) rfl)).trans i2
   exact rW this rfl
theorem mT {fd:FuncData}{ps:List Str}{vals:List Value}(h1:fd.params.posonlyargs= [])(h2:fd.params.args.map (·.arg)=ps)(h3:fd.params.kwonlyargs= [])(h4:fd.params.vararg=none)(h5:fd.params.kwarg=none)(h6:fd.defaults= .none)
  (nd:ps.Nodup) (hl:vals.length=ps.length):bindArgs fd ⟨vals,[]⟩=pure (ps.zip vals):=by
 obtain ⟨z1,z2⟩:=pW nd hl
 have e:(ps.filter λn=>((ps.zip vals).lookup n).isNone)= []:=List.filter_eq_nil_iff.mpr λn hn=>by
  have:=z1 n hn
  rw [Option.isNone_iff_eq_none]
  intro q;rw [q] at this;cases this
 have hs:seqItems? Value.none=pure none:=rfl
 unfold bindArgs
 simp only [h1,h2,h3,h4,h5,h6,hs,List.map_nil,List.nil_append,List.forIn_nil,pure_bind,Option.getD_none,List.append_nil,hl,Nat.lt_irrefl,List.length_nil,Nat.sub_zero,List.drop_nil,List.take_length,e,List.zip_nil_right,List.isEmpty_nil,Bool.not_true,Bool.false_eq_true,if_false,gt_iff_lt,Nat.zero_sub,List.drop_length,Option.isNone_none,decide_false,Bool.false_and,z2]
section
open PySem.Builtin PySem.Builtin.ObjectAttr
theorem rO (self:Value)(C D:Addr):refuseLoop self "__setattr__" (uN C D)=pure ():=by
 unfold uN;refine rW (refuseLoop_ref ..) (rW (refuseLoop_ref ..) ?_);kernel_rfl
section
variable {G:Gc}{A:Around}{η:Hm}{E:Prop}{Z:Heap}{s:Shared}{fs:List Fm}{n:Nat}
theorem tN {prog:Program}{w:World}{R:Result->Shared->Prop}{K:Frag}{C D x:Addr}{ox:Obj}{od:Option Obj}{name:Str}{tk:Tok}{v:Value}{cd:ClassData}(X:K.In s.heap)(I:InstAt s.heap x ox C od)(hc:clsIn K C=some cd)(hm:cd.mro=uN C D)
  (ha:findIn K (.ref C) name=some none)
  (h:wpAny (model prog w) A.in1 (storeInOwnDict (.ref x) (.ref C) (.str name tk) name v false)
   (λfin s'=>match fin with| .done f=>R (.ok f) s'| .again c'=>c'.quiet=true/\codeAny (model prog w) A c' R s') (λe s'=>R (.error e) s') s):
  codeAny (model prog w) A (.call (.builtin "object.__setattr__") ⟨[.ref x, .str name tk,v],[]⟩) R s:=by
 have SF:=PySem.F.store_object
 have sub:Looks (model prog w) s.heap (isInstance (.ref x) (.type "object")) true:=I.type.andThen (looks_mroIn X (by unfold mroIn;refine rW hc (rW (Option.bind_some ..) (rW hm ?_));rfl))
 refine codeAny_call_builtin SF.slot.plain SF.entry (@check_slot (model prog w) _ _ s "object.__setattr__" "object" "__setattr__" (.ref x) [.str name tk,v] [] _ SF.kind SF.split sub (SF.args (.ref x) (.str name tk) v) ?_)
 have lm:Looks (model prog w) s.heap (mroOf (.ref C)) (uN C D):=hm▸(looks_clsIn X hc).andThen .now
 refine rW (osa_eq ..) (rW (refuse_eq ..) ?_)
 refine wpAny_bind (wpAny_bind (I.type.here (wpAny_bind (lm.here ?_))))
 refine rW (rO ..) ?_
 exact wpAny_pure (wpAny_bind (I.type.here (wpAny_bind ((looks_findIn X ha).here (wpAny_bind (wpAny_pure h))))))
structure FU (K:Frag)(C D:Addr):Prop where
 cls:∃cd,clsIn K C=some cd/\cd.mro=uN C D/\cd.hasDict=true
 sa:findIn K (.ref C) "__setattr__"=some (some (.builtin "object.__setattr__"))
theorem Ej {P:Params}{x:Str}{Y:V}{y:Value}{h:Int}{t:Tok}(ry:Rel P Z Y y):KeysAre [⟨h, .str x t,y⟩] [x]/\ar P Z [Y] [y]:=⟨⟨⟨t,rfl⟩,trivial⟩,ar.one ry⟩
theorem C5 {dx:Addr}{ks:List Str}{vs:List V}{x:Str}{Y:V}{y:Value}{R:Fin->Shared->Prop}{E':Value->Shared->Prop}(S:Sx G Z η fs s)(e:η dx=some (.aZ ks vs))(hk:ks.length<=100)(ry:Rel G.w.params Z Y y)
  (k:∀s',Sx G Z (upd η dx (.aZ (gQ ks vs x Y).1 (gQ ks vs x Y).2)) fs s'->R (.done (.ret .none)) s'):
  wpAny (model G.prog G.w) A (nsSet dx x y) (λξ s'=>wpAny (model G.prog G.w) A (do lookBehind dx (some (.str x 0));ret .none) R E' s') E' s:=by
 obtain ⟨es,n,h4,h5,h6⟩:=(S.st.e _ _ e).2
 obtain ⟨n',hp⟩:=nW x (PyData.keyHash G.w.params x) (.str x (s.toks)) y es n
 obtain ⟨p1,p2⟩:=nX (P:=G.w.params) (x:=x) (h:=PyData.keyHash G.w.params x) (t:=s.toks) ry h5 h6
 have hl:(lq x (PyData.keyHash G.w.params x) (.str x (s.toks)) y es).length<=101:=by
  have:=mr x (PyData.keyHash G.w.params x) (.str x (s.toks)) y es
  have:=my h5
  exact jG ‹_› (by exact lB hk (eL this))
 unfold nsSet
 refine wpAny_bind (wpAny_bind (wpAny_askSetting (wpAny_pure (wpAny_bind (wpAny_mkText (wpAny_bind (wpAny_loadPart h4 ?_)))))))
 have c:aRefKeyMayBeTheName x es.toArray=false:=by
  rw [aRefKeyMayBeTheName_at,show es.toArray.any (·.refKey)=false by refine rW List.any_toArray ?_;exact no_ref h5,Bool.and_false]
 dsimp only [dictOf]
 refine rW c ?_
 have g':(s.heap.update dx (Obj.putName x (PyData.keyHash G.w.params x) (.str x (s.toks)) y)).get? dx=some (dictOf (lq x (PyData.keyHash G.w.params x) (.str x (s.toks)) y es) n'):=by
  refine rV hp ?_;exact Heap.get?_update_self _ h4 (by refine rW hp ?_;rfl)
 refine wpAny_updatePart h4 ?_
 refine wpAny_bind (wpAny_lookBehind g' (pastItsLine_dict (by refine rW List.size_toArray (rW sizeLine_eq ?_);exact j7 ‹_› (by rfl))) ?_)
 have SS:=S.st.set (x':= .aZ (gQ ks vs x Y).1 (gQ ks vs x Y).2) e (λb o hb e=>(Heap.get?_update_other _ _ (Ne.symm hb)).trans e) ⟨_,_,g',p1,p2⟩
 exact wpAny_pure (k _ (S.move SS))
theorem yZ {C D a:Addr}{x:Str}{Y:V}{y:Value}{R:Unit->Shared->Prop}{E':Value->Shared->Prop}(K:FU G.K C D)(S:Sx G Z η fs s)(e1:η a=some (.exc C none))(ry:Rel G.w.params Z Y y)(ha:findIn G.K (.ref C) x=some none)
  (k:∀dx s',dx≠a->Sx G Z (upd (upd η dx (.aZ [x] [Y])) a (.exc C (some dx))) fs s'->R () s'):wpAny (model G.prog G.w) A (setAttr (.ref a) x y) R E' s:=by
 obtain ⟨cd,hc,hm,hd'⟩:=K.cls
 have I0:∃ox od,InstAt s.heap a ox C od:=by
  obtain ⟨ox,vs,a0,ho,h1,h2,h3,_⟩:=(S.st.e _ _ e1).2
  exact ⟨ox,none,ho,h1,by simp [notCls,h3],by refine rW h2 ?_;trivial⟩
 obtain ⟨_,_,I0⟩:=I0
 refine set_plain (S.bs.k.keeps S.st.z) I0 K.sa ?_
 have S1:=S.tok (s.toks+1)
 generalize s.toks=tk0 at S1 ⊢
 generalize ({s with toks:=tk0+1}:Shared)=s1 at S1 ⊢
 clear S I0
 obtain ⟨ze,⟨oc,odi,oda,osl⟩,vs,a0,ho,h1,h2,h3,h4,h5⟩:=S1.st.e _ _ e1
 dsimp only at h1 h2 h3
 subst h1 h2 h3
 have X:=S1.bs.k.keeps S1.st.z
 have I:InstAt s1.heap a ⟨.ref C,none, .fields vs,osl⟩ C none:=⟨ho,rfl,rfl,trivial⟩
 refine tN X I hc hm ha ?_
 obtain ⟨h,g,d,t,os⟩:=s1
 dsimp only at ho S1
 have hne:h.objs.size≠a:=λq=>absurd (Heap.lt_size ho) (by refine rW q ?_;exact Nat.lt_irrefl _)
 have k1:h.StaysIn (h.push ⟨.type "dict",none, .dict #[] 0, #[]⟩):=aW h _
 have S2:=S1.st.new k1 (Nat.le_refl _) (x':= .aZ [] []) ⟨[],0,Heap.get?_push_size _ rfl,trivial,rfl⟩
 have ho2:=k1 _ _ ho
 have e2:upd η h.objs.size (.aZ [] []) a=some (.exc C none):=(if_neg hne.symm).trans e1
 have S3:=S2.set (h':=(h.push ⟨.type "dict",none, .dict #[] 0, #[]⟩).update a λo=>{o with dict:=some h.objs.size}) (x':= .exc C (some h.objs.size)) e2 (λb o hb e=>(Heap.get?_update_other _ _ (Ne.symm hb)).trans e)
  ⟨_,vs,a0,Heap.get?_update_self _ ho2 rfl,rfl,rfl,rfl,h4,h5⟩
 have e3:upd (upd η h.objs.size (.aZ [] [])) a (.exc C (some h.objs.size)) h.objs.size=some (.aZ [] []):=(if_neg hne).trans (if_pos rfl)
 have hk3:G.K.In h:=X
 refine wpAny_bind (wpAny_pure (wpAny_bind (wpAny_bind (wpAny_loadPart ho (wpAny_bind ((looks_clsIn X hc).here ?_))))))
 refine rW hd' ?_
 refine wpAny_bind (wpAny_alloc (wpAny_bind (wpAny_update (s:=⟨_,g,d,t,os⟩) ho2 (wpAny_pure (wpAny_bind (wpAny_pure (wpAny_bind ?_)))))))
 refine C5 (A:=A.in1) (fs:=fs) (S1.move (t:=t) S3) e3 (Nat.zero_le _) ry λs' S'=>k h.objs.size s' hne ?_
 rw [show upd (upd (upd η h.objs.size (.aZ [] [])) a (.exc C (some h.objs.size))) h.objs.size (.aZ (gQ [] [] x Y).1 (gQ [] [] x Y).2)=upd (upd η h.objs.size (.aZ [x] [Y])) a (.exc C (some h.objs.size)) from ?_] at S'
 ·exact S'
 ·funext b
  unfold upd
  by_cases q:b=h.objs.size
  ·subst q;refine rW (if_pos rfl) (rW (if_neg hne) (rW (if_pos rfl) ?_));rfl
  ·exact rW (if_neg q) (rW (if_neg q) (rW (if_neg q) rfl))
theorem yY {C D a dx:Addr}{ks:List Str}{vs:List V}{x:Str}{Y:V}{y:Value}{R:Unit->Shared->Prop}{E':Value->Shared->Prop}(K:FU G.K C D)(S:Sx G Z η fs s)(e1:η a=some (.exc C (some dx)))(e2:η dx=some (.aZ ks vs))(hk:ks.length<=100)
  (ry:Rel G.w.params Z Y y) (ha:findIn G.K (.ref C) x=some none) (k:∀s',Sx G Z (upd η dx (.aZ (gQ ks vs x Y).1 (gQ ks vs x Y).2)) fs s'->R () s'):wpAny (model G.prog G.w) A (setAttr (.ref a) x y) R E' s:=by
 obtain ⟨cd,hc,hm,hd'⟩:=K.cls
 have I0:∀{s},Sx G Z η fs s->∃ox od,InstAt s.heap a ox C od/\ox.dict=some dx:=λS=>by
  obtain ⟨ox,vs,a0,ho,h1,h2,h3,_⟩:=(S.st.e _ _ e1).2
  obtain ⟨es,n,h4,_⟩:=(S.st.e _ _ e2).2
  exact ⟨ox,some (dictOf es n),⟨ho,h1,by simp [notCls,h3],by refine rW h2 ?_;exact h4⟩,h2⟩
 obtain ⟨_,_,I,_⟩:=I0 S
 refine set_plain (S.bs.k.keeps S.st.z) I K.sa ?_
 have S1:=S.tok (s.toks+1)
 generalize s.toks=tk0 at S1 ⊢
 generalize ({s with toks:=tk0+1}:Shared)=s1 at S1 ⊢
 clear S I
 obtain ⟨⟨oc,odi,oda,osl⟩,_,I,h2⟩:=I0 S1
 have h1:=I.cls
 dsimp only at h1 h2
 subst h1 h2
 have X:=S1.bs.k.keeps S1.st.z
 refine tN X I hc hm ha ?_
 refine wpAny_bind (wpAny_pure (wpAny_bind (wpAny_bind (wpAny_loadPart I.at_ (wpAny_bind ((looks_clsIn X hc).here ?_))))))
 refine rW hd' ?_
 exact wpAny_pure (a:=some dx) (wpAny_bind (wpAny_pure (wpAny_bind (C5 (A:=A.in1) S1 e2 hk ry λs' S'=>k s' S'))))
end
end
section
open PySem.Builtin PySem.Builtin.ObjectAttr
noncomputable abbrev sy (C:Addr)(t:Addr):Obj:={cls:= .ref C,data:= .fields #[.ref t, .none, .none, .none, .bool false, .none]}
inductive FX (K:Frag)(C D:Addr):Prop
 | mk (nm q:Str) (N:Addr) (bs:List Value) (hd:Bool) (sn:List Str) (sub:List Value) (ab:Bool) (col:Option Bool) (dd:Option Addr) (k0 k1 k2 k3 k5:Option Value)
  (h:K.lookup C=some (excClassObj nm q C N bs (.ref D::pG) hd sn sub ab col dd k0 k1 k2 k3 k5 "Exception.__new__"))
structure sZ (K:Frag)(C D fI fP:Addr):Prop where
 obj:FX K C D
 keep:keepIn K (.ref C)=true
 ex:FU K C D
 init:findIn K (.ref C) "__init__"=some (some (.ref fI))
 G8:typeIn K (.ref fI)=some (.type "function")
 text:findIn K (.ref C) "text"=some none
 value:findIn K (.ref C) "value"=some none
 spec:specialIn K (.ref D) "__getattribute__"=some (some (.builtin "type.__getattribute__"))
 reads:readsIn K D (.type "type")=true
 cls:findCls K (.ref D) (.type "type") "__init__"=some (.val (.ref fP))
 Dw:keepIn K (.ref fP)=true
section
variable {prog:Program}{w:World}{A:Around}{E:Value->Shared->Prop}{K:Frag}{C D fI fP:Addr}
theorem Fv (x:String):(Value.ref C:: .ref D::pG).contains (.type x)=pG.contains (.type x):=rfl
theorem xI {s:Shared}{e:Addr}{oe:Obj}{v:Value}{Q:Value->Shared->Prop}(H:sZ K C D fI fP)(X:K.In s.heap)(he:s.heap.get? e=some oe)(hcls:oe.cls= .ref C){vs:Array Value}{a0:Value}(hd':oe.data= .fields vs)(h0:vs[0]?=some a0)
  (hq:Q .none {s with heap:=(s.heap.push {cls:= .type "tuple",data:= .seq #[v]}).update e (Obj.mapFields (·.setIfInBounds 0 (.ref s.heap.objs.size)))}):
  wpAny (model prog w) A (call (.builtin "Exception.__init__") [.ref e,v]) Q E s:=by
 obtain ⟨nm,q,N,bs,hd,sn,sub,ab,col,dd,k0,k1,k2,k3,k5,hk⟩:=H.obj
 have hC:=X _ _ hk
 have F:=PySem.F.excBase_Exception
 have hcB:(Value.ref C:: .ref D::pG).contains (.type "Exception")=true:=rfl
 have hshort:=F.noStar
 obtain ⟨h,g,d,t,os⟩:=s
 dsimp only at hC he hq
 refine wpAny_call (codeAny_call_builtin F.init.plain F.initEntry ?_)
 have hlen: [v].length<=sizeLine:=by refine rW sizeLine_eq ?_;refine (?_:1<=16777216);decide
 have k1:h.StaysIn (h.push {cls:= .type "tuple",data:= .seq #[v]}):=aW h _
 simp only [checkBuiltinCall,F.initKind,F.initSplit,F.initRow]
 repeat (first|(with_reducible refine wpAny_loadPart_at he ?_;refine rW hcls ?_)|with_reducible refine wpAny_loadPart_at hC ?_|(with_reducible refine wpAny_isSubtype_exc hC ?_;refine rW hcB ?_)|wp_step)
 refine rW hd' ?_
 refine wpAny_pure ?_
 refine rW h0 ?_
 refine wpAny_pure (wpAny_bind (wpAny_setField (s:=⟨_,g,d,t,os⟩) (k1 _ _ he) hd' (Array.getElem?_eq_some_iff.mp h0).1 ?_))
 clear h0;cases a0<;>first|exact wpAny_letGo (wpAny_pure hq)|exact wpAny_pure (wpAny_pure hq)
theorem zP {h:Heap}{g:Array GenState}{d:Drawn}{t:Nat}{os:OsState}{v:Value}{R:Result->Shared->Prop}(H:sZ K C D fI fP)(X:K.In h)
  (hq:R (.ok (.ret (.ref (h.objs.size+1)))) ⟨(h.push {cls:= .type "tuple",data:= .seq #[v]}).push (sy C h.objs.size),g,d,t,os⟩):
  codeAny (model prog w) A (.builtin "Exception.__new__" ⟨[.ref C,v],[]⟩) R ⟨h,g,d,t,os⟩:=by
 obtain ⟨nm,q,N,bs,hd,sn,sub,ab,col,dd,k0,k1,k2,k3,k5,hk⟩:=H.obj
 have hC:=X _ _ hk
 have F:=PySem.F.excBase_Exception
 have hends:=F.ends
 have hcB:(Value.ref C:: .ref D::pG).contains (.type "Exception")=true:=rfl
 have hcA:(Value.ref C:: .ref D::pG).contains (.type "AttributeError")=false:=rfl
 have hcN:(Value.ref C:: .ref D::pG).contains (.type "NameError")=false:=rfl
 have hrest: [v].length<=sizeLine:=by refine rW sizeLine_eq ?_;refine (?_:1<=16777216);decide
 refine codeAny_builtinAt F.entry ?_
 unfold Builtin.«BaseException.__new__»
 refine PySem.wpAt_bind ?_
 refine (?_:PySem.wpAt _ _ _ (stack>>=_) _ _ _)
 refine PySem.wpAt_bind (PySem.wpAt_stack λp below=>PySem.wpAt_of_wpAny ?_)
 wp_walk
 refine PySem.wpAt_of_wpAny ?_
 refine rW F.owner ?_
 repeat (first|with_reducible refine wpAny_madeHere_exc F.canon hC ?_|with_reducible refine wpAny_loadPart_at hC ?_|(with_reducible refine wpAny_isSubtype_exc hC ?_;first|rw [hcB]|rw [hcA]|refine rW hcN ?_)|wp_step)
 refine (?_:R _ _)
 refine rW (Heap.size_push ..) ?_
 exact hq
set_option maxHeartbeats 2000000 in
theorem xJ {s:Shared}{v:Value}{Q:Value->Shared->Prop}(H:sZ K C D fI fP)(X:K.In s.heap)
  (hq:wpAny (model prog w) (A.under (.builtin "type.__call__" ⟨[.ref C,v],[]⟩)) (call (.ref fI) [.ref (s.heap.objs.size+1),v]) (λr s'=>r= .none/\Q (.ref (s.heap.objs.size+1)) s') E
   {s with heap:=(s.heap.push {cls:= .type "tuple",data:= .seq #[v]}).push (sy C s.heap.objs.size)}):
  wpAny (model prog w) A (call (.ref C) [v]) Q E s:=by
 obtain ⟨nm,q,N,bs,hd,sn,sub,ab,col,dd,q0,q1,q2,q3,q5,hk⟩:=H.obj
 have hC:=X _ _ hk
 have F:=PySem.F.excBase_Exception
 obtain ⟨h,g,d,t,os⟩:=s
 dsimp only at hC X hq
 have f1:=tc_lookup
 have f2:=tc_bind (.ref C)
 have hT:(⟨h,g,d,t,os⟩:Shared).TypeIs (.ref C) "type":=⟨_,hC,rfl⟩
 have hrest: [v].length<=sizeLine:=by refine rW sizeLine_eq ?_;refine (?_:1<=16777216);decide
 refine wpAny_call (codeAny_of_tree ?_)
 refine (?_:wpAny _ _ (callAny (.ref C) _) _ _ _)
 repeat (any_goals (first|assumption|with_reducible refine wpAny_loadPart_at hC ?_|wp_step))
 refine ⟨rfl,?_⟩
 refine codeAny_call_builtin_at (Code.quiet_builtin _ (by decide+kernel)) entry_typeCall (wpAny_check_type_call_sub hC ?_)
 repeat (first|with_reducible refine wpAny_loadPart_at hC ?_|with_reducible refine wpAny_madeBy_exc hC ?_|wp_step)
 have hcont:(Value.ref C:: .ref D::pG).contains (.type "Exception")=true:=rfl
 have hstar:=F.noStar
 refine codeAny_call_builtin_code (Code.quiet_builtin _ F.quiet) ?_
 ·simp only [checkBuiltinCall,F.newKind,F.newSplit,F.newRow]
  repeat (first|refine wpAny_loadPart_at hC ?_|(refine wpAny_isSubtype_exc hC ?_;refine rW hcont ?_)|refine wpAny_staticBase_exc hC ?_|refine wpAny_madeBy_exc hC ?_|simp only [bne_self_eq_false,Bool.false_eq_true,if_false]|wp_step)
  refine zP H X ?_
  refine (?_:wpAny _ _ _ _ _ _)
  have k1:h.StaysIn (h.push {cls:= .type "tuple",data:= .seq #[v]}):=aW h _
  have k2:=aW (h.push {cls:= .type "tuple",data:= .seq #[v]}) (sy C h.objs.size)
  have X2:K.In _:=(X.keeps k1).keeps k2
  have hC2:=k2 _ _ (k1 _ _ hC)
  have sz:(h.push {cls:= .type "tuple",data:= .seq #[v]}).objs.size=h.objs.size+1:=Heap.size_push _ _
  have hget:((h.push {cls:= .type "tuple",data:= .seq #[v]}).push (sy C h.objs.size)).get? (h.objs.size+1)=some (sy C h.objs.size):=by
   refine rV sz ?_;exact Heap.get?_push_size _ rfl
  have hcC:(Value.ref C:: .ref D::pG).contains (.ref C)=true:=by refine rW List.contains_cons (rW (beq_self_eq_true ..) ?_);rfl
  unfold isInstance
  repeat (first|with_reducible refine wpAny_loadPart_at hget ?_|(with_reducible refine wpAny_isSubtype_exc hC2 ?_;refine rW hcC ?_)|wp_step)
  refine (looks_findIn X2 H.init).here ?_
  refine wpAny_holding (wpAny_bind ?_)
  refine (bind_fn X2 _ H.G8).here ?_
  refine wpAny_bind ?_
  refine wpAny_mono hq (λr s' hr=>?_) λξ ξ x=>x
  obtain ⟨rfl,hQ⟩:=hr
  wp_walk
  exact hQ
end
end
section
open PySem.Builtin PySem.Builtin.ObjectAttr
noncomputable def Dm (y:Str)(a1:PySem.Expr->PySem.Expr)(fld v:Str)(ts:List Stmt):List Stmt:=
 [.Expr (.Call (.Attribute (.Name y (kA (kA (sV (j9 ts)))).pos) "__init__" (kA (sV (j9 ts))).pos) [.Name "self" (gp (kL (sV (j9 ts)))).pos,a1 (gp (kL (sV (j9 ts))).tail)] [] (sV (j9 ts)).pos) (sP (j9 ts)),
  .Assign [.Attribute (.Name "self" (kA (sT (j9 ts.tail))).pos) fld (sT (j9 ts.tail)).pos] (.Name v (sV (j9 ts.tail)).pos) (sP (j9 ts.tail))]
noncomputable def Dj (y:Str)(sc:Scope)(ts:List Stmt):Bool:=iF sc y&&((kA (sV (j9 ts))).pos.endLine==(sV (j9 ts)).pos.line)
section
variable {G:Gc}{A:Around}{η:Hm}{E:Prop}{Z:Heap}{s:Shared}{fs:List Fm}{n:Nat}
theorem yX {C D fI fP e:Addr}{d:Option Addr}{v:Value}{Q:Value->Shared->Prop}{E':Value->Shared->Prop}(H:sZ G.K C D fI fP)(S:Sx G Z η fs s)(e1:η e=some (.exc C d))(k:∀s',Sx G Z η fs s'->Q .none s'):
  wpAny (model G.prog G.w) A (call (.builtin "Exception.__init__") [.ref e,v]) Q E' s:=by
 obtain ⟨o,vs,a0,ho,h1,h2,h3,h4,h5⟩:=(S.st.e _ _ e1).2
 refine xI H (S.bs.k.keeps S.st.z) ho h1 h3 h4 (k _ ?_)
 have k1:s.heap.StaysIn (s.heap.push {cls:= .type "tuple",data:= .seq #[v]}):=aW _ _
 have ho2:=k1 _ _ ho
 have S2:=(S.st.keep k1).set (h':=(s.heap.push {cls:= .type "tuple",data:= .seq #[v]}).update e (Obj.mapFields (·.setIfInBounds 0 (.ref s.heap.objs.size)))) (x':= .exc C d) e1 (λb o hb e=>(Heap.get?_update_other _ _ (Ne.symm hb)).trans e)
  ⟨_,_, .ref s.heap.objs.size,Heap.get?_update_self _ ho2 (Obj.isFreed_of_fields (Obj.data_mapFields h3 _)),?_,?_,Obj.data_mapFields h3 _,?_,?_⟩
 ·have:upd η e (.exc C d)=η:=by
   funext b;unfold upd
   by_cases q:b=e
   ·exact rW (if_pos q) (rW q (rW e1 rfl))
   ·exact rW (if_neg q) rfl
  rw [this] at S2
  exact S.move (t:=s.toks) S2
 ·obtain ⟨c,dd,dt,sl⟩:=o;dsimp only at h3;subst h3;exact h1
 ·obtain ⟨c,dd,dt,sl⟩:=o;dsimp only at h3;subst h3;exact h2
 ·exact rW (Array.getElem?_setIfInBounds_self_of_lt (Array.getElem?_eq_some_iff.mp h4).1) rfl
 ·refine rW (Array.getElem?_setIfInBounds_ne (by decide)) ?_;exact h5
theorem Eu {f:Fm}{r:List Fm}{y x:Str}{cv fv:Value}{p apos pos:Pos}{ps:List (WX×WC)}{es:List PySem.Expr}{Q0:List V->Hm->Prop}{Q:V->Hm->Prop}(hy:iF f.env.scope y=true)(hg:G.gt.lookup y=some (.con cv))(hl:decide (es.length<20)=true)
  (hp:(apos.endLine==pos.line)=true) (hm:∀{A:Around} {s:Shared} {pl:Sem Bool} {R:Value×List Value->Shared->Prop} {E':Value->Shared->Prop},G.K.In s.heap->R (fv,[]) {s with toks:=s.toks+1}->wpAny (model G.prog G.w) A (getMethod cv x pl) R E' s)
  (hk:(∃id,fv= .builtin id)\/(∃T,fv= .type T)\/∃a,fv= .ref a/\keepIn G.K (.ref a)=true) (hs:j8 G n ps es f r A) (hq:ki ps E η f.ρ Q0)
  (hQ:∀l η',Q0 l η'->∀Z' s' vals,Sx G Z' η' (f::r) s'->ar G.w.params Z' l vals->wpAny (model G.prog G.w) A (call fv vals) (PV G Z' (f::r) Q) (PX G Z' (f::r) E) s'):
  WV G A (f::r) (eval (.Call (.Attribute (.Name y p) x apos) es [] pos) f.env) η Q E:=λZ s S=>by
 obtain ⟨k1,k2⟩:=j4 hy
 refine MethodCall_ ?_ (kr rfl hl hp (fH hs))
 refine xC S hg k1 k2 λv rv=>?_
 clear hg;obtain rfl:=o9 rv
 exact hm (S.bs.k.keeps S.st.z) (jP (X0:= []) hs (S.tok _) hk rfl hq λl η' q Z' s' vals S' rl=>hQ l η' q Z' s' vals S' (by simpa using rl))
theorem uV {f:Fm}{r:List Fm}{y fld v:Str}{a1:PySem.Expr->PySem.Expr}{cv fv:Value}{ts:List Stmt}{e:Addr}{Y X1:V}{pe:WX×WC}{Q:V->Hm->Prop}{P:Hm->Prop}(hk:f.env.scope.kind= .function)(hy:Dj y f.env.scope ts=true)(hg:G.gt.lookup y=some (.con cv))
  (hm:∀{A:Around} {s:Shared} {pl:Sem Bool} {R:Value×List Value->Shared->Prop} {E':Value->Shared->Prop},G.K.In s.heap->R (fv,[]) {s with toks:=s.toks+1}->wpAny (model G.prog G.w) A (getMethod cv "__init__" pl) R E' s)
  (hfv:(∃id,fv= .builtin id)\/(∃T,fv= .type T)\/∃a,fv= .ref a/\keepIn G.K (.ref a)=true)
  (v0:(0,("self":Str))∈f.vars) (v1:(1,v)∈f.vars) (r0:f.ρ[0]?=some (some (.ref e))) (r1:f.ρ[1]?=some (some Y)) (hv:(v==("__debug__":Str))=false)
  (h1:noStar (a1 (gp (kL (sV (j9 ts))).tail))=true) (h2:ip G n pe (a1 (gp (kL (sV (j9 ts))).tail)) f r A) (hpe:∀Q,Q X1 η->pe.1 False η f.ρ Q)
  (hc:∀{Z s v1},Sx G Z η (f::r) s->Rel G.w.params Z X1 v1->wpAny (model G.prog G.w) A (call fv [.ref e,v1]) (PV G Z (f::r) λξ η'=>P η') (PX G Z (f::r) False) s)
  (hw:∀{η1 Z s y},P η1->Sx G Z η1 (f::r) s->Rel G.w.params Z Y y->wpAny (model G.prog G.w) A (setAttr (.ref e) fld y) (λξ s'=>∃η2,Sx G Z η2 (f::r) s'/\Q .none η2) (PX G Z (f::r) False) s):
  WS G A f r (execs (Dm y a1 fld v ts)) η f.ρ ⟨λη ξ=>Q .none η,λξ ξ=>False,λξ ξ=>False,Q⟩ False:=λZ s S=>by
 obtain ⟨hy1,hy2⟩:=a2 hy
 have hdb:(("self":Str)==("__debug__":Str))=false:=by decide
 have hs:j8 G n [dflt λE η ρ Q=>gv ρ 0 λX=>Q X η,pe] [.Name "self" (gp (kL (sV (j9 ts)))).pos,a1 (gp (kL (sV (j9 ts))).tail)] f r A:=
  ⟨rfl,aS rfl λE η Q hq=>by
   obtain ⟨X,hx,hq⟩:=kT hq
   exact pY v0 hx hdb hq,h1,h2,trivial⟩
 have hcall:=Eu (G:=G) (A:=A) (η:=η) (E:=False) (Q0:=λl η'=>l= [.ref e,X1]/\η'=η) (Q:=λξ η'=>P η') (p:=(kA (kA (sV (j9 ts)))).pos) (pos:=(sV (j9 ts)).pos) hy1 hg rfl hy2 hm hfv hs
  (by refine (?_:gv f.ρ 0 _);unfold gv;refine rW r0 ?_;exact hpe _ ⟨rfl,rfl⟩) (λl η' ⟨q1,q2⟩ Z' s' vals S' rl=>by
   clear S hpe;subst q1 q2
   obtain ⟨w0,_,rfl,rw0,w1,_,rfl,rw1,rfl⟩:=rl
   obtain rfl:=fR rw0
   exact hc S' rw1)
 refine wpAny_execs_cons (wpAny_Expr_any (hcall.run S λZ1 η' X u s1 hz1 S1 rx q=>?_) (by unfold interactive;refine rW hk ?_;rfl) (fE rfl))
 refine wpAny_execs_cons (weaken hz1 (R:=λfl s'=>PF G Z1 f r ⟨λη ξ=>Q .none η,λξ ξ=>False,λξ ξ=>False,Q⟩ fl s'/\fl= .next) ?_ λfl s' ⟨x,hx⟩=>?_)
 ·refine plainObj_wpAny_Assign_Attribute ((pY (Q:=λX η'=>X=Y/\η'=_) v1 r1 hv ⟨rfl,rfl⟩).run S1 λZ2 η2 Y' u2 s2 hz2 S2 ry ⟨q1,q2⟩=>weaken hz2 ?_ λξ ξ x=>x) (fE rfl)
  clear S1 r1;subst q1 q2
  refine (pY (Q:=λX η'=>X= .ref e/\η'=_) v0 r0 hdb ⟨rfl,rfl⟩).run S2 λZ3 η3 X3 u3 s3 hz3 S3 rx3 ⟨q1,q2⟩=>?_
  subst q1 q2
  obtain rfl:=fR rx3
  refine wpAny_mono (hw q S3 (ry.mono hz3)) (λξ s4 ⟨η4,S4,q4⟩=>?_) λξ ξ x=>x.1.elim
  exact ⟨⟨Z3,η4,f.ρ,StaysIn.trans hz2 hz3,rfl,S4,q4⟩,rfl⟩
 ·subst hx
  exact wpAny_execs_nil (PF.weak hz1 rfl x)
end
end
section
open PySem.Builtin PySem.Builtin.ObjectAttr
section
variable {G:Gc}{A:Around}{η:Hm}{E:Prop}{Z:Heap}{s:Shared}{fs:List Fm}{n:Nat}
theorem w9 {prog:Program}{w:World}{K:Frag}{pl:Sem Bool}{R:Value×List Value->Shared->Prop}{E':Value->Shared->Prop}(X:K.In s.heap)(h:R (.builtin "Exception.__init__",[]) {s with toks:=s.toks+1}):
  wpAny (model prog w) A (getMethod (.type "Exception") "__init__" pl) R E' s:=by
 have hstub:opaqueClassAbove (.type "Exception")=pure none:=by kernel_rfl
 have L0:Looks (model prog w) s.heap (typeOf (.type "Exception")) (.type "type"):=Looks.of_pure (by kernel_rfl)
 have hg:findIn K (.type "type") "__getattribute__"=some (some (.builtin "type.__getattribute__")):=type_tga
 unfold getMethod specialOf
 refine wpAny_bind (wpAny_bind (L0.here ((looks_findIn X hg).here ?_)))
 dsimp only
 refine rW (if_pos canon_tga) ?_
 refine wpAny_bind (wpAny_mono (Q:=λv=>R (v,[])) (E:=E') ?_ (λξ ξ z=>wpAny_pure z) λξ ξ z=>z)
 refine cls_open X (Looks.of_pure hstub) L0 hg (looks_hook X (r:=none) (by rfl)) (by refine (?_:subIn K _ _=_);rfl) (r:= .val (.builtin "Exception.__init__")) (by kernel_rfl)
  (wpAny_pure (by refine (?_:wpAny _ _ (handedOut _) _ _ _);refine rW (handedOut_of (by decide+kernel)) ?_;exact wpAny_pure h))
theorem w8 {prog:Program}{w:World}{K:Frag}{C D fI fP:Addr}{pl:Sem Bool}{R:Value×List Value->Shared->Prop}{E':Value->Shared->Prop}(H:sZ K C D fI fP)(X:K.In s.heap)(h:R (.ref fP,[]) {s with toks:=s.toks+1}):
  wpAny (model prog w) A (getMethod (.ref D) "__init__" pl) R E' s:=method_cls X H.spec (cls_value X H.reads H.cls rfl h)
noncomputable def vI (v:Str):List (Nat×Str):= [(0,"self"),(1,v)]
structure pP (K:Frag)(fa:Addr)(fd:FuncData)(y fld v:Str)(a1:PySem.Expr->PySem.Expr)(ts:List Stmt):Prop where
 fn:sX K fa fd (Dm y a1 fld v ts) ["self",v] (vI v) 2
 ok:Dj y fd.scope ts=true
 bind:∀vals,vals.length=2->bindArgs fd ⟨vals,[]⟩=pure ((["self",v]:List Str).zip vals)
 db:(v==("__debug__":Str))=false
theorem n9 {fa e:Addr}{fd:FuncData}{y fld v:Str}{a1:PySem.Expr->PySem.Expr}{cv fv:Value}{ts:List Stmt}{Y X1:V}{pe:WX×WC}{Q:V->Hm->Prop}{P:Hm->Prop}(F:pP G.K fa fd y fld v a1 ts)(hg:G.gt.lookup y=some (.con cv))
  (hm:∀{A:Around} {s:Shared} {pl:Sem Bool} {R:Value×List Value->Shared->Prop} {E':Value->Shared->Prop},G.K.In s.heap->R (fv,[]) {s with toks:=s.toks+1}->wpAny (model G.prog G.w) A (getMethod cv "__init__" pl) R E' s)
  (hfv:(∃id,fv= .builtin id)\/(∃T,fv= .type T)\/∃a,fv= .ref a/\keepIn G.K (.ref a)=true)
  (h1:noStar (a1 (gp (kL (sV (j9 ts))).tail))=true) (h2:∀{f r A},(1,v)∈f.vars->f.ρ[1]?=some (some Y)->ip G n pe (a1 (gp (kL (sV (j9 ts))).tail)) f r A) (hpe:∀ρ Q,(ρ:Ro)[1]?=some (some Y)->Q X1 η->pe.1 False η ρ Q)
  (hc:∀{A fs Z s v1},gA A fs n->Sx G Z η fs s->Rel G.w.params Z X1 v1->wpAny (model G.prog G.w) A (call fv [.ref e,v1]) (PV G Z fs λξ η'=>P η') (PX G Z fs False) s)
  (hw:∀{A fs η1 Z s y},P η1->Sx G Z η1 fs s->Rel G.w.params Z Y y->wpAny (model G.prog G.w) A (setAttr (.ref e) fld y) (λξ s'=>∃η2,Sx G Z η2 fs s'/\Q .none η2) (PX G Z fs False) s):
  ah G (n+1) (.ref fa) [.ref e,Y] η Q False:=by
 refine j6 (dargs:= []) F.fn (λZ s vals S r=>⟨(["self",v]:List Str).zip vals,BindsTo.of_eq (F.bind vals (by refine rW r.length ?_;rfl)),?_,?_⟩) rfl λA L r hA=>?_
 ·exact List.map_fst_zip (by refine rW r.length ?_;exact Nat.le_refl _)
 ·rw [List.map_snd_zip (by refine rW r.length ?_;exact Nat.le_refl _),List.append_nil];exact r
 ·exact uV (cv:=cv) (fv:=fv) (X1:=X1) (pe:=pe) (P:=P) (e:=e) (Y:=Y) F.fn.kind F.ok hg hm hfv (.head _) (.tail _ (.head _)) rfl rfl F.db h1 (h2 (.tail _ (.head _)) rfl) (λQ q=>hpe _ Q rfl q) (λS ry=>hc hA S ry) λp S ry=>hw p S ry
set_option tactic.hygienic true in
theorem w7 {C D fI fP:Addr}{fdP fdI:FuncData}{tsP tsI:List Stmt}(hC:G.kF=C)(H:sZ G.K C D fI fP)(g1:G.gt.lookup (Str.ofString "Exception")=some (.con (.type "Exception")))(g2:G.gt.lookup (Str.ofString "PerlError")=some (.con (.ref D)))
  (FP:pP G.K fP fdP "Exception" "text" "text" (λe=> .Name "text" e.pos) tsP) (FI:pP G.K fI fdI "PerlError" "value" "value" (mk (.str "died")) tsI):AH G:=λ{n A fs η Z s x v} hA S rv=>by
 subst hC
 have P0:∀{k:Nat} {e:Addr} {η:Hm} {X:V},η e=some (.exc G.kF none)->ah G (k+1) (.ref fP) [.ref e,X] η (λY η'=>Y= .none/\∃dx,dx≠e/\η'=upd (upd η dx (.aZ ["text"] [X])) e (.exc G.kF (some dx))) False:=λ{k e η X} e1=>by
  refine n9 (n:=k) (fv:= .builtin "Exception.__init__") (X1:=X) (pe:=dflt λE η ρ Q=>gv ρ 1 λX=>Q X η) (P:=λη'=>η'=η) FP g1 (λX h=>w9 X h) (.inl ⟨_,rfl⟩) rfl (λ{f r A} v1 r1=>?_) (λρ Q r1 q=>?_) (λhA S rx=>?_) λp S ry=>?_
  ·refine aS rfl λE η Q hq=>?_
   obtain ⟨X,hx,hq⟩:=kT hq
   exact pY v1 hx (by decide) hq
  ·refine (?_:gv ρ 1 _);unfold gv;refine rW r1 ?_;exact q
  ·exact yX H S e1 λs' S'=>⟨_,_, .none,StaysIn.refl _,S',gF,rfl⟩
  ·subst p
   exact yZ H.ex S e1 ry H.text λdx s' hne S'=>⟨_,S',rfl,dx,hne,rfl⟩
 have P1:∀{k:Nat} {e:Addr} {η:Hm} {X:V},η e=some (.exc G.kF none)->ah G (k+2) (.ref fI) [.ref e,X] η (λY η'=>Y= .none/\∃d,η' e=some (.exc G.kF d)) False:=λ{k e η X} e1=>by
  refine n9 (n:=k+1) (fv:= .ref fP) (X1:= .str "died") (pe:=dflt λξ η ξ Q=>Q (.str "died") η) (P:=λη'=>∃dx,dx≠e/\η'=upd (upd η dx (.aZ ["text"] [.str "died"])) e (.exc G.kF (some dx))) FI g2 (λX h=>w8 H X h) (.inr (.inr ⟨_,rfl,H.Dw⟩)) rfl (λ{f r A} v1 r1=>aS rfl λE η Q hq=>Aa hq) (λρ Q r1 q=>q) (λhA S rx=>?_) λp S ry=>?_
  ·exact wpAny_mono ((P0 e1).run hA S (⟨_,_,rfl,iR,_,_,rfl,rx,rfl⟩)) (λv s' ⟨Z',η',X,a,b,c,_,q⟩=>⟨Z',η',X,a,b,c,q⟩) λξ ξ x=>x
  ·obtain ⟨dx,hne,rfl⟩:=p
   exact yY H.ex S ag (by rw [af hne];exact ag) (by decide) ry H.value λs' S'=>⟨_,S',rfl,some dx,(af hne.symm).trans ag⟩
 obtain ⟨h,g,d,t,os⟩:=s
 refine xJ H (S.bs.k.keeps S.st.z) ?_
 have k1:h.StaysIn (h.push {cls:= .type "tuple",data:= .seq #[v]}):=aW h _
 have k2:=aW (h.push {cls:= .type "tuple",data:= .seq #[v]}) (sy G.kF h.objs.size)
 have sz:(h.push {cls:= .type "tuple",data:= .seq #[v]}).objs.size=h.objs.size+1:=Heap.size_push _ _
 have S0:St G.w.params Z nul fs h:=S.st.drop λξ ξ q=>nomatch q
 have S2:=(S0.keep k1).new k2 (Nat.le_of_eq sz) (x':= .exc G.kF none) ⟨_,_, .ref h.objs.size,by rw [<-sz];exact Heap.get?_push_size _ rfl,rfl,rfl,rfl,rfl,rfl⟩
 have hA1:gA (A.under (.builtin "type.__call__" ⟨[.ref G.kF,v],[]⟩)) fs (n+2):=by
  obtain ⟨a1,a2,a3,a4,a5⟩:=hA
  refine ⟨a1,a2,a3,?_,?_⟩
  ·refine (?_:A.depth+1+2*(n+2)<=600)
   exact lA a4
  ·refine (?_:A.units+(1+3*0)+12*(n+2)<=5000)
   exact lA a5
 have SS:Sx G Z (upd nul (h.objs.size+1) (.exc G.kF none)) fs ⟨(h.push {cls:= .type "tuple",data:= .seq #[v]}).push (sy G.kF h.objs.size),g,d,t,os⟩:=S.move (t:=t) S2
 refine wpAny_mono ((P1 ag).run hA1 SS (⟨_,_,rfl,iR,_,_,rfl,rv,rfl⟩)) (λr s' ⟨Z',η',X,a,b,c,q,d,q2⟩=>?_) λξ ξ x=>x.1
 subst q
 refine ⟨of_none c,Z',h.objs.size+1,d,a,rfl,b.st.drop λa' x' e'=>?_,b.bs,b.gens,b.os⟩
 unfold upd at e'
 split at e'
 ·rename_i q;refine rW q (rW q2 ?_);exact e'
 ·cases e'
end
end
noncomputable def uR:List Str:= ["self","width","depth","steps","text","items"]
theorem x5 {fd:FuncData}{s:Shared}{T:Addr}{o:Obj}{x d1 d2 d3 d4 d5:Value}{n:Nat}(h1:fd.params.posonlyargs= [])(h2:fd.params.args.map (·.arg)=uR)(h3:fd.params.kwonlyargs= [])(h4:fd.params.vararg=none)(h5:fd.params.kwarg=none)
  (hd:fd.defaults= .ref T) (ho:s.heap.get? T=some o) (hs:o.data= .seq #[d1,d2,d3,d4,d5] n):BindsTo s fd ⟨[x],[]⟩ (uR.zip [x,d1,d2,d3,d4,d5]):=λξ ξ ξ ξ hq=>by
 unfold bindArgs
 simp only [h1,h2,h3,h4,h5,hd,List.map_nil,List.nil_append,List.forIn_nil,pure_bind]
 refine wpAny_bind (wpAny_seqItems ho hs ?_)
 exact wpAny_pure hq
noncomputable def Ei (es:List (Option PySem.Expr)):PySem.Expr:=match es with
 | some e::_=>e
 | _=> .Name "" ⟨0,0,0,0⟩
noncomputable def zq:List Str->List (Option PySem.Expr)->List (Option PySem.Expr)
 | [],_=> []
 | k::ks,es=>some (mk (.str k) (Ei es))::zq ks es.tail
noncomputable def zp:List Int->List PySem.Expr->List PySem.Expr
 | [],_=> []
 | k::ks,es=>mk (.int k) (gp es)::zp ks es.tail
noncomputable def dV (e:PySem.Expr):List PySem.Expr:=(pE e).1
noncomputable def Cv (ks:List Str)(is:List Int)(e:PySem.Expr):PySem.Expr:= .Dict (zq ks (dK e)) (zp is (dV e)) e.pos
section
variable {G:Gc}{A:Around}{η:Hm}{E:Prop}{Z:Heap}{s:Shared}{fs:List Fm}{n:Nat}
noncomputable def Gq (p:Pos)(v:Sem Value):Sem Value:=do let x <-v;standAt p;pure x
noncomputable def D8 (env:Env)(p:Pos):List Str->List (Option PySem.Expr)->List Int->List PySem.Expr->List (Sem Value×Sem Value)
 | k::ks,es,is,vs=>match is with
  | i::is=>(eval (mk (.str k) (Ei es)) env,Gq p (eval (mk (.int i) (gp vs)) env))::D8 env p ks es.tail is vs.tail
  | []=> []
 | [],_,_,_=> []
theorem tL {env:Env}{p:Pos}:∀{ks:List Str} {es:List (Option PySem.Expr)} {is:List Int} {vs:List PySem.Expr},ks.length=is.length->
  (evalEachOpt (zq ks es) env).zip ((evalEach (zp is vs) env).map (Gq p))=(D8 env p ks es is vs).map (λq=>(some q.1,q.2))/\(D8 env p ks es is vs).length=ks.length
 | [],_,[],_,_=>⟨rfl,rfl⟩
 | k::ks,es,i::is,vs,h=>by
  obtain ⟨h1,h2⟩:=tL (env:=env) (p:=p) (ks:=ks) (es:=es.tail) (is:=is) (vs:=vs.tail) (by simpa using h)
  exact ⟨by refine (?_:(_::_).zip (_::_)=_::_);refine rW List.zip_cons_cons (rW h1 ?_);rfl,by refine (?_:_+1=_);refine rW h2 ?_;rfl⟩
 | [],_,_::_,_,h=>by simp at h
 | _::_,_,[],_,h=>by simp at h
theorem stored_new {acc:List (Str×Value)}{k:Str}{v:Value}(h:k∉acc.map (·.1)):stored acc k v=acc++ [(k,v)]:=by
 unfold stored
 rw [if_neg]
 rw [Bool.not_eq_true,List.any_eq_false]
 intro x hx q
 exact h (List.mem_map.mpr ⟨x,hx,of_decide_eq_true q⟩)
theorem uW {env:Env}{p:Pos}{d:Addr}{R:PUnit->Shared->Prop}{E':Value->Shared->Prop}(hz:Z.get? d=none)(hη:η d=none)(hf:d∉fs.flatMap Fm.own):∀(ks:List Str) (es:List (Option PySem.Expr)) (is:List Int) (vs:List PySem.Expr) (acc:List (Str×Value)) (s:Shared),ks.length=is.length->Sx G Z η fs s->
  s.heap.DictOf (PySem.strKind G.prog G.w) d acc->acc.length+ks.length<=100->(acc.map (·.1)++ks).Nodup->
  (∀acc' s',Sx G Z η fs s'->s'.heap.DictOf (PySem.strKind G.prog G.w) d (acc++acc')->acc'.map (·.1)=ks->ar G.w.params Z (is.map .int) (acc'.map (·.2))->R PUnit.unit s')->
  wpAny (model G.prog G.w) A (forIn (D8 env p ks es is vs) PUnit.unit λ(x:Sem Value×Sem Value) (ξ:PUnit)=>(do let kv <-x.1;let vv <-holding [kv] x.2;holding [kv,vv] (dictSet d kv vv);pure (ForInStep.yield PUnit.unit):Sem (ForInStep PUnit))) R E' s:=by
 intro ks;induction ks with
 | nil=>
  intro es is vs acc s hl S hd _ _ k
  cases is with
  | cons=>simp at hl
  | nil=>
  refine (?_:wpAny _ _ (forIn [] PUnit.unit _) _ _ _)
  refine rW List.forIn_nil ?_
  exact wpAny_pure (k [] s S (by refine rW (List.append_nil ..) ?_;exact hd) rfl rfl)
 | cons x ks ih=>
  intro es is vs acc s hl S hd hb nd k
  cases is with
  | nil=>simp at hl
  | cons i is=>
  have hx:x∉acc.map (·.1):=λq=>(List.nodup_append.mp nd).2.2 _ q _ List.mem_cons_self rfl
  refine (?_:wpAny _ _ (forIn (_::_) PUnit.unit _) _ _ _)
  refine rW (List.forIn_cons ..) ?_
  refine wpAny_bind (wpAny_bind (wpAny_Constant_str (k:=knd (Ei es)) (pos:=(Ei es).pos) (env:=env) ?_))
  refine wpAny_bind (wpAny_holding (wpAny_bind (wpAny_Constant_int (k:=knd (gp vs)) (pos:=(gp vs).pos) (env:=env) (wpAny_bind (wpAny_standAt (wpAny_pure ?_))))))
  refine wpAny_bind (wpAny_holding (wpAny_dictSet_pairs (knd:=PySem.strKind G.prog G.w) (k:=x) (kvs:=acc) (by refine (?_:Value.isStrOf x (.str x s.toks)=true);simp [Value.isStrOf]) hd (λh1 d1 s1=>wpAny_pure ?_) (by refine rW sizeLine_eq ?_;simp at hb;exact lA hb)))
  rw [stored_new hx] at d1
  have S1:Sx G Z η fs {s with heap:=h1,toks:=s.toks+1+1+1}:=S.move (S.st.but hz hη hf λb o hb e=>(s1.2 b hb).trans e)
  refine ih es.tail is vs.tail _ _ (by simpa using hl) S1 d1 (by simp at hb ⊢;exact lA hb) (by simpa using nd) λacc' s' S' d' e1 e2=>?_
  exact k ((x, .int i (s.toks+1))::acc') s' S' (by simpa using d') (by simp [e1]) ⟨_,_,rfl,bh,e2⟩
theorem uL {es:List DictEntry}{kvs:List (Str×Value)}(h:Pairs (PySem.strKind G.prog G.w) es kvs):∀{ks:List Str},kvs.map (·.1)=ks->KeysAre es ks/\es.map (·.val)=kvs.map (·.2):=by
 induction h with
 | nil=>intro ks h;subst h;exact ⟨trivial,rfl⟩
 | cons h1 h2 h3 ih=>
  intro ks h;subst h
  obtain ⟨i1,i2⟩:=ih rfl
  exact ⟨⟨Value.isStrOf_shape h1,i1⟩,by exact rW List.map_cons (rW List.map_cons (rW i2 (rW h2 rfl)))⟩
theorem AR {f:Fm}{r:List Fm}{ks:List Str}{is:List Int}{e:PySem.Expr}{Q:V->Hm->Prop}(hl:ks.length=is.length)(h16:15<ks.length)(h17:ks.length<17)(nd:ks.Nodup)(q:Q (.rk ks (is.map .int)) η):WV G A (f::r) (eval (Cv ks is e) f.env) η Q E:=λZ s S=>by
 obtain ⟨z1,z2⟩:=tL (env:=f.env) (p:=e.pos) (ks:=ks) (es:=dK e) (is:=is) (vs:=dV e) hl
 have z1:(evalEachOpt (zq ks (dK e)) f.env).zip ((evalEach (zp is (dV e)) f.env).map λv=>do let x <-v;standAt e.pos;pure x)=_:=z1
 unfold Cv
 rw [arm_eval_Dict,z1,dictDisplay_pairs _ (λh=>by rw [h] at z2;rw [<-z2] at h16;exact absurd h16 (by decide)) (by refine rW z2 ?_;exact h17)]
 refine wpAny_bind (wpAny_standAt (wpAny_bind ?_))
 unfold subDict
 refine wpAny_bind (wpAny_alloc (wpAny_bind (wpAny_holding ?_)))
 rw [if_neg (by refine rW z2 ?_;exact Nat.not_le.mpr (by assumption))]
 refine wpAny_bind (wpAny_rule ?_)
 obtain ⟨h,g,dr,tk,os⟩:=s
 dsimp only
 have k1:h.StaysIn (h.push {cls:= .type "dict",data:= .dict #[]}):=aW h _
 have hz:Z.get? h.objs.size=none:=S.st.lJ (Nat.le_refl _)
 have hη:η h.objs.size=none:=S.st.cV (Nat.le_refl _)
 have hf:=S.st.gq (Nat.le_refl h.objs.size)
 have hd:(h.push {cls:= .type "dict",data:= .dict #[]}).DictOf (PySem.strKind G.prog G.w) h.objs.size ([]:List (Str×Value)):=
  ⟨_, #[],0,Heap.get?_push_size _ rfl,⟨rfl,rfl,rfl⟩,rfl,(λe he=>by simp at he), .nil,List.nodup_nil⟩
 refine wpAny_bind (uW (Z:=Z) (η:=η) (fs:=f::r) hz hη hf ks (dK e) is (dV e) [] _ hl (S.move (t:=tk) (S.st.keep k1)) hd (by simp;exact lA h17) (by simpa using nd) λacc s' S' d' e1 e2=>?_)
 obtain ⟨o,es,ep,ho,hx,hdt,hk,hp,_⟩:=d'
 rw [List.nil_append] at hp
 obtain ⟨p1,p2⟩:=uL hp e1
 obtain ⟨Z',z1,z3,z4,_⟩:=S'.st.pB (· =h.objs.size) (λa q=>q▸hη) λa q=>q▸hf
 have oe:o=dictOf es.toList ep:=by
  obtain ⟨oc,od,odt,osl⟩:=o
  clear ho;obtain ⟨x1,x2,x3⟩:=hx
  dsimp only at x1 x2 x3 hdt
  subst x1 x2 x3 hdt
  rfl
 have hne:(h.objs.size==sysModules)=false:=by
  obtain ⟨mg,mb,⟨o,_,_,hm,_⟩,_⟩:=S.bs.glob
  have:=Heap.lt_size (S.st.z _ _ hm)
  rw [beq_eq_false_iff_ne]
  intro q
  rw [q] at this
  exact absurd this (by decide)
 refine wpAny_pure (wpAny_pure (wpAny_pure ⟨Z',η,_,z1,⟨z4,S'.bs.mono z1,S'.gens,S'.os⟩,?_,q⟩))
 refine ⟨_,es.toList,ep,rfl,hne,oe▸z3 _ _ rfl ho,p1,λe he=>?_,?_⟩
 ·obtain ⟨x,h1,h2⟩:=hk e (Array.mem_toList_iff.mp he)
  obtain ⟨t,ht⟩:=Value.isStrOf_shape h1
  exact ⟨x,t,ht,h2⟩
 ·refine rW p2 ?_;exact e2.mono z1
end
noncomputable def kW:List Int:= [1,1,2,2,4,4,8,8,4,4,8,8,2,4,2,4]
theorem G7:eW.length=kW.length:=by decide+kernel
theorem G6:15<eW.length:=by decide+kernel
theorem G5:eW.length<17:=by decide+kernel
theorem G4:eW.Nodup:=by decide+kernel
section
variable {G:Gc}{n:Nat}{η:Hm}{Q:V->Hm->Prop}{E:Prop}
theorem wd {fd:FuncData}{e:PySem.Expr}{p:Pos}(F:sX G.K aC fd [.Return (some (Cv eW kW e)) p] [] [] 0)(hb:bindArgs fd ⟨[],[]⟩=pure [])(q:∀p∈xB,p.1=Str.ofString "FIXED"->Q p.2 η):ah G (n+1) (.ref aC) [] η Q E:=by
 refine j6 (dargs:= []) F (λZ s vals S r=>⟨[],BindsTo.of_eq ?_,rfl,rfl⟩) rfl λA L r hA Z s S=>?_
 ·refine rW (show vals= [] from r) ?_;exact hb
 ·have hq:Q (.rk eW (kW.map .int)) η:=q (Str.ofString "FIXED", .rk eW (kW.map .int)) (List.mem_of_getElem? (i:=5) (by kernel_rfl)) rfl
  have w:= @AR G A η E (kq fd L aC [] []) r eW kW e Q G7 G6 G5 G4 hq Z s S
  refine wpAny_execs_cons ?_
  refine wpAny_Return_some ?_
  generalize Cv eW kW e=ee at w ⊢
  refine wpAny_mono w ?_ λξ ξ x=>x
  rintro v s1 ⟨Z1,η1,X,hz,S1,rx,q⟩
  exact ⟨Z1,η1,_,hz,rfl,S1,X,rx,q⟩
theorem BF (hG:Gl G)(am:∀p∈kY,p∈G.dP){fd:FuncData}{body:List Stmt}{T:Addr}{o:Obj}{t1 t2 t3 t4 t5:Tok}{k:Nat}(F:sX G.K ax fd body uR aw.vars 6)(hm:jZ aw.sl body=body)
  (hc:kl (tb G) 6 fd.scope aw.vars aw.sl body=true) (h1:fd.params.posonlyargs= []) (h2:fd.params.args.map (·.arg)=uR) (h3:fd.params.kwonlyargs= []) (h4:fd.params.vararg=none) (h5:fd.params.kwarg=none)
  (hd:fd.defaults= .ref T) (ho:G.K.lookup T=some o) (hs:o.data= .seq #[.int 64 t1, .int 50 t2, .int 1000000 t3, .int 100000 t4, .int 10000 t5] k) (m1:makesIn G.K az=true) (m2:findIn G.K (.ref az) "__init__"=some (some (.ref ax)))
  (m3:typeIn G.K (.ref ax)=some (.type "function")) (q:∀x dx,η x=none->η dx=none->x≠dx->Q (.ref x) (upd (upd η dx (.aZ sj ky)) x (.inst az dx))):ah G (n+2) (.ref az) [] η Q E:=by
 refine ik m1 m2 m3 λx dx hx hdx hne=>?_
 refine j6 (args:= [.ref x]) (dargs:=ky) F (λZ s vals S r=>?_) rfl λA L r hA=>?_
 ·obtain ⟨v,_,rfl,rv,rfl⟩:=r
  exact ⟨_,x5 h1 h2 h3 h4 h5 hd ((S.bs.k.keeps S.st.z) _ _ ho) hs,rfl,⟨_,_,rfl,rv,_,_,rfl,bh,_,_,rfl,bh,_,_,rfl,bh,_,_,rfl,bh,_,_,rfl,bh,rfl⟩⟩
 ·have w:aQ G n aw.sl E (upd (upd η dx (.aZ [] [])) x (.inst az dx)) ((([.ref x]:List V)++ky).map some++List.replicate (6-uR.length) none) (fin λX η'=>X= .none/\Q (.ref x) η'):=by
   have am:∀nm,kY.contains (az,nm)=true->(az,nm)∈G.dP:=λnm h=>am _ (List.contains_iff_mem.mp h)
   refine cu (C:=az) (dx:=dx) (ks':= ["width"]) (vs':= [.int 64]) ag (by exact rW (af (Ne.symm hne)) (rW ag rfl)) (am _ (by decide+kernel)) (by decide) (by kernel_rfl) ?_
   refine cu (C:=az) (dx:=dx) (ks':= ["width","depth"]) (vs':= [.int 64, .int 50]) (by exact rW (af hne) (rW ag rfl)) ag (am _ (by decide+kernel)) (by decide) (by kernel_rfl) ?_
   refine rW ak ?_
   refine cu (C:=az) (dx:=dx) (ks':= ["width","depth","steps"]) (vs':= [.int 64, .int 50, .int 1000000]) (by exact rW (af hne) (rW ag rfl)) ag (am _ (by decide+kernel)) (by decide) (by kernel_rfl) ?_
   refine rW ak ?_
   refine cu (C:=az) (dx:=dx) (ks':= ["width","depth","steps","text"]) (vs':= [.int 64, .int 50, .int 1000000, .int 100000]) (by exact rW (af hne) (rW ag rfl)) ag (am _ (by decide+kernel)) (by decide) (by kernel_rfl) ?_
   refine rW ak ?_
   refine cu (C:=az) (dx:=dx) (ks':=sj) (vs':=ky) (by exact rW (af hne) (rW ag rfl)) ag (am _ (by decide+kernel)) (by decide) (by kernel_rfl) ?_
   refine rW ak ?_
   refine ⟨rfl,?_⟩
   have e:upd (upd (upd η dx (.aZ [] [])) x (.inst az dx)) dx (.aZ sj ky)=upd (upd η dx (.aZ sj ky)) x (.inst az dx):=by
    funext b;unfold upd
    by_cases h:b=dx
    ·rw [if_pos h,if_neg (by refine rW h ?_;exact hne.symm),if_pos h]
    ·exact rW (if_neg h) (rW (if_neg h) (rW (if_neg h) rfl))
   refine rW e ?_
   exact q x dx hx hdx hne
  have h:=jQ hG (n:=n) aw.sl (ts:=body) (f:=kq fd L ax aw.vars ((([.ref x]:List V)++ky).map some++List.replicate (6-uR.length) none)) hc hA rfl F.kind
  rw [hm] at h
  exact h E _ _ _ w rfl
end
theorem ff {α:Type}{o:Option α}{f:α->Bool}(h:o.any f=true):∃a,o=some a/\f a=true:=by
 cases o with
 | none=>cases h
 | some a=>exact ⟨a,rfl,h⟩
set_option tactic.hygienic true in
theorem td {i:Int}{v:Value}(h:vInt i v=true):∃t,v= .int i t:=by
 unfold vInt at h
 split at h
 ·rename_i j t;exact ⟨t,by exact rW (of_decide_eq_true h) rfl⟩
 ·cases h
set_option tactic.hygienic true in
theorem oy {i:Str}{v:Value}(h:vStr i v=true):∃t,v= .str i t:=by
 unfold vStr at h
 split at h
 ·rename_i j t;exact ⟨t,by exact rW (of_decide_eq_true h) rfl⟩
 ·cases h
theorem mh {v:Value}{a:Addr}(h:refOf v=some a):v= .ref a:=by
 unfold refOf at h
 split at h
 ·cases h;rfl
 ·cases h
theorem uw {o:Obj}{T:String}(h:bare o T=true):o={cls:= .type T,dict:=none,data:=o.data,slots:= #[]}:=by
 unfold bare at h
 simp only [Bool.and_eq_true,beq_iff_eq,Option.isNone_iff_eq_none,Array.isEmpty_iff] at h
 obtain ⟨c,d,dt,sl⟩:=o
 obtain ⟨⟨rfl,rfl⟩,rfl⟩:=h
 rfl
theorem j3 {P:Params}{Z:Heap}:∀{l:List V} {vs:List Value},kS l vs=true->ar P Z l vs
 | [],vs,h=>List.isEmpty_iff.mp h
 | x::r,[],h=>nomatch h
 | x::r,v::q,h=>by
  obtain ⟨h1,h2⟩:=Bool.and_eq_true_iff.mp (show (DC x v&&kS r q)=true from h)
  refine ⟨v,q,rfl,?_,j3 h2⟩
  cases x with
  | int i=>exact td h1
  | _=>cases h1
theorem qN:∀{ks:List Str} {es:List DictEntry},n8 ks es=true->KeysAre es ks
 | [],es,h=>by refine rW (List.isEmpty_iff.mp h) ?_;trivial
 | k::r,[],h=>nomatch h
 | k::r,e::q,h=>by
  obtain ⟨h1,h2⟩:=Bool.and_eq_true_iff.mp (show (vStr k e.key&&n8 r q)=true from h)
  exact ⟨oy h1,qN h2⟩
theorem uf {P:Params}:∀{ks:List Str} {es:List DictEntry},n8 ks es=true->es.map (·.hash)=mG P ks->∀e∈es,∃x t,e.key= .str x t/\e.hash=PyData.keyHash P x
 | [],es,h,_=>by refine rW (List.isEmpty_iff.mp h) ?_;exact λξ h=>nomatch h
 | k::r,[],h,_=>nomatch h
 | k::r,e::q,h,hh=>by
  obtain ⟨h1,h2⟩:=Bool.and_eq_true_iff.mp (show (vStr k e.key&&n8 r q)=true from h)
  have hh:e.hash::q.map (·.hash)=PyData.keyHash P k::mG P r:=hh
  injection hh with a b
  obtain ⟨t,he⟩:=oy h1
  exact λe' he'=>(List.mem_cons.mp he').elim (λz=>z▸⟨_,_,he,a⟩) (uf h2 b e')
set_option tactic.hygienic true in
theorem tC {P:Params}{K:Frag}{Z:Heap}(X:K.In Z){y:V}(hh:∀ks vs,y=V.rk ks vs->oa K=some (mG P ks)){v:Value}(h:wB K y v=true):Rel P Z y v:=by
 cases y with
 | int i=>exact td h
 | str i=>exact oy h
 | con c=>exact (beq_iff_eq.mp (show (c==v)=true from h)).symm
 | lst l=>
  obtain ⟨a,e1,h⟩:=ff (show ((refOf v).any _)=true from h)
  obtain ⟨o,e2,h⟩:=ff h
  obtain ⟨h1,h⟩:=Bool.and_eq_true_iff.mp h
  obtain ⟨items,e3,h⟩:=ff h
  unfold nS at e3
  split at e3
  ·rename_i it n he
   cases e3
   have e4:=uw h1
   rw [he] at e4
   exact ⟨a,it,n,mh e1,(X _ _ e2).trans (congrArg some e4),j3 h⟩
  ·cases e3
 | rk ks vs=>
  obtain ⟨a,e1,h⟩:=ff (show ((refOf v).any _)=true from h)
  obtain ⟨h0,h⟩:=Bool.and_eq_true_iff.mp h
  obtain rfl:=of_decide_eq_true h0
  obtain ⟨o,e2,h⟩:=ff h
  obtain ⟨h1,h⟩:=Bool.and_eq_true_iff.mp h
  obtain ⟨es,e3,h⟩:=ff h
  obtain ⟨h2,h3⟩:=Bool.and_eq_true_iff.mp h
  have h4:=hh ks vs rfl
  unfold oa at h4
  rw [e2,Option.bind_some,e3,Option.map_some] at h4
  unfold xK at e3
  split at e3
  ·rename_i it n he
   clear h;cases e3
   have e4:=uw h1
   rw [he] at e4
   have hh2:=uf h2 (Option.some.inj h4)
   refine ⟨393,it.toList,n,mh e1,by decide,(X _ _ e2).trans (congrArg some ?_),qN h2,hh2,j3 h3⟩
   exact rW e4 rfl
  ·cases e3
 | _=>exact Bool.noConfusion (show false=true from h)
noncomputable def nU (R:Row)(d:FD):Bool:=
 decide (R.ps.length<=R.N)&&decide ((d.2.2.names.map (·.1)).Nodup)&&decide R.ps.Nodup&&(R.ps.all λx=>d.2.2.names.lookup x==some .local||d.2.2.names.lookup x==some .cell)&&
 (R.vars.all λp=>R.vars.all λq=>decide (p.1=q.1 ↔ p.2=q.2))&&(R.vars.all λp=>decide (R.ps.length<=p.1)||decide (R.ps[p.1]?=some p.2))&&
 !d.2.2.isCoroutine&& !d.2.2.isGenerator&&d.2.2.kind== .function&&
 d.1.posonlyargs.isEmpty&&decide (d.1.args.map (·.arg)=R.ps)&&d.1.kwonlyargs.isEmpty&&d.1.vararg.isNone&&d.1.kwarg.isNone&&kl ⟨oA,p6⟩ R.N d.2.2 R.vars R.sl d.2.1
noncomputable def CS (l:List (Nat×Nat×Nat)):Bool:=l.all λt=>match iW[t.1]? with
 | some R=>(match defAt t.2 with
  | some d=>nU R d
  | none=>false)
 | none=>false
set_option maxRecDepth 100000 in
theorem A5:CS nc=true:=by decide+kernel
noncomputable def ES:List (Nat×Nat×Nat)->List (Option (List Stmt))
 | []=> []
 | t::r=>(iW[t.1]?.bind λR=>(defAt t.2).map λd=>jZ R.sl d.2.1)::ES r
noncomputable def ET:List (Nat×Nat×Nat)->List (Option (List Stmt))
 | []=> []
 | t::r=>((defAt t.2).map λd=>d.2.1)::ET r
theorem A6:ES nc=ET nc:=by kernel_rfl
set_option tactic.hygienic true in
theorem uh {K:Frag}{R:Row}{d:FD}{dv:Value}(h:ui K R.a=some (rg d dv))(hs:nU R d=true):∃fd,sX K R.a fd d.2.1 R.ps R.vars R.N/\fd.params=d.1/\fd.scope=d.2.2/\fd.defaults=dv/\
  d.1.posonlyargs= []/\d.1.args.map (·.arg)=R.ps/\d.1.kwonlyargs= []/\d.1.vararg=none/\d.1.kwarg=none/\kl ⟨oA,p6⟩ R.N d.2.2 R.vars R.sl d.2.1=true:=by
 unfold ui at h
 obtain ⟨o,h1,h⟩:=Option.bind_eq_some_iff.mp h
 obtain ⟨fd,h2,h⟩:=Option.map_eq_some_iff.mp h
 have hd:o.data= .func fd:=by
  unfold Av at h2
  split at h2
  ·rename_i fd' e;cases h2;exact e
  ·cases h2
 simp only [rg,Prod.mk.injEq,Bool.and_eq_true,List.isEmpty_iff] at h
 obtain ⟨e1,e2,e3,⟨e4,e5⟩,⟨e6,e7⟩,e8⟩:=h
 unfold nU at hs
 simp only [Bool.and_eq_true,decide_eq_true_eq,List.isEmpty_iff,Option.isNone_iff_eq_none,beq_iff_eq,Bool.not_eq_true',List.all_eq_true,Bool.or_eq_true] at hs
 obtain ⟨⟨⟨⟨⟨⟨⟨⟨⟨⟨⟨⟨⟨⟨s1,s2⟩,s3⟩,s4⟩,s5⟩,s6⟩,s7⟩,s8⟩,s9⟩,t1⟩,t2⟩,t3⟩,t4⟩,t5⟩,t6⟩:=hs
 refine ⟨fd,⟨⟨o,h1,hd⟩,e7,e2,e6,e3▸s7,e3▸s8,e3▸s9,e4,e5,e3▸s2,e3▸s4,s3,λp hp q hq=>s5 p hp q hq,λi x hm hi=>?_,s1⟩,e1,e3,e8,t1,t2,t3,t4,t5,t6⟩
 rcases s6 _ hm with z|z
 ·exact absurd hi (Nat.not_lt.mpr z)
 ·exact z
noncomputable def De:Row:=⟨210, .n,vI "text",["self","text"],2⟩
noncomputable def Df:Row:=⟨230, .n,vI "value",["self","value"],2⟩
noncomputable def Bn:Row:=⟨aC, .n,[],[],0⟩
noncomputable def nN:List (Row×Nat×Nat):= [(De,22,1),(Df,23,1),(Bn,121,0),(aw,98,1)]
noncomputable def Gx:Bool:=nN.all λt=>(defAt t.2).any λd=>nU t.1 d
theorem Et:Gx=true:=by decide+kernel
noncomputable def gL (p:Nat×Nat):List Stmt:=match defAt p with
 | some d=>d.2.1
 | none=> []
noncomputable def wh (p:Nat×Nat):Scope:=match defAt p with
 | some d=>d.2.2
 | none=>⟨.function,[],false,false,[]⟩
noncomputable abbrev FC:List Stmt:=gL (22,1)
noncomputable abbrev FE:List Stmt:=gL (23,1)
noncomputable abbrev Cy:List Stmt:=gL (121,0)
noncomputable abbrev Gp:List Stmt:=gL (98,1)
theorem Ha:FC=Dm "Exception" (λe=> .Name "text" e.pos) "text" "text" FC:=by kernel_rfl
theorem Hd:FE=Dm "PerlError" (mk (.str "died")) "value" "value" FE:=by kernel_rfl
theorem Hb:Cy= [.Return (some (Cv eW kW (sV (j9 Cy)))) (sP (j9 Cy))]:=by kernel_rfl
theorem Hc:jZ aw.sl Gp=Gp:=by kernel_rfl
theorem GB:Dj "Exception" (wh (22,1)) FC=true:=by decide+kernel
theorem GC:Dj "PerlError" (wh (23,1)) FE=true:=by decide+kernel
theorem zS {d:Data}{c:Value}{dd:Option Addr}{sl:Array (Option Value)}{cd:ClassData}(h:DJ ⟨c,dd,d,sl⟩=some cd):d= .cls cd:=by
 cases d with
 | cls=>cases h;rfl
 | _=>cases h
theorem l6 {α:Type}{l:List α}(h:l.length=6):∃a b c d e f,l= [a,b,c,d,e,f]:=by
 have k:∀{l:List α} {n:Nat},l.length=n+1->∃a r,r.length=n/\l=a::r:=λ{l n} h=>by
  cases l with
  | nil=>cases h
  | cons a r=>exact ⟨a,r,Nat.succ.inj h,rfl⟩
 obtain ⟨a,r1,h1,e1⟩:=k h
 obtain ⟨b,r2,h2,e2⟩:=k h1
 obtain ⟨c,r3,h3,e3⟩:=k h2
 obtain ⟨d,r4,h4,e4⟩:=k h3
 obtain ⟨e,r5,h5,e5⟩:=k h4
 obtain ⟨f,r6,h6,e6⟩:=k h5
 exact ⟨a,b,c,d,e,f,by exact rW e1 (rW e2 (rW e3 (rW e4 (rW e5 (rW e6 (rW (List.eq_nil_of_length_eq_zero h6) rfl))))))⟩
theorem xF (h:Heap):(ug h).In h:=by
 have key:∀(l:List Addr) a o,(l.filterMap λa=>(h.get? a).map λo=>(a,o)).lookup a=some o->h.get? a=some o:=λl=>by
  induction l with
  | nil=>intro a o e;cases e
  | cons b l ih=>
   intro a o e
   rw [List.filterMap_cons] at e
   cases q:h.get? b with
   | none=>rw [q] at e;exact ih a o e
   | some ob=>
    rw [q] at e
    simp only [Option.map_some,List.lookup_cons] at e
    by_cases z:a=b
    ·subst z;rw [beq_self_eq_true] at e;cases e;exact q
    ·rw [beq_eq_false_iff_ne.mpr z] at e;exact ih a o e
 exact λa o e=>key Cf a o e
structure Facts (P:Params)(K:Frag):Prop where
 ok:Fx K=true
 rows:qs K nc=tw nc
 xs:xV K=xE
 hash:oa K=some (mG P eW)
noncomputable def yo (w:World)(K:Frag)(os:OsState):Gc:=⟨P0,w,K,gtB,os,233,kY,p6,oA⟩
theorem BQ:(gtB.map (·.1)).Nodup:=by decide+kernel
theorem zK:(gtB.all λp=>match p.2 with
 | .rk ks _=>decide (ks=eW)
 | _=>true)=true:=by decide+kernel
theorem gY {x:Str}{X:V}(h:(x,X)∈gtB):gtB.lookup x=some X:=iD BQ h
theorem ph {p:Str×V}(h:p∈xB):p∈gtB:=List.mem_append_left _ (List.mem_append_left _ h)
theorem gH {b:Bi}(h:b∈Gn):(Cx b,V.con b.val)∈gtB:=List.mem_append_left _ (List.mem_append_right _ (List.mem_append_left _ (List.mem_map_of_mem (f:=λb=>(Cx b,V.con b.val)) h)))
theorem w' {x:Str}{a:Addr}(h:(x,a)∈oA):(x,V.con (.ref a))∈gtB:=List.mem_append_left _ (List.mem_append_right _ (List.mem_append_right _ (List.mem_append_left _ (List.mem_map_of_mem (f:=λp:Str×Addr=>(p.1,V.con (.ref p.2))) h))))
theorem zt:(Str.ofString "Die",V.con (.ref AG))∈gtB:=List.mem_append_left _ (List.mem_append_right _ (List.mem_append_right _ (List.mem_append_right _ List.mem_cons_self)))
set_option tactic.hygienic true in
theorem jX {K:Frag}{h:Heap}{mg:Str->Option Value}{n:Str}{a:Addr}{r:Option Value}(X:K.In h)(G:h.Ns a mg)(e:nsIn K a n=some r):mg n=r:=by
 obtain ⟨o,es,ep,ho,hd,_,hf⟩:=G
 unfold nsIn at e
 split at e
 ·rename_i c d es' n' sl q
  have:=X _ _ q
  rw [ho] at this
  clear q ho;cases this
  cases hd
  refine rV (hf ..) ?_
  unfold nsFind findBy
  refine rV Array.find?_toList ?_
  split at e
  ·rename_i en he
   cases e
   refine rW he ?_;rfl
  ·rename_i he
   split at e
   ·cases e
   ·cases e
    refine rW he ?_;rfl
 ·cases e
section
variable {w:World}{K:Frag}{os:OsState}(F:Facts w.params K)
include F
theorem Facts.parts:(∀p∈gtB,gB K p=true)/\(∀p∈kY,El K p.1 p.2=true)/\(∀p∈p6,Eb K p.1.1 p.1.2 p.2=true)/\(∀p∈oA,keepIn K (.ref p.2)=true)/\isNotIn K "str" 157=true/\(∀p∈zo,Ec K p.1 p.2=true)/\zR K=true/\
  ((K.lookup 705).any λo=>(nS o).any (kS ky))=true:=by
 have h:=F.ok
 unfold Fx at h
 simp only [Bool.and_eq_true,List.all_eq_true] at h
 obtain ⟨⟨⟨⟨⟨⟨⟨a,b⟩,c⟩,d⟩,e⟩,f⟩,g⟩,i⟩:=h
 exact ⟨a,b,c,d,e,f,g,i⟩
theorem BR:Gv (yo w K os):=by
 obtain ⟨f1,f2,f3,f4,f5,f6,f7,f8⟩:=F.parts
 refine ⟨λC x h=>?_,λC x f h=>?_,λx a h=>⟨gY (w' (mem_of_lookup h)),f4 _ (mem_of_lookup h)⟩⟩
 ·have:=f2 _ h
  unfold El at this
  simp only [Bool.and_eq_true,beq_iff_eq] at this
  obtain ⟨⟨⟨⟨⟨⟨a,b⟩,c⟩,d⟩,e⟩,f⟩,g⟩:=this
  exact ⟨a,b,c,d,e,f,g⟩
 ·have:=f3 ((C,x),f) (by obtain ⟨l1,l2,e,_⟩:=List.lookup_eq_some_iff.mp h;refine (?_:_∈p6);refine rW (show p6=_ from e) ?_;simp)
  unfold Eb at this
  simp only [Bool.and_eq_true,beq_iff_eq] at this
  obtain ⟨⟨⟨⟨a,b⟩,c⟩,d⟩,e⟩:=this
  exact ⟨a,b,c,d,e⟩
set_option tactic.hygienic true in
theorem DS {Z:Heap}{mg mb:Str->Option Value}(X:K.In Z)(lim:Z.NoLimit)(g:Z.Ns mainGlobals mg)(b:Z.Ns builtinsNs mb):Bs (yo w K os) Z:=by
 refine ⟨BR F,X,lim,mg,mb,g,b,λx Y h=>?_⟩
 have hm:(x,Y)∈gtB:=mem_of_lookup h
 have:=F.parts.1 _ hm
 have hh:∀ks vs,Y=V.rk ks vs->oa K=some (mG w.params ks):=λks vs e=>by
  have:=List.all_eq_true.mp zK _ hm
  rw [e] at this
  refine rW (show ks=eW from of_decide_eq_true this) ?_;exact F.hash
 unfold gB at this
 split at this
 ·rename_i v hv
  exact ⟨v, .inl (jX X g hv),tC X hh this⟩
 ·rename_i hv
  split at this
  ·rename_i v hv2
   exact ⟨v, .inr ⟨jX X g hv,jX X b hv2⟩,tC X hh this⟩
  ·cases this
 ·cases this
theorem zQ:sZ K 233 213 230 210:=by
 have h:=F.parts.2.2.2.2.2.2.1
 unfold zR at h
 simp only [Bool.and_eq_true,beq_iff_eq] at h
 obtain ⟨⟨⟨⟨⟨⟨⟨⟨⟨⟨a,b⟩,c⟩,d⟩,e⟩,f⟩,g⟩,i⟩,j⟩,k⟩,l'⟩:=h
 obtain ⟨⟨oc,dd,od,sl⟩,ho,a0⟩:=ff a
 simp only [Bool.and_eq_true,beq_iff_eq,decide_eq_true_eq] at a0
 obtain ⟨⟨⟨a1,a2⟩,a3⟩,a7⟩:=a0
 obtain ⟨cd,hcd,a8⟩:=ff a7
 clear a7;obtain rfl:=zS hcd
 simp only [Bool.and_eq_true,beq_iff_eq,Bool.not_eq_true'] at a8
 obtain ⟨⟨a4,a5⟩,a6⟩:=a8
 subst a1
 obtain ⟨nm,bs,mro,ns,qn,hd,sn,sub,ab,col,del⟩:=cd
 dsimp only at a4 a5 a6
 subst a4 a5 a6
 obtain ⟨k0,k1,k2,k3,k4,k5,e1⟩:=l6 a2
 rw [e1] at a3
 obtain rfl:k4=some (.builtin "Exception.__new__"):=Option.some.inj a3
 obtain ⟨l⟩:=sl
 obtain rfl:l=_:=e1
 refine ⟨⟨_,_,_,_,_,_,_,_,_,_,_,_,_,_,_,ho⟩,b,⟨⟨_,by unfold clsIn;exact rW ho rfl,rfl,rfl⟩,c⟩,d,e,f,g,i,j,?_,l'⟩
 obtain ⟨c,hc,k⟩:=ff k
 cases c with
 | val v=>exact rW hc (rW (mh (beq_iff_eq.mp k)) rfl)
 | get=>cases k
end
theorem kG {p:Nat×Nat}{d:FD}(h:defAt p=some d):gL p=d.2.1:=by unfold gL;exact rW h rfl
theorem yW {p:Nat×Nat}{d:FD}(h:defAt p=some d):wh p=d.2.2:=by unfold wh;exact rW h rfl
theorem ub {K:Frag}{fa:Addr}{y fld v:Str}{a1:PySem.Expr->PySem.Expr}{pl:Nat×Nat}{d:FD}(h:ui K fa=some (rg d .none))(hd:defAt pl=some d)(hs:nU ⟨fa, .n,vI v,["self",v],2⟩ d=true)
  (e:gL pl=Dm y a1 fld v (gL pl)) (o:Dj y (wh pl) (gL pl)=true) (hv:(v==("__debug__":Str))=false):∃fd,pP K fa fd y fld v a1 (gL pl):=by
 obtain ⟨fd,F,p1,p2,p3,q1,q2,q3,q4,q5,_⟩:=uh (R:=⟨fa, .n,vI v,["self",v],2⟩) h hs
 rw [kG hd] at e o ⊢
 rw [yW hd, <-p2] at o
 rw [<-p1] at q1 q2 q3 q4 q5
 exact ⟨fd,e▸F,o,λvals hl=>mT q1 q2 q3 q4 q5 p3 F.EJ hl,hv⟩
theorem ou {t:Row×Nat×Nat}(h:t∈nN):∃d,defAt t.2=some d/\nU t.1 d=true:=ff (List.all_eq_true.mp Et t h)
theorem wx (i:Nat):tA[i]?=iW[i]?.map (·.a):=by refine rV List.getElem?_map ?_;rfl
theorem qr {K:Frag}:∀{l:List (Nat×Nat×Nat)} (_:qs K l=tw l) {t:Nat×Nat×Nat} (_:t∈l),(tA[t.1]?.bind (ui K))=(defAt t.2).map λd=>rg d .none
 | t::r,h,u,hu=>by
  injection h with h1 h2
  rcases List.mem_cons.mp hu with rfl|hu
  ·exact h1
  ·exact qr h2 hu
theorem w6:∀{l:List (Nat×Nat×Nat)} (_:ES l=ET l) {t:Nat×Nat×Nat} (_:t∈l),(iW[t.1]?.bind λR=>(defAt t.2).map λd=>jZ R.sl d.2.1)=(defAt t.2).map λd=>d.2.1
 | t::r,h,u,hu=>by
  injection h with h1 h2
  rcases List.mem_cons.mp hu with rfl|hu
  ·exact h1
  ·exact w6 h2 hu
theorem yE:((List.range iW.length).all λi=>Nat.beq i 67||Nat.beq i 50||nc.any λt=>Nat.beq t.1 i)=true:=by decide+kernel
section
variable {w:World}{K:Frag}{os:OsState}(F:Facts w.params K)
include F
theorem Bj (i:Nat)(R:Row)(h:iW[i]?=some R)(hne:(Nat.beq i 67||Nat.beq i 50)=false):sY (yo w K os) R:=by
 have h1:=List.all_eq_true.mp yE i (List.mem_range.mpr (List.getElem?_eq_some_iff.mp h).1)
 rw [hne,Bool.false_or] at h1
 obtain ⟨t,ht,hti⟩:=List.any_eq_true.mp h1
 obtain rfl:t.1=i:=Nat.eq_of_beq_eq_true hti
 have h2:=qr F.rows ht
 have h3:=w6 A6 ht
 have h4:=List.all_eq_true.mp A5 t ht
 rw [wx,h,Option.map_some,Option.bind_some] at h2
 simp only [h] at h3 h4
 cases hd:defAt t.2 with
 | none=>rw [hd] at h4;cases h4
 | some d=>
  rw [hd] at h2 h3 h4
  obtain ⟨fd,F,p1,p2,p3,q1,q2,q3,q4,q5,q6⟩:=uh (R:=R) (d:=d) (dv:= .none) h2 h4
  rw [<-p1] at q1 q2 q3 q4 q5
  exact ⟨fd,d.2.1,F,Option.some.inj h3,p2▸q6,λvals hl=>mT q1 q2 q3 q4 q5 p3 F.EJ hl⟩
theorem DF:Gl (yo w K os):=by
 have hx: [ui K 210,ui K 230,ui K aC,ui K ax]= [(defAt (22,1)).map λd=>rg d .none,(defAt (23,1)).map λd=>rg d .none,(defAt (121,0)).map λd=>rg d .none,(defAt (98,1)).map λd=>rg d (.ref 705)]:=F.xs
 injection hx with x1 hx
 injection hx with x2 hx
 have H:=zQ F
 refine ⟨λb h=>gY ?_,λp h=>gY (ph h),gY zt,?_,?_⟩
 ·have tT:∀p,p∈ [(Str.ofString "int",V.con (.type "int")),(Str.ofString "str",V.con (.type "str"))]->p∈xB:=λp h=>by
   rcases List.mem_cons.mp h with rfl|h
   ·exact List.mem_of_getElem? (i:=14) (by kernel_rfl)
   ·rcases List.mem_cons.mp h with rfl|h
    ·exact List.mem_of_getElem? (i:=15) (by kernel_rfl)
    ·cases h
  cases b with
  | len=>exact gH (List.mem_of_getElem? (i:=0) rfl)
  | abs=>exact gH (List.mem_of_getElem? (i:=1) rfl)
  | ord=>exact gH (List.mem_of_getElem? (i:=2) rfl)
  | chr=>exact gH (List.mem_of_getElem? (i:=3) rfl)
  | min=>exact gH (List.mem_of_getElem? (i:=4) rfl)
  | max=>exact gH (List.mem_of_getElem? (i:=5) rfl)
  | sum=>exact gH (List.mem_of_getElem? (i:=6) rfl)
  | isin=>exact gH (List.mem_of_getElem? (i:=7) rfl)
  | jI=>exact gH (List.mem_of_getElem? (i:=8) rfl)
  | bp=>exact gH (List.mem_of_getElem? (i:=9) rfl)
  | rA=>exact ph (tT _ (.head _))
  | m8=>exact ph (tT _ (.tail _ (.head _)))
  | _=>cases h
 ·obtain ⟨nm,q,N,bs,hd,sn,sub,ab,col,dd,k0,k1,k2,k3,k5,ho⟩:=H.obj
  exact ⟨nm,q,N,bs,_,hd,sn,sub,ab,col,dd,k0,k1,k2,k3,k5,ho,rfl,H.keep⟩
 ·obtain ⟨d1,hd1,hs1⟩:=ou (t:=(De,22,1)) (by simp [nN])
  obtain ⟨d2,hd2,hs2⟩:=ou (t:=(Df,23,1)) (by simp [nN])
  rw [hd1] at x1
  rw [hd2] at x2
  obtain ⟨f1,I1⟩:=ub x1 hd1 hs1 Ha GB (by decide)
  obtain ⟨f2,I2⟩:=ub x2 hd2 hs2 Hd GC (by decide)
  exact w7 (G:=yo w K os) rfl H (gY (List.mem_append_right _ (.tail _ (.head _)))) (gY (List.mem_append_right _ (.head _))) I1 I2
set_option tactic.hygienic true in
theorem DD:GX (yo w K os):=by
 have hx: [ui K 210,ui K 230,ui K aC,ui K ax]= [(defAt (22,1)).map λd=>rg d .none,(defAt (23,1)).map λd=>rg d .none,(defAt (121,0)).map λd=>rg d .none,(defAt (98,1)).map λd=>rg d (.ref 705)]:=F.xs
 injection hx with x1 hx
 injection hx with x2 hx
 injection hx with x3 hx
 injection hx with x4 hx
 obtain ⟨f1,f2,f3,f4,f5,f6,f7,f8⟩:=F.parts
 have mk:∀p∈zo,makesIn K p.1=true/\findIn K (.ref p.1) "__init__"=some (some (.ref p.2))/\typeIn K (.ref p.2)=some (.type "function"):=λp hp=>by
  have:=f6 p hp
  unfold Ec at this
  simp only [Bool.and_eq_true,beq_iff_eq] at this
  exact ⟨this.1.1,this.1.2,this.2⟩
 have hG:=DF (os:=os) F
 refine ⟨hG,λp h=>h,Bj F,f5,λp hp=>mk p ?_,λ{n η Q E} q=>?_,λ{n η Q E} q=>?_⟩
 ·exact List.mem_append_left [(az,ax)] hp
 ·obtain ⟨d,hd,hs⟩:=ou (t:=(aw,98,1)) (by simp [nN])
  rw [hd] at x4
  obtain ⟨fd,FN,p1,p2,p3,q1,q2,q3,q4,q5,q6⟩:=uh (R:=aw) (d:=d) (dv:= .ref 705) x4 hs
  rw [<-p1] at q1 q2 q3 q4 q5
  have eb:=kG hd
  have em:=Hc
  obtain ⟨o,ho,h⟩:=ff f8
  obtain ⟨items,hi,h⟩:=ff h
  obtain ⟨v1,_,rfl,⟨t1,rfl⟩,v2,_,rfl,⟨t2,rfl⟩,v3,_,rfl,⟨t3,rfl⟩,v4,_,rfl,⟨t4,rfl⟩,v5,_,rfl,⟨t5,rfl⟩,rfl⟩:=j3 (P:=w.params) (Z:=default) h
  unfold nS at hi
  split at hi
  ·rename_i it k hit
   have:it= #[.int 64 t1, .int 50 t2, .int 1000000 t3, .int 100000 t4, .int 10000 t5]:=Array.toList_inj.mp (Option.some.inj hi)
   subst this
   obtain ⟨m1,m2,m3⟩:=mk (az,ax) (.tail _ (.tail _ (.tail _ (.head _))))
   exact BF (G:=yo w K os) hG (λp h=>h) (body:=d.2.1) FN (by refine rV eb ?_;exact em) (p2▸q6) q1 q2 q3 q4 q5 p3 ho hit m1 m2 m3 q
  ·cases hi
 ·obtain ⟨d,hd,hs⟩:=ou (t:=(Bn,121,0)) (by simp [nN])
  rw [hd] at x3
  obtain ⟨fd,FN,p1,p2,p3,q1,q2,q3,q4,q5,q6⟩:=uh (R:=Bn) (d:=d) (dv:= .none) x3 hs
  rw [<-p1] at q1 q2 q3 q4 q5
  have eb:=kG hd
  have hb:=mT (vals:= []) q1 q2 q3 q4 q5 p3 List.nodup_nil rfl
  have FN':sX (yo w K os).K aC fd [.Return (some (Cv eW kW (sV (j9 Cy)))) (sP (j9 Cy))] [] [] 0:=by
   refine rV Hb (rW (show Cy=d.2.1 from eb) ?_);exact FN
  exact wd FN' hb q
end

theorem zF {R:WRecords}{P:Params}{h:Heap}:∀{xs:List WData} {vs:List Value},WShape.hasItems R xs .int=true->WellAll P h vs xs->∃s:List Int,xs=s.map .int/\ar P h (s.map .int) vs:=by
 intro xs
 induction xs with
 | nil=>intro vs _ w;cases w;exact ⟨[],rfl,rfl⟩
 | cons x xs ih=>
  intro vs hi w
  obtain ⟨h1,h2⟩:=Bool.and_eq_true_iff.mp (show (WShape.has R x .int&&WShape.hasItems R xs .int)=true from hi)
  obtain ⟨i,rfl⟩:=hasW_int h1
  cases w with|cons w1 w2=>
  obtain ⟨s,rfl,rs⟩:=ih h2 w2
  cases w1
  exact ⟨i::s,rfl,_,_,rfl,bh,rs⟩
set_option tactic.hygienic true in
theorem z0 {P:Params}{h:Heap}{args:List WData}{vals:List Value}(hp:rL.toRowW.claim.pre args=true)(hw:WellAll P h vals args):∃s:List Int,s.length<=63/\args= [.list (s.map .int)]/\ar P h [.lst (s.map .int)] vals:=by
 obtain ⟨h1,h2⟩:=pre_splitW hp
 obtain ⟨d,r,rfl,h3,h4⟩:=hasAllW_cons h1
 obtain rfl:=hasAllW_nil h4
 obtain ⟨xs,rfl,h5⟩:=hasW_list h3
 cases hw with
 | cons w1 w2=>
  cases w2
  cases w1 with
  | list ho hws=>
   obtain ⟨s,rfl,rs⟩:=zF h5 hws
   refine ⟨s,?_,rfl,_,[],rfl,⟨_,_,_,rfl,ho,rs⟩,rfl⟩
   w_cond h2
   rename_i hc _
   rw [List.length_map] at hc
   exact lA (Int.ofNat_le.mp (Int.not_lt.mp hc))
noncomputable def YP (w:World)(h:Heap):Prop:=∃K:Frag,K.In h/\Facts w.params K
theorem CC (w:World)(s:Shared)(e:Yf s=Ya w):YP w s.heap:=by
 unfold Yf yK Ya at e
 simp only [Prod.mk.injEq] at e
 exact ⟨_,xF s.heap,e.1,e.2.1,e.2.2.1,e.2.2.2⟩
theorem yv (w:World)(h h':Heap)(y:YP w h)(k:∀b o,h.get? b=some o->h'.get? b=some o):YP w h':=by
 obtain ⟨K,X,F⟩:=y
 exact ⟨K,X.keeps k,F⟩
theorem BK:(Str.ofString "law",mW)∈oA:=mem_of_lookup (by kernel_rfl)
theorem sU:gA callerA [] 53:=⟨rfl,rfl,rfl,by decide,by decide⟩
set_option tactic.hygienic true in
theorem xl {w:World}{s:Shared}{mg mb:Str->Option Value}{fa:Addr}{xs:List Int}{vals:List Value}(lim:s.heap.NoLimit)(g:s.heap.Ns mainGlobals mg)(b:s.heap.Ns builtinsNs mb)(Y:YP w s.heap)(hf:mg "law"=some (.ref fa))(hg:s.gens= #[])
  (hl:xs.length<=63) (r:ar w.params s.heap [.lst (xs.map .int)] vals):
  wpAny (model P0 w) callerA (call (.ref fa) vals) (λv s'=>v= .bool true/\(∀a o,s.heap.get? a=some o->s'.heap.get? a=some o)/\s'.os=s.os/\s'.gens= #[]) (λξ ξ=>False) s:=by
 obtain ⟨K,X,F⟩:=Y
 have B:=DS (os:=s.os) F X lim g b
 obtain rfl:fa=mW:=by
  have h1:=F.parts.1 _ (w' BK)
  unfold gB at h1
  split at h1
  ·rename_i v hv
   have:=jX X g hv
   rw [hf] at this
   cases this
   have:=beq_iff_eq.mp (show (Value.ref mW==Value.ref fa)=true from h1)
   injection this with q
   exact q.symm
  ·rename_i hv
   have:=jX X g hv
   rw [hf] at this;cases this
  ·cases h1
 have S:Sx (yo w K s.os) s.heap nul [] s:=⟨⟨λξ ξ e=>e,λa x q=>(nomatch q),λf hf=>(nomatch hf),λa ha=>(nomatch ha),List.nodup_nil,trivial⟩,B,hg,rfl⟩
 have L:=Ba (G:=yo w K s.os) (DD F) (n:=0) (s:=xs) (η:=nul) (Q:=λX ξ=>X= .bool true) (E:=False) hl (λξ=>rfl)
 refine wpAny_mono (L.run sU S r) (λv s' ⟨Z',η',X,hz,S',rx,e⟩=>?_) λξ ξ x=>x.1
 subst e
 exact ⟨eT rx,λa o h=>S'.st.z _ _ (hz _ _ h),S'.os,S'.gens⟩
theorem yy {d:DefRec}{kwd:List (Str×Expr)}(hn:d.name=Str.ofString "law"):WalkO qL yk (λξ ξ=>True) YP rL.toRowW d kwd λf vs=>PySem.call f vs:=by
 intro w s₀ s₁ mg mb G Y fa o pm cd doc dV kV ho hd hcd hD hmg hg args vals as hpre hlay hrd hwl hlo
 obtain ⟨s,hl,rfl,r⟩:=z0 hpre hwl
 rw [hn] at hmg
 refine wpAny_mono (xl G.T.nolimit G.T.g G.T.b Y hmg hg hl r) (λv s' ⟨hv,hk,hos,hgs⟩=>?_) λξ ξ x=>x.elim
 subst hv
 exact GoodW.toG ⟨.inl ⟨_, .bool true,[],rfl,λcls=>rfl, .bool true,by wrow_post,λξ=>⟨List.nodup_nil,λa ha=>(nomatch ha)⟩⟩,hk,hos,hgs⟩
theorem uC:rL.Holds:=
 PySem.W.holds_open (r:=rL) (q:=qL) (loose:=yk) (Xt:=λξ=>true) (XP:=λξ ξ=>True) (Yf:=Yf) (Ya:=Ya) (YP:=YP) (d:=dL.1) (kwd:=dL.2) (N:=20000) zy CC yv (λξ ξ=>trivial) (λξ ξ ξ ξ ξ=>trivial) BW A2 Dv (λξ ξ=>recFacts_of rfl) rfl tn yD
  zY AN (yy Dk)
theorem holds:PySem.Challenge.rw_qd0154_01.Holds:=⟨xj,uC⟩
end Mine
theorem PySem.Challenge.cw_qd0154_01_holds : PySem.Challenge.rw_qd0154_01.Holds :=
  Mine.holds
