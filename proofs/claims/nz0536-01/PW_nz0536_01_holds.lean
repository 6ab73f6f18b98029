import PyProof.Rows.All
import Wide.All
import OpenK.AllK
import Wide.FinOn
import KE.KIsNot
import PyProof.ExcBaseAll.Exception
import PyProof.ExcAttrAll.Exception
import KE.KLam
import Lean
import PySem.Challenge.RW_nz0536_01
set_option Elab.async false
set_option genSizeOf false
set_option genInjectivity false
set_option genCtorIdx false
set_option linter.all false
set_option maxRecDepth 100000
set_option maxHeartbeats 0
noncomputable section
namespace Mine.Internal.Hd
open PySem PySem.W
noncomputable abbrev PP:Program:=PySem.Challenge.pw_nz0536_01
noncomputable def S:List Stmt:=PP.main.body
noncomputable def sN(i:Nat):Stmt:=(S[i]?).getD (.Pass ⟨0,0,0,0⟩)
set_option backward.match.sparseCases false in
noncomputable def fF:Stmt→Arguments×List Stmt×Scope×Str
|.FunctionDef n a b _ _ _ s _ _ _=>(a,b,s,n)
|.ClassDef _ _ _ b _ _ _ _ _ _ _=>(⟨[],[],none,[],[],none,[]⟩,b,default,Str.ofString "")
|_=>(⟨[],[],none,[],[],none,[]⟩,[],default,Str.ofString "")
noncomputable def aF(x:Stmt):=(fF x).1
noncomputable def bF(x:Stmt):=(fF x).2.1
noncomputable def MY(x:Stmt):=(fF x).2.2.1
noncomputable def G8(x:Stmt):=(fF x).2.2.2
noncomputable def cb(i j:Nat):Stmt:=((bF (sN i))[j]?).getD (.Pass ⟨0,0,0,0⟩)
noncomputable abbrev N:Value:=.none
noncomputable abbrev r(a:Nat):Value:=.ref a
noncomputable abbrev n(i:Int)(t:Nat):Value:=.int i t
noncomputable abbrev s(x:String)(t:Nat):Value:=.str (Str.ofString x) t
noncomputable abbrev e(P:Params)(x:String)(t:Nat)(v:Value):DictEntry:=⟨PyData.keyHash P (Str.ofString x),.str (Str.ofString x) t,v⟩
noncomputable abbrev tu(l:List Value):Obj:=⟨.type "tuple",none,.seq l.toArray 0,#[]⟩
noncomputable abbrev tb(l:List Value):Obj:=⟨.none,none,.fields l.toArray,#[]⟩
noncomputable abbrev co(l:List Value):Obj:=⟨.type "code",none,.fields l.toArray,#[]⟩
noncomputable def cA(t:BT)(k:Nat):List Obj→BT
|[]=>t
|o::l=>cA (t.ins k o) (k+1) l
noncomputable def Q0:NameKind→Bool
|.local=>true
|_=>false
noncomputable def nl(st:Stmt):List Str:=((MY st).names.filter λx=>Q0 x.2).map (·.1)
noncomputable def vl(t:Nat):List Str→List Value
|[]=>[]
|x::l=>.str x t::vl (t+1) l
noncomputable def fr(st:Stmt)(q:Str):Obj:=⟨.none,none,.func {name:=G8 st,qualname:=q,params:=aF st,body:=.stmts (bF st),scope:=MY st,globals:=0,closure:=[],defaults:=.none,kwdefaults:=.none},#[]⟩
noncomputable def fn(st:Stmt)(q:Str)(d m C:Value):Obj:=⟨.type "function",none,.func {name:=G8 st,qualname:=q,params:=aF st,body:=.stmts (bF st),scope:=MY st,globals:=3,closure:=[],defaults:=d,kwdefaults:=.none,pyModule:=m,code:=C,builtins:=0},#[]⟩
noncomputable def cO(st:Stmt)(q:Str)(k f t u:Nat)(v w:Value):Obj:=co [.str (G8 st) t,.str q (t+1),s "/claim/cut.py" (t+2),n st.pos.line 0,n (aF st).args.length 0,n 0 0,n 0 0,n 3 0,r k,.bool true,n 181 0,r (k+1),N,v,w,r f,n u 0,n st.pos.line 0,s "/claim/cut.py" (u+1)]
noncomputable def AA(st:Stmt)(p:String)(k t:Nat)(d m:Value):List Obj:=let q:=Str.ofString p++G8 st;[tu [],tb [],tu (vl (t+3) (nl st)),tu [],fr st q,cO st q k (k+4) t (t+3+(nl st).length) (r (k+2)) (r (k+3)),fn st q d m (r (k+5))]
noncomputable def GG(st:Stmt)(p:String)(k t:Nat)(d m:Value):List Obj:=let q:=Str.ofString p++G8 st;[tu [],tb [],fr st q,cO st q k (k+2) t (t+3) N N,fn st q d m (r (k+3))]
noncomputable def A(i k t:Nat)(m:Value):List Obj:=AA (sN i) "" k t N m
noncomputable def G(i k t:Nat)(m:Value):List Obj:=GG (sN i) "" k t N m
noncomputable def q(P:Params)(i k t:Nat):DictEntry:=⟨PyData.keyHash P (G8 (sN i)),.str (G8 (sN i)) t,r k⟩
noncomputable abbrev m0:Value:=s "__main__" 164
noncomputable abbrev m1:Value:=s "vectorcove.rational" 194
noncomputable abbrev m2:Value:=s "vectorcove.numtext" 335
noncomputable abbrev m3:Value:=s "vectorcove.errors" 528
noncomputable abbrev m4:Value:=s "vectorcove.values" 575
noncomputable abbrev m5:Value:=s "vectorcove.attrs" 678
noncomputable abbrev m6:Value:=s "vectorcove.coerce" 738
noncomputable abbrev m7:Value:=s "vectorcove.index" 874
noncomputable abbrev m8:Value:=s "vectorcove.attrcalls" 885
noncomputable abbrev m9:Value:=s "vectorcove.callargs" 904
noncomputable abbrev DE:Value:=s "vectorcove.sorting" 1033
noncomputable abbrev DD:Value:=s "vectorcove.cuts" 1138
noncomputable abbrev MQ:Value:=s "vectorcove.factors" 1225
noncomputable abbrev Qh:Value:=s "vectorcove.factorcalls" 1256
noncomputable abbrev yS:Value:=s "law_nz0536_01" 1295
noncomputable def Qc(P:Params):Obj:=tu []
noncomputable def Ri(P:Params):Obj:=co [s "<module>" 182,s "<module>" 183,s "/claim/cut.py" 184,n 1 0,n 0 0,n 0 0,n 0 0,n 0 0,r 11,(.bool false),n 181 0,r 12,N,N,N,N,n 185 0,n 1 0,s "/claim/cut.py" 186]
noncomputable def Q4(P:Params):Obj:=⟨(.type "frame"),none,.plain,#[(some (r 13)),(some (r 3)),(some (r 3)),none,(some (s "__main__" 164)),none,(some (r 0))]⟩
noncomputable def Ro(P:Params):Obj:=tu [n 0 196,n 0 197]
noncomputable def Q1(P:Params):Obj:=tu [n 1 199,n 0 200]
noncomputable def Rf(P:Params):Obj:=tu [n 0 202,n 1 203]
noncomputable def OR(P:Params):Obj:=tu [n 7 451]
noncomputable def Ny(P:Params):Obj:=tu [(.type "Exception")]
noncomputable def Pr(P:Params):Obj:=⟨(.type "builtin_function_or_method"),none,(.fields #[(.builtin "type.__prepare__"),(.type "type")]),#[]⟩
noncomputable def Og(P:Params):Obj:=⟨(.type "dict"),none,(.dict #[(e P "__module__" 537 (s "vectorcove.errors" 528)),(e P "__qualname__" 539 (s "CoveError" 538)),(e P "__firstlineno__" 541 (n 278 540)),(e P "__static_attributes__" 542 (r 269))] 4),#[]⟩
noncomputable def P5(P:Params):Obj:=tu []
noncomputable def Pf(P:Params):Obj:=tb []
noncomputable def NX(P:Params):Obj:=co [s "CoveError" 532,s "CoveError" 533,s "/claim/cut.py" 534,n 278 0,n 0 0,n 0 0,n 0 0,n 0 0,r 265,(.bool false),n 181 0,r 266,N,N,N,N,n 535 0,n 278 0,s "/claim/cut.py" 536]
noncomputable def Oh(P:Params):Obj:=⟨(.type "frame"),none,.plain,#[(some (r 267)),(some (r 3)),(some (r 264)),none,(some (s "vectorcove.errors" 528)),none,(some (r 0))]⟩
noncomputable def NZ(P:Params):Obj:=tu []
noncomputable def E9(P:Params):Obj:=⟨(.type "dict"),none,(.dict #[(e P "__module__" 537 (s "vectorcove.errors" 528)),(e P "__firstlineno__" 541 (n 278 540)),(e P "__static_attributes__" 542 (r 269)),(e P "__weakref__" 544 (r 272)),(e P "__doc__" 545 N)] 3),#[]⟩
noncomputable def Ol(P:Params):Obj:=⟨(.type "getset_descriptor"),none,(.fields #[s "__weakref__" 543,r 271,(.builtin "ExceptionGroup.__weakref__"),N]),#[]⟩
noncomputable def Pe(P:Params):Obj:=⟨(.type "super"),none,(.fields #[r 271,r 271,r 271]),#[]⟩
noncomputable def Oj(P:Params):Obj:=⟨(.type "builtin_function_or_method"),none,(.fields #[(.builtin "object.__init_subclass__"),r 271]),#[]⟩
noncomputable def P0(P:Params):Obj:=tu [r 271]
noncomputable def Ob(P:Params):Obj:=⟨(.type "builtin_function_or_method"),none,(.fields #[(.builtin "type.__prepare__"),(.type "type")]),#[]⟩
noncomputable def M8(P:Params):Obj:=⟨(.type "dict"),none,(.dict #[(e P "__module__" 557 (s "vectorcove.errors" 528)),(e P "__qualname__" 559 (s "Refusal" 558)),(e P "__firstlineno__" 561 (n 280 560)),(e P "__init__" 569 (r 288)),(e P "__static_attributes__" 571 (r 289))] 5),#[]⟩
noncomputable def OH(P:Params):Obj:=tu []
noncomputable def OB(P:Params):Obj:=tb [n 282 0,n 4 0,r 287]
noncomputable def Ph(P:Params):Obj:=co [s "Refusal" 552,s "Refusal" 553,s "/claim/cut.py" 554,n 280 0,n 0 0,n 0 0,n 0 0,n 0 0,r 278,(.bool false),n 181 0,r 279,N,N,N,N,n 555 0,n 280 0,s "/claim/cut.py" 556]
noncomputable def NY(P:Params):Obj:=⟨(.type "frame"),none,.plain,#[(some (r 280)),(some (r 3)),(some (r 277)),none,(some (s "vectorcove.errors" 528)),none,(some (r 0))]⟩
noncomputable def PJ(P:Params):Obj:=tu [s "message" 570]
noncomputable def Lk(P:Params):Obj:=⟨(.type "dict"),none,(.dict #[(e P "__module__" 557 (s "vectorcove.errors" 528)),(e P "__firstlineno__" 561 (n 280 560)),(e P "__init__" 569 (r 288)),(e P "__static_attributes__" 571 (r 289)),(e P "__doc__" 572 N)] 2),#[]⟩
noncomputable def Be(P:Params):Obj:=⟨(.type "type"),none,(.cls {name:="Refusal",bases:=[r 271],mro:=[r 291,r 271,(.type "Exception"),(.type "BaseException"),(.type "object")],ns:=290,qualname:="Refusal",hasDict:=true,slotNames:=[],subclasses:=[],abstract:=false,collection:=none,hasDel:=false}),#[(some (r 275)),none,(some (s "Refusal" 550)),(some (s "Refusal" 558)),(some (.builtin "Exception.__new__")),(some (.bool true))]⟩
noncomputable def NM(P:Params):Obj:=⟨(.type "super"),none,(.fields #[r 291,r 291,r 291]),#[]⟩
noncomputable def Oz(P:Params):Obj:=⟨(.type "builtin_function_or_method"),none,(.fields #[(.builtin "object.__init_subclass__"),r 291]),#[]⟩
noncomputable def OS(P:Params):Obj:=tu []
noncomputable def PH(P:Params):Obj:=⟨(.type "builtin_function_or_method"),none,(.fields #[(.builtin "type.__prepare__"),(.type "type")]),#[]⟩
noncomputable def NO(P:Params):Obj:=⟨(.type "dict"),none,(.dict #[(e P "__module__" 586 (s "vectorcove.values" 575)),(e P "__qualname__" 588 (s "Vector" 587)),(e P "__firstlineno__" 590 (n 286 589)),(e P "__init__" 600 (r 308)),(e P "copy" 607 (r 315)),(e P "__static_attributes__" 613 (r 316))] 6),#[]⟩
noncomputable def Pn(P:Params):Obj:=tu []
noncomputable def PO(P:Params):Obj:=tb [n 288 0,n 4 0,r 307,n 295 0,n 4 0,r 314]
noncomputable def Of(P:Params):Obj:=co [s "Vector" 581,s "Vector" 582,s "/claim/cut.py" 583,n 286 0,n 0 0,n 0 0,n 0 0,n 0 0,r 297,(.bool false),n 181 0,r 298,N,N,N,N,n 584 0,n 286 0,s "/claim/cut.py" 585]
noncomputable def PC(P:Params):Obj:=⟨(.type "frame"),none,.plain,#[(some (r 299)),(some (r 3)),(some (r 296)),none,(some (s "vectorcove.values" 575)),none,(some (r 0))]⟩
noncomputable def N8(P:Params):Obj:=tu [N]
noncomputable def O9(P:Params):Obj:=tu [s "attrs" 608,s "items" 609,s "kind" 610,s "loose" 611,s "shared" 612]
noncomputable def KH(P:Params):Obj:=⟨(.type "dict"),none,(.dict #[(e P "__module__" 586 (s "vectorcove.values" 575)),(e P "__firstlineno__" 590 (n 286 589)),(e P "__init__" 600 (r 308)),(e P "copy" 607 (r 315)),(e P "__static_attributes__" 613 (r 316)),(e P "__dict__" 615 (r 319)),(e P "__weakref__" 617 (r 320)),(e P "__doc__" 618 N)] 4),#[]⟩
noncomputable def J7(P:Params):Obj:=⟨(.type "type"),none,(.cls {name:="Vector",bases:=[(.type "object")],mro:=[r 318,(.type "object")],ns:=317,qualname:="Vector",hasDict:=true,slotNames:=[],subclasses:=[],abstract:=false,collection:=none,hasDel:=false}),#[none,none,(some (s "Vector" 579)),(some (s "Vector" 587)),(some (.builtin "object.__new__")),(some (.bool true))]⟩
noncomputable def Nj(P:Params):Obj:=⟨(.type "getset_descriptor"),none,(.fields #[s "__dict__" 614,r 318,(.builtin "function.__dict__"),(.builtin "function.__dict__#set")]),#[]⟩
noncomputable def Oa(P:Params):Obj:=⟨(.type "getset_descriptor"),none,(.fields #[s "__weakref__" 616,r 318,(.builtin "ExceptionGroup.__weakref__"),N]),#[]⟩
noncomputable def NG(P:Params):Obj:=⟨(.type "super"),none,(.fields #[r 318,r 318,r 318]),#[]⟩
noncomputable def PY(P:Params):Obj:=⟨(.type "builtin_function_or_method"),none,(.fields #[(.builtin "object.__init_subclass__"),r 318]),#[]⟩
noncomputable def Nb(P:Params):Obj:=tu []
noncomputable def O0(P:Params):Obj:=⟨(.type "builtin_function_or_method"),none,(.fields #[(.builtin "type.__prepare__"),(.type "type")]),#[]⟩
noncomputable def Py(P:Params):Obj:=⟨(.type "dict"),none,(.dict #[(e P "__module__" 913 (s "vectorcove.callargs" 904)),(e P "__qualname__" 915 (s "Matching" 914)),(e P "__firstlineno__" 917 (n 525 916)),(e P "__init__" 926 (r 571)),(e P "exact" 935 (r 578)),(e P "partial" 943 (r 585)),(e P "partial_of" 953 (r 592)),(e P "positional" 962 (r 599)),(e P "is_free" 970 (r 606)),(e P "rest" 976 (r 611)),(e P "__static_attributes__" 981 (r 612))] 11),#[]⟩
noncomputable def N2(P:Params):Obj:=tu []
noncomputable def PD(P:Params):Obj:=tb [n 527 0,n 4 0,r 570,n 533 0,n 4 0,r 577,n 543 0,n 4 0,r 584,n 550 0,n 4 0,r 591,n 561 0,n 4 0,r 598,n 573 0,n 4 0,r 605,n 576 0,n 4 0,r 610]
noncomputable def M3(P:Params):Obj:=co [s "Matching" 908,s "Matching" 909,s "/claim/cut.py" 910,n 525 0,n 0 0,n 0 0,n 0 0,n 0 0,r 561,(.bool false),n 181 0,r 562,N,N,N,N,n 911 0,n 525 0,s "/claim/cut.py" 912]
noncomputable def NU(P:Params):Obj:=⟨(.type "frame"),none,.plain,#[(some (r 563)),(some (r 3)),(some (r 560)),none,(some (s "vectorcove.callargs" 904)),none,(some (r 0))]⟩
noncomputable def NA(P:Params):Obj:=tu [s "formals" 977,s "places" 978,s "tags" 979,s "used" 980]
noncomputable def Kb(P:Params):Obj:=⟨(.type "dict"),none,(.dict #[(e P "__module__" 913 (s "vectorcove.callargs" 904)),(e P "__firstlineno__" 917 (n 525 916)),(e P "__init__" 926 (r 571)),(e P "exact" 935 (r 578)),(e P "partial" 943 (r 585)),(e P "partial_of" 953 (r 592)),(e P "positional" 962 (r 599)),(e P "is_free" 970 (r 606)),(e P "rest" 976 (r 611)),(e P "__static_attributes__" 981 (r 612)),(e P "__dict__" 983 (r 615)),(e P "__weakref__" 985 (r 616)),(e P "__doc__" 986 N)] 4),#[]⟩
noncomputable def Kz(P:Params):Obj:=⟨(.type "type"),none,(.cls {name:="Matching",bases:=[(.type "object")],mro:=[r 614,(.type "object")],ns:=613,qualname:="Matching",hasDict:=true,slotNames:=[],subclasses:=[],abstract:=false,collection:=none,hasDel:=false}),#[none,none,(some (s "Matching" 906)),(some (s "Matching" 914)),(some (.builtin "object.__new__")),(some (.bool true))]⟩
noncomputable def O4(P:Params):Obj:=⟨(.type "getset_descriptor"),none,(.fields #[s "__dict__" 982,r 614,(.builtin "function.__dict__"),(.builtin "function.__dict__#set")]),#[]⟩
noncomputable def Ot(P:Params):Obj:=⟨(.type "getset_descriptor"),none,(.fields #[s "__weakref__" 984,r 614,(.builtin "ExceptionGroup.__weakref__"),N]),#[]⟩
noncomputable def PX(P:Params):Obj:=⟨(.type "super"),none,(.fields #[r 614,r 614,r 614]),#[]⟩
noncomputable def Oe(P:Params):Obj:=⟨(.type "builtin_function_or_method"),none,(.fields #[(.builtin "object.__init_subclass__"),r 614]),#[]⟩
noncomputable def Oy(P:Params):Obj:=tu [N]
noncomputable def M1(P:Params):Obj:=tu [N]
noncomputable def Pt(P:Params):Obj:=tu [(.bool false),(.bool true)]
noncomputable def Ie(l:List Value)(P:Params):Obj:=⟨(.type "type"),none,(.cls {name:="CoveError",bases:=[(.type "Exception")],mro:=[(r 271),(.type "Exception"),(.type "BaseException"),(.type "object")],ns:=270,qualname:="CoveError",hasDict:=true,slotNames:=[],subclasses:=l,abstract:=false,collection:=none,hasDel:=false}),#[(some (r 262)),none,(some (s "CoveError" 530)),(some (s "CoveError" 538)),(some (.builtin "Exception.__new__")),(some (.bool true))]⟩
noncomputable def mE(P:Params)(nm I:Value):List DictEntry:=[e P "__name__" 165 nm,e P "__doc__" 166 N,e P "__package__" 167 N,e P "__loader__" 168 (.builtin "__main__.__loader__#opaque"),e P "__spec__" 169 N,e P "__annotations__" 170 (r 6),e P "__builtins__" 171 (r 4),e P "__file__" 173 (s "/claim/cut.py" 172),e P "__cached__" 174 N,q P 0 21 193,e P "NAN" 198 (r 22),e P "INF" 201 (r 23),e P "ZERO" 204 (r 24),q P 5 31 212,q P 6 38 221,q P 7 45 228,q P 8 52 235,q P 9 59 242,q P 10 66 249,q P 11 73 257,q P 12 80 264,q P 13 87 272,q P 14 94 280,q P 15 101 288,q P 16 108 296,q P 17 115 304,q P 18 122 314,q P 19 129 324,q P 20 136 334,e P "MOST_EXPONENT" 338 (n (4096) 337),q P 23 143 348,q P 24 150 355,q P 25 157 365,q P 26 164 375,q P 27 171 383,q P 28 178 395,q P 29 185 405,q P 30 192 418,q P 31 199 435,q P 32 206 444,q P 33 211 450,q P 34 219 459,q P 35 226 469,q P 36 233 478,q P 37 240 487,q P 38 247 496,q P 39 254 515,q P 40 261 527,e P "CoveError" 549 (r 271),e P "Refusal" 574 (r 291),e P "MOST_LENGTH" 578 (n (1000000) 577),e P "Vector" 620 (r 318),q P 47 329 627,q P 48 336 634,q P 49 343 641,q P 50 350 648,q P 51 357 655,q P 52 364 663,q P 53 371 670,q P 54 378 677,q P 56 385 687,q P 57 392 695,q P 58 399 703,q P 59 404 709,q P 60 409 715,q P 61 416 723,q P 62 421 729,q P 63 428 737,e P "MOST_INTEGER" 741 (n (2147483647) 740),q P 66 435 749,q P 67 442 756,q P 68 449 765,q P 69 456 775,q P 70 463 783,q P 71 470 792,q P 72 477 801,q P 73 484 809,q P 74 491 819,q P 75 498 826,q P 76 505 836,q P 77 512 844,q P 78 517 850,q P 79 524 858,q P 80 529 864,q P 81 536 873,q P 83 543 884,q P 85 550 895,q P 86 557 903,e P "Matching" 988 (r 614),q P 89 625 995,q P 90 632 1006,q P 91 637 1012,q P 92 643 1018,q P 93 650 1026,q P 94 656 1032,e P "is_lacking" 1042 I,e P "is_lacking_sorting" 1043 (r 663),q P 98 670 1052,q P 99 677 1059,q P 100 684 1075,q P 101 691 1088,q P 102 698 1102,q P 103 703 1108,q P 104 708 1114,q P 105 715 1126,q P 106 723 1137,e P "is_lacking_cuts" 1147 (r 730),q P 110 737 1157,q P 111 742 1163,q P 112 747 1169,q P 113 754 1183,q P 114 759 1189,q P 115 764 1195,q P 116 771 1203,q P 117 778 1218,q P 118 783 1224,q P 120 788 1232,q P 121 795 1239,q P 122 802 1248,q P 123 809 1255,q P 125 816 1282,q P 126 823 1294,q P 128 830 1307,q P 129 837 1314,q P 130 844 1324,q P 131 851 1333,q P 132 858 1343,q P 133 865 1350,q P 134 872 1360,q P 135 877 1366,q P 136 882 1372,q P 137 887 1378,q P 138 894 1391,q P 139 901 1398,q P 140 908 1406,q P 141 913 1412]
noncomputable def tE:List Value:=([(1,20),(8,30),(12,37),(22,44),(26,51),(28,58),(30,65),(32,72),(36,79),(40,86),(50,93),(52,100),(56,107),(64,114),(69,121),(75,128),(86,135),(106,142),(117,149),(125,156),(130,163),(139,170),(144,177),(151,184),(159,191),(166,198),(186,205),(193,210),(197,218),(199,225),(204,232),(208,239),(218,246),(228,253),(260,260),(278,267),(280,280),(286,299),(297,328),(301,335),(303,342),(305,349),(307,356),(311,363),(322,370),(324,377),(329,384),(333,391),(341,398),(345,403),(351,408),(367,415),(372,420),(377,427),(384,434),(387,441),(393,448),(401,455),(407,462),(417,469),(425,476),(431,483),(439,490),(453,497),(455,504),(461,511),(463,516),(477,523),(481,528),(488,535),(503,542),(514,549),(520,556),(525,563),(578,624),(580,631),(589,636),(595,642),(604,649),(608,655),(620,662),(623,669),(631,676),(634,683),(647,690),(653,697),(665,702),(677,707),(681,714),(692,722),(702,729),(705,736),(718,741),(741,746),(754,753),(766,758),(768,763),(775,770),(780,777),(792,782),(807,787),(812,794),(816,801),(822,808),(829,815),(850,822),(856,829),(869,836),(871,843),(877,850),(884,857),(892,864),(894,871),(902,876),(923,881),(933,886),(942,893),(949,900),(953,907),(958,912)]:List (Nat×Nat)).flatMap λx=>[n x.1 0,n 0 0,r x.2]
noncomputable def eO(P:Params)(nm:Value)(k p:Nat)(I:Value):Obj:=⟨.type "dict",none,.dict ((mE P nm I).take k).toArray p,#[]⟩
noncomputable def cK(k:Nat):Obj:=tb (tE.take k)
noncomputable def Mw(P:Params):Obj:=⟨N,none,(.dict #[(e P "type.__subclasses__.Exception.0" 546 (n (271) 0)),(e P "type.__subclasses__.Exception.n" 547 (n (1) 0))] 2),#[]⟩
noncomputable def env:Env:={scope:=PP.main.scope,locals:=mainNs,globals:=mainNs,cells:=[],code:=.ref 13,frame:=some 14}
noncomputable def cE:Code:=.body (behindTheImports PP) env
noncomputable abbrev B:List Frame:=[topFrame ⟨0,0,0,0⟩]
noncomputable def sh(T:Params→BT)(k tk:Nat)(w:World)(os:OsState):SharedT:=⟨T w.params,k,{},#[],{},tk,os⟩
noncomputable def T0(P:Params):BT:=cA .nil 0 [boot_o_0 P,boot_o_1 P,boot_o_2 P,eO P (s "__main__" 164) 9 9 N,boot_o_4 P,boot_o_5 P,boot_o_6 P,boot_o_7 P,boot_o_8 P,boot_o_9 P,boot_o_10 P,Qc P,cK 0,Ri P,Q4 P]
noncomputable def T1(P:Params):BT:=((cA (T0 P) 15 (A 0 15 187 m0++([Ro P,Q1 P,Rf P]++(A 5 25 205 m1++(A 6 32 213 m1++(A 7 39 222 m1++(A 8 46 229 m1++(A 9 53 236 m1++(A 10 60 243 m1++(A 11 67 250 m1++(A 12 74 258 m1++(A 13 81 265 m1++(A 14 88 273 m1++(A 15 95 281 m1)))))))))))))).set 3 (λ_=>eO P (s "vectorcove.rational" 194) 24 24 (r 663))).set 12 (λ_=>cK 36)
noncomputable def g0:List Stmt:=(S.drop 0).take 16
theorem p0(w:World)(os:OsState):segRunT treeTable PP w 11 (some (.ref 6)) 1 401 (sh T0 15 187 w os) (piecesOf g0 env cE ⟨0,0,0,0⟩ B)=some (.next,sh T1 102 289 w os,cE,⟨52,0,55,41⟩):=by
 rw[PySem.W.Fast.te10110043849684766642,PySem.W.Fast.te14364793385576792824];kernel_rfl
noncomputable def T2(P:Params):BT:=((cA (T1 P) 102 (A 16 102 289 m1++(A 17 109 297 m1++(A 18 116 305 m1++(A 19 123 315 m1++(A 20 130 325 m1++(A 23 137 339 m2++(A 24 144 349 m2++(A 25 151 356 m2++(A 26 158 366 m2++(A 27 165 376 m2++(A 28 172 384 m2++(A 29 179 396 m2))))))))))))).set 3 (λ_=>eO P (s "vectorcove.numtext" 335) 37 37 (r 663))).set 12 (λ_=>cK 72)
noncomputable def g1:List Stmt:=(S.drop 16).take 14
theorem p1(w:World)(os:OsState):segRunT treeTable PP w 11 (some (.ref 6)) 1 396 (sh T1 102 289 w os) (piecesOf g1 env cE ⟨52,0,55,41⟩ B)=some (.next,sh T2 186 406 w os,cE,⟨151,0,158,15⟩):=by
 rw[PySem.W.Fast.te10110043849684766642,PySem.W.Fast.te14364793385576792824];kernel_rfl
noncomputable def T3(P:Params):BT:=((cA (T2 P) 186 (A 30 186 406 m2++(A 31 193 419 m2++(A 32 200 436 m2++(G 33 207 445 m2++([OR P]++(AA (sN 34) "" 213 452 (r 212) m2++(A 35 220 460 m2++(A 36 227 470 m2++(A 37 234 479 m2++(A 38 241 488 m2++(A 39 248 497 m2++(A 40 255 516 m2))))))))))))).set 3 (λ_=>eO P (s "vectorcove.errors" 528) 48 48 (r 663))).set 12 (λ_=>cK 105)
noncomputable def g2:List Stmt:=(S.drop 30).take 12
theorem p2(w:World)(os:OsState):segRunT treeTable PP w 11 (some (.ref 6)) 1 373 (sh T2 186 406 w os) (piecesOf g2 env cE ⟨151,0,158,15⟩ B)=some (.next,sh T3 262 530 w os,cE,⟨277,0,277,8⟩):=by
 rw[PySem.W.Fast.te10110043849684766642,PySem.W.Fast.te14364793385576792824];kernel_rfl
noncomputable def T4(P:Params):BT:=(((cA (T3 P) 262 ([Ny P,Pr P,Og P,P5 P,Pf P,NX P,Oh P,NZ P,E9 P,Ie [] P,Ol P,Pe P,Oj P])).set 3 (λ_=>eO P (s "vectorcove.errors" 528) 49 49 (r 663))).set 12 (λ_=>cK 108)).set 2 (λ_=>Mw P)
noncomputable def g3:List Stmt:=(S.drop 42).take 1
theorem p3(w:World)(os:OsState):segRunT treeTable PP w 11 (some (.ref 6)) 1 197 (sh T3 262 530 w os) (piecesOf g3 env cE ⟨277,0,277,8⟩ B)=some (.next,sh T4 275 550 w os,cE,⟨278,0,279,8⟩):=by
 rw[PySem.W.Fast.te10110043849684766642,PySem.W.Fast.te14364793385576792824];kernel_rfl
noncomputable def T5(P:Params):BT:=(((cA (T4 P) 275 ([P0 P,Ob P,M8 P,OH P,OB P,Ph P,NY P]++(AA (cb 43 0) "Refusal." 282 562 N m3++([PJ P,Lk P,Be P,NM P,Oz P])))).set 3 (λ_=>eO P (s "vectorcove.values" 575) 51 51 (r 663))).set 12 (λ_=>cK 111)).set 271 (λ_=>Ie [r 291] P)
noncomputable def g4:List Stmt:=(S.drop 43).take 3
theorem p4(w:World)(os:OsState):segRunT treeTable PP w 11 (some (.ref 6)) 1 264 (sh T4 275 550 w os) (piecesOf g4 env cE ⟨278,0,279,8⟩ B)=some (.next,sh T5 294 579 w os,cE,⟨285,0,285,11⟩):=by
 rw[PySem.W.Fast.te10110043849684766642,PySem.W.Fast.te14364793385576792824];kernel_rfl
noncomputable def T6(P:Params):BT:=((cA (T5 P) 294 ([OS P,PH P,NO P,Pn P,PO P,Of P,PC P,N8 P]++(AA (cb 46 0) "Vector." 302 591 (r 301) m4++(AA (cb 46 1) "Vector." 309 601 N m4++([O9 P,KH P,J7 P,Nj P,Oa P,NG P,PY P]++(A 47 323 621 m4++(A 48 330 628 m4++(A 49 337 635 m4++(A 50 344 642 m4))))))))).set 3 (λ_=>eO P (s "vectorcove.values" 575) 56 56 (r 663))).set 12 (λ_=>cK 126)
noncomputable def g5:List Stmt:=(S.drop 46).take 5
theorem p5(w:World)(os:OsState):segRunT treeTable PP w 11 (some (.ref 6)) 1 377 (sh T5 294 579 w os) (piecesOf g5 env cE ⟨285,0,285,11⟩ B)=some (.next,sh T6 351 649 w os,cE,⟨305,0,306,43⟩):=by
 rw[PySem.W.Fast.te10110043849684766642,PySem.W.Fast.te14364793385576792824];kernel_rfl
noncomputable def T7(P:Params):BT:=((cA (T6 P) 351 (A 51 351 649 m4++(A 52 358 656 m4++(A 53 365 664 m4++(A 54 372 671 m4++(A 56 379 680 m5++(A 57 386 688 m5++(A 58 393 696 m5++(G 59 400 704 m5++(G 60 405 710 m5++(A 61 410 716 m5++(G 62 417 724 m5++(A 63 422 730 m5))))))))))))).set 3 (λ_=>eO P (s "vectorcove.coerce" 738) 69 69 (r 663))).set 12 (λ_=>cK 162)
noncomputable def g6:List Stmt:=(S.drop 51).take 15
theorem p6(w:World)(os:OsState):segRunT treeTable PP w 11 (some (.ref 6)) 1 373 (sh T6 351 649 w os) (piecesOf g6 env cE ⟨305,0,306,43⟩ B)=some (.next,sh T7 429 742 w os,cE,⟨383,0,383,12⟩):=by
 rw[PySem.W.Fast.te10110043849684766642,PySem.W.Fast.te14364793385576792824];kernel_rfl
noncomputable def T8(P:Params):BT:=((cA (T7 P) 429 (A 66 429 742 m6++(A 67 436 750 m6++(A 68 443 757 m6++(A 69 450 766 m6++(A 70 457 776 m6++(A 71 464 784 m6++(A 72 471 793 m6++(A 73 478 802 m6++(A 74 485 810 m6++(A 75 492 820 m6++(A 76 499 827 m6++(A 77 506 837 m6++(G 78 513 845 m6)))))))))))))).set 3 (λ_=>eO P (s "vectorcove.coerce" 738) 82 82 (r 663))).set 12 (λ_=>cK 201)
noncomputable def g7:List Stmt:=(S.drop 66).take 13
theorem p7(w:World)(os:OsState):segRunT treeTable PP w 11 (some (.ref 6)) 1 394 (sh T7 429 742 w os) (piecesOf g7 env cE ⟨383,0,383,12⟩ B)=some (.next,sh T8 518 851 w os,cE,⟨463,0,476,30⟩):=by
 rw[PySem.W.Fast.te10110043849684766642,PySem.W.Fast.te14364793385576792824];kernel_rfl
noncomputable def T9(P:Params):BT:=((cA (T8 P) 518 (A 79 518 851 m6++(G 80 525 859 m6++(A 81 530 865 m6++(A 83 537 876 m7++(A 85 544 887 m8++(A 86 551 896 m8))))))).set 3 (λ_=>eO P (s "vectorcove.callargs" 904) 88 88 (r 663))).set 12 (λ_=>cK 219)
noncomputable def g8:List Stmt:=(S.drop 79).take 9
theorem p8(w:World)(os:OsState):segRunT treeTable PP w 11 (some (.ref 6)) 1 207 (sh T8 518 851 w os) (piecesOf g8 env cE ⟨463,0,476,30⟩ B)=some (.next,sh T9 558 906 w os,cE,⟨524,0,524,8⟩):=by
 rw[PySem.W.Fast.te10110043849684766642,PySem.W.Fast.te14364793385576792824];kernel_rfl
noncomputable def N7(P:Params):BT:=((cA (T9 P) 558 ([Nb P,O0 P,Py P,N2 P,PD P,M3 P,NU P]++(AA (cb 88 0) "Matching." 565 918 N m9++(AA (cb 88 1) "Matching." 572 927 N m9++(AA (cb 88 2) "Matching." 579 936 N m9++(AA (cb 88 3) "Matching." 586 944 N m9++(AA (cb 88 4) "Matching." 593 954 N m9++(AA (cb 88 5) "Matching." 600 963 N m9++(GG (cb 88 6) "Matching." 607 971 N m9++([NA P,Kb P,Kz P,O4 P,Ot P,PX P,Oe P])))))))))).set 3 (λ_=>eO P (s "vectorcove.callargs" 904) 89 89 (r 663))).set 12 (λ_=>cK 222)
noncomputable def g9:List Stmt:=(S.drop 88).take 1
theorem p9(w:World)(os:OsState):segRunT treeTable PP w 11 (some (.ref 6)) 1 419 (sh T9 558 906 w os) (piecesOf g9 env cE ⟨524,0,524,8⟩ B)=some (.next,sh N7 619 989 w os,cE,⟨525,0,577,82⟩):=by
 rw[PySem.W.Fast.te10110043849684766642,PySem.W.Fast.te14364793385576792824];kernel_rfl
noncomputable def P1(P:Params):BT:=((cA (N7 P) 619 (A 89 619 989 m9++(A 90 626 996 m9++(G 91 633 1007 m9++([Oy P]++(GG (sN 92) "" 639 1013 (r 638) m9++(A 93 644 1019 m9++([M1 P]++(GG (sN 94) "" 652 1027 (r 651) m9++(A 96 657 1035 DE++(A 98 664 1044 DE++(A 99 671 1053 DE++(A 100 678 1060 DE++(A 101 685 1076 DE++(A 102 692 1089 DE))))))))))))))).set 3 (λ_=>eO P (s "vectorcove.sorting" 1033) 102 102 (r 663))).set 12 (λ_=>cK 258)
noncomputable def QK:List Stmt:=(S.drop 89).take 14
theorem QX(w:World)(os:OsState):segRunT treeTable PP w 11 (some (.ref 6)) 1 391 (sh N7 619 989 w os) (piecesOf QK env cE ⟨525,0,577,82⟩ B)=some (.next,sh P1 699 1103 w os,cE,⟨653,0,664,40⟩):=by
 rw[PySem.W.Fast.te10110043849684766642,PySem.W.Fast.te14364793385576792824];kernel_rfl
noncomputable def Nk(P:Params):BT:=((cA (P1 P) 699 (G 103 699 1103 DE++(G 104 704 1109 DE++(A 105 709 1115 DE++([Pt P]++(AA (sN 106) "" 717 1127 (r 716) DE++(A 108 724 1140 DD++(A 110 731 1148 DD++(G 111 738 1158 DD++(G 112 743 1164 DD++(A 113 748 1170 DD++(G 114 755 1184 DD++(G 115 760 1190 DD++(A 116 765 1196 DD)))))))))))))).set 3 (λ_=>eO P (s "vectorcove.cuts" 1138) 114 114 (r 730))).set 12 (λ_=>cK 294)
noncomputable def Qi:List Stmt:=(S.drop 103).take 14
theorem Rc(w:World)(os:OsState):segRunT treeTable PP w 11 (some (.ref 6)) 1 371 (sh P1 699 1103 w os) (piecesOf Qi env cE ⟨653,0,664,40⟩ B)=some (.next,sh Nk 772 1204 w os,cE,⟨775,0,779,16⟩):=by
 rw[PySem.W.Fast.te10110043849684766642,PySem.W.Fast.te14364793385576792824];kernel_rfl
noncomputable def PL(P:Params):BT:=((cA (Nk P) 772 (A 117 772 1204 DD++(G 118 779 1219 DD++(G 120 784 1227 MQ++(A 121 789 1233 MQ++(A 122 796 1240 MQ++(A 123 803 1249 MQ++(A 125 810 1258 Qh++(A 126 817 1283 Qh++(A 128 824 1297 yS++(A 129 831 1308 yS++(A 130 838 1315 yS)))))))))))).set 3 (λ_=>eO P (s "law_nz0536_01" 1295) 125 125 (r 730))).set 12 (λ_=>cK 327)
noncomputable def QJ:List Stmt:=(S.drop 117).take 14
theorem Rh(w:World)(os:OsState):segRunT treeTable PP w 11 (some (.ref 6)) 1 381 (sh Nk 772 1204 w os) (piecesOf QJ env cE ⟨775,0,779,16⟩ B)=some (.next,sh PL 845 1325 w os,cE,⟨871,0,876,27⟩):=by
 rw[PySem.W.Fast.te10110043849684766642,PySem.W.Fast.te14364793385576792824];kernel_rfl
noncomputable def bD(P:Params):BT:=((cA (PL P) 845 (A 131 845 1325 yS++(A 132 852 1334 yS++(A 133 859 1344 yS++(A 134 866 1351 yS++(G 135 873 1361 yS++(G 136 878 1367 yS++(G 137 883 1373 yS++(A 138 888 1379 yS++(A 139 895 1392 yS++(A 140 902 1399 yS++(G 141 909 1407 yS)))))))))))).set 3 (λ_=>eO P (s "law_nz0536_01" 1295) 136 136 (r 730))).set 12 (λ_=>cK 360)
noncomputable def QN:List Stmt:=(S.drop 131).take 11
theorem Ru(w:World)(os:OsState):segRunT treeTable PP w 11 (some (.ref 6)) 1 323 (sh PL 845 1325 w os) (piecesOf QN env cE ⟨871,0,876,27⟩ B)=some (.next,sh bD 914 1413 w os,cE,⟨958,0,1001,121⟩):=by
 rw[PySem.W.Fast.te10110043849684766642,PySem.W.Fast.te14364793385576792824];kernel_rfl
noncomputable def ob(k:Nat)(P:Params):Obj:=((bD P).get k).getD (Qc P)
end Mine.Internal.Hd
end
set_option maxHeartbeats 0
noncomputable section
namespace Mine.Internal.Hd
open PySem PySem.W PyProof.Rows
theorem hb:behindTheImports PP=g0++(g1++(g2++(g3++(g4++(g5++(g6++(g7++(g8++(g9++(QK++(Qi++(QJ++(QN++([])))))))))))))):=by kernel_rfl
noncomputable def H1(P:Params):Heap:=absHeap (bD P) 914 {}
theorem pre(w:World)(os:OsState):topGo treeTable PP w 11 (some (.ref 6)) 12 ⟨boot_heap w.params,#[],boot_drawn,boot_toks,os⟩ (topStub PP)=some ((sh T0 15 187 w os).abs,⟨denote treeTable cE,cE,⟨0,0,0,0⟩,B⟩):=by kernel_rfl
theorem Rk(w:World)(os:OsState):segRun treeTable PP w 11 (some (.ref 6)) 1 1 (sh T0 15 187 w os).abs (blockOf (behindTheImports PP) env cE ⟨0,0,0,0⟩ B)=some (.next,(sh T0 15 187 w os).abs,cE,⟨0,0,0,0⟩):=by kernel_rfl
theorem a9(w:World)(os:OsState):topRun treeTable PP w 11 (some (.ref 6)) 2 (sh bD 914 1413 w os).abs ⟨doneF .next,cE,⟨958,0,1001,121⟩,B⟩=some ⟨H1 w.params,#[],{},1413,os⟩:=by kernel_rfl
theorem gA(w:World)(os:OsState):topRun treeTable PP w 11 (some (.ref 6)) (12+(1+(401+(396+(373+(197+(264+(377+(373+(394+(207+(419+(391+(371+(381+(323+2)))))))))))))))) ⟨boot_heap w.params,#[],boot_drawn,boot_toks,os⟩ (topStub PP)=some ⟨H1 w.params,#[],{},1413,os⟩:=
 go_top (pre w os) (piece_block (Rk w os) (by
  rw[hb];exact piece_app (segRun_of (p0 w os)) (piece_app (segRun_of (p1 w os)) (piece_app (segRun_of (p2 w os)) (piece_app (segRun_of (p3 w os)) (piece_app (segRun_of (p4 w os)) (piece_app (segRun_of (p5 w os)) (piece_app (segRun_of (p6 w os)) (piece_app (segRun_of (p7 w os)) (piece_app (segRun_of (p8 w os)) (piece_app (segRun_of (p9 w os)) (piece_app (segRun_of (QX w os)) (piece_app (segRun_of (Rc w os)) (piece_app (segRun_of (Rh w os)) (piece_app (segRun_of (Ru w os)) (piece_nil (a9 w os)))))))))))))))))
noncomputable def qq:Program:={PP with main:={PP.main with body:=[sN 141]}}
noncomputable def loose:List Str:=(["_wall","NAN","INF","ZERO","gcd","make","from_int","is_na","is_nan","is_finite","marked","neg","add","sub","mul","div","to_whole","nearest_whole","exponent","compare","MOST_EXPONENT","whole_text","special_text","scaled","significant","without_tail","scientific_text","fixed_text","measures","chosen_form","formed","common_texts","number_text","digits_value","digit_run","exponent_value","powered","unsigned_number","parse_number","CoveError","Refusal","MOST_LENGTH","Vector","room","integer","double","character","flag","length","is_atomic","share","get_attr","label_text","level_at","label_texts","names_of","dim_of","dimnames_of","class_attr","MOST_INTEGER","note","as_logical_text","double_to_integer","text_to_double","to_logical","to_integer","to_double","to_text","item_as","is_atomic_kind","list_item_as","refuse_type","as_vector_kind","with_names","as_kind","condition","whole_subscripts","one_whole_value","truth_of","Matching","doubled_text","argument_text","unused_text","match_names","needed","take","is_lacking","is_lacking_sorting","compare_items","check_sortable","compare_places","compare_keys","merge_runs","merge_sort","each_key","kept_places","order_by","is_lacking_cuts","range_of","equal_breaks","break_values","interval_code","cut_codes","break_texts","repeats","cut_labels","interval_places","level_texts","factor_class","with_levels","item_texts","b_cut","b_find_interval","_law_row","_law_next","_law_reduced","_law_number","_law_order","_law_lacks","_law_sorted","_law_spread","_law_breaks","_law_code","_law_labels","_law_shown","_law_kept"]:List String).map Str.ofString
theorem op:opening PP=plainProg PP.main.scope.names:=by kernel_rfl
theorem fm(s:Shared):fenceModules? PP s=some s:=by kernel_rfl
theorem size(w:World):((boot_heap w.params).isNs mainGlobals&&(#[]:Array GenState).size==0,(boot_heap w.params).objs.size,(boot_heap w.params).nsMap mainGlobals "__annotations__")=(true,11,some (.ref 6)):=by kernel_rfl
theorem LR(w:World)(os:OsState):(staticsOk (importedModules PP.main.body) (boot_heap w.params) (H1 w.params)&&namesBound PP (H1 w.params)&&gensDone ⟨H1 w.params,#[],{},1413,os⟩&&laidKept (boot_heap w.params) (H1 w.params))=true:=by kernel_rfl
noncomputable abbrev S1(w:World)(os:OsState):Shared:=⟨H1 w.params,#[],{},1413,os⟩
noncomputable abbrev Xt:Shared→Bool:=λ_=>true
theorem aY(w:World)(os:OsState):openSeen qq loose (importedModules PP.main.body) Xt true (S1 w os)=openGood qq loose:=by
 rw[PySem.W.Fast.te4187177175401517315];kernel_rfl
end Mine.Internal.Hd
end
set_option maxHeartbeats 0
noncomputable section
namespace Mine.Internal.Hd
open PySem PySem.W PyProof.Rows
noncomputable abbrev RW:=PySem.Challenge.rw_nz0536_01
theorem c2:RW.footing.all footLine=true:=by rw[PySem.W.Fast.te10501279942588096481];kernel_rfl
theorem c3:noClassBlock RW.prog RW.footing=true:=by rw[PySem.W.Fast.te8179353310426384613];kernel_rfl
theorem c7:noRoadLSs {strict:=true,foot:=some RW.bound',writes:=RW.writes,may:=RW.may} RW.footing=true:=by
 rw[PySem.W.Fast.te8326940854005059898];kernel_rfl
theorem c8:defStands RW.about RW.above=true:=by rw[PySem.W.Fast.te9558739934217749035];kernel_rfl
theorem c9:RW.namesIt=true:=by rw[PySem.W.Fast.te16286561074155671207];kernel_rfl
theorem Rl:RW.bound'.all (λn=> !builtinNamed n||RW.about==[n]|| !RW.reads n)=true:=by
 rw[show @builtinNamed=Fast.qNamed from Fast.named_eq];kernel_rfl
theorem Q3:(namesMeet RW.prog RW.footing (λsc n=>(!(["type","isinstance","issubclass","getattr","hasattr"]:List Str).contains n||sc.names.lookup n==some .globalImplicit)&&
 (RW.may !=some n||sc.kind==.module||sc.names.lookup n==some .globalImplicit)))=true:=by
 rw[PySem.W.Fast.te17119622794617984870];kernel_rfl
theorem Rr:RW.own.all (λn=> !builtinNamed n)=true:=by
 rw[show @builtinNamed=Fast.qNamed from Fast.named_eq];kernel_rfl
theorem Rw:namesMeet RW.prog RW.above (λ_ n=> !RW.own.contains n)=true:=by
 rw[PySem.W.Fast.te17119622794617984870];kernel_rfl
theorem Rj:(namesMeet RW.prog RW.footing λsc n=>sc.kind==.module||sc.names.lookup n !=some .globalExplicit)=true:=by
 rw[PySem.W.Fast.te17119622794617984870];kernel_rfl
theorem d1:noRoadLSs {strict:= !(importedModules PP.main.body).all cThrough.contains,foot:=none,bare:=(["vars","dir","locals"]:List Str).filter (readsOut PP PP.main.body)} PP.main.body=true:=by
 rw[PySem.W.Fast.te8326940854005059898];kernel_rfl
theorem d2:namesMeet PP PP.main.body (λ_ n=>attrL n)=true:=by rw[PySem.W.Fast.te17119622794617984870];kernel_rfl
theorem d3:namesResolve PP=true:=by rw[PySem.W.Fast.te8377067652309620493];kernel_rfl
theorem J0:looksOpen PP=true:=by
 unfold looksOpen;exact look_both (look_both (look_both (look_both (look_both (by kernel_rfl) (by kernel_rfl)) d3) (by kernel_rfl)) d1) d2
theorem k1:RW.row.wellSaid=true:=by
 unfold OpenRow.wellSaid;refine look_both (look_both ?_ (by kernel_rfl)) (by kernel_rfl);unfold OpenRow.partSaid;refine look_both (look_both (look_both (look_both (look_both (look_both (look_both (look_both (look_both (look_both (look_both (look_both (look_both J0 ?_) ?_) ?_) ?_) ?_) ?_) ?_) ?_) ?_) ?_) ?_) ?_) ?_;all_goals kernel_rfl
theorem NB:RW.wellSaid=true:=by
 unfold OpenLaw.wellSaid;exact look_both (look_both (look_both (look_both (look_both (look_both (look_both (look_both (look_both (look_both (look_both (look_both (look_both (look_both (look_both (look_both (look_both (look_both k1 (by kernel_rfl)) c2) c3) (by kernel_rfl)) (by kernel_rfl)) c7) c8) c9) (by kernel_rfl)) Rl) (by kernel_rfl)) (by kernel_rfl)) Q3) (by kernel_rfl)) (by kernel_rfl)) Rr) Rw) Rj
theorem h9:PP.tablesWhole=true:=by
 unfold Program.tablesWhole TablesWhole.wProgram TablesWhole.holds;rw[PySem.W.Fast.te6116379765354995101,PySem.W.Fast.te15985051520779696433];kernel_rfl
noncomputable def Ya(w:World):Heap:=H1 w.params
theorem left:LeftO PP qq loose Xt (λs=>s.heap) Ya 9832:=
 LeftO.of_pieces (boot_open op (by decide+kernel) fm) size gA (by decide+kernel) (λw=>funext λos=>looks_pair (LR w os) (looks_pair (aY w os) rfl))
noncomputable def r9:DefRec:=⟨"law",aF (sN 141),bF (sN 141),MY (sN 141),(sN 141).pos⟩
noncomputable def YP(w:World)(h:Heap):Prop:=∀b o,(H1 w.params).get? b=some o→h.get? b=some o
theorem h1:defOf qq RW.row.name=some (r9,[]):=by kernel_rfl
theorem h2:RW.row.prog.theDef RW.row.name=some (r9.params,r9.body,r9.scope):=by kernel_rfl
theorem h3:kwWritten? r9.params.kwonlyargs r9.params.kw_defaults=some []:=by kernel_rfl
theorem h4(s:Shared):RecFacts RW.row.records s.heap:=recFacts_of (s:=s) (by kernel_rfl)
theorem h5:(chainsOk qq&&opensWell RW.row.prog&&(frees RW.row.toRowW&&RW.row.within.isEmpty))=true:=by kernel_rfl
theorem h6:(!RW.row.writes||RW.row.records.isEmpty)=true:=by kernel_rfl
theorem h8:RW.row.toRowW.promised:=⟨[.list []],by decide+kernel,by decide+kernel⟩
theorem Rd:RW.row.prog.bare:=⟨rfl,rfl,rfl,rfl,rfl,h9⟩
theorem top(Y:WalkO qq loose (λ_ _=>True) YP RW.row.toRowW r9 [] λf v=>PySem.call f v):RW.Holds:=
 holds_law NB λ_=>PySem.W.holds_open (r:=RW.row) (q:=qq) (loose:=loose) (Xt:=Xt) (XP:=λ_ _=>True) (Yf:=λs=>s.heap) (Ya:=Ya) (YP:=YP) (d:=r9) (kwd:=[]) (N:=9832) left
  (λw s e b o h=>by rw[show s.heap=Ya w from e];exact h) (λw h h' y k b o e=>k b o (y b o e)) (λ_ _=>trivial) (λ_ _ _ _ _=>trivial)
  h1 h2 h3 (λs _=>h4 s) h6 k1 h5 Rd h8 Y
end Mine.Internal.Hd
end
namespace Mine.Internal.La
inductive A where
 |v(i:Nat)|c(n:Nat)|b(o:Nat)(x y:A)
noncomputable def cs{Y:Type _}(o i:Nat)(a b:Y):Y:=Bool.rec b a (Nat.beq o i)
noncomputable def hd(l:List Int):Int:=List.rec 0 (λa _ _=>a) l
noncomputable def tl(l:List Int):List Int:=List.rec [] (λ_ a _=>a) l
noncomputable def uy(l:List Int)(i:Nat):Int:=Nat.rec hd (λ_ f l=>f (tl l)) i l
noncomputable def Qy(z:Int):Nat:=Int.rec (λn=>n) (λ_=>0) z
noncomputable def zO(o:Nat)(x y:Int×Nat×Prop):Int:=cs o 0 (x.1+y.1) (cs o 1 (x.1-y.1) (cs o 2 (x.1*y.1) (cs o 3 x.2.1 (cs o 4 (-x.1) (cs o 5 (max x.1 y.1) (min x.1 y.1))))))
noncomputable def nO(o:Nat)(x y:Int×Nat×Prop):Nat:=cs o 0 (x.2.1+y.2.1) (cs o 1 (x.2.1-y.2.1) (cs o 2 (x.2.1*y.2.1) (cs o 3 x.1.toNat (cs o 4 x.1.natAbs (cs o 5 (max x.2.1 y.2.1) (min x.2.1 y.2.1))))))
noncomputable def pO(o:Nat)(x y:Int×Nat×Prop):Prop:=cs o 0 (x.1≤y.1) (cs o 1 (x.1<y.1) (cs o 2 (x.1=y.1) (cs o 3 (x.2.1≤y.2.1) (cs o 4 (x.2.1<y.2.1) (cs o 5 (x.2.1=y.2.1) (cs o 6 (x.2.2→y.2.2) (cs o 7 (x.2.2∧y.2.2) (cs o 8 (x.2.2∨y.2.2) (x.2.2↔y.2.2)))))))))
noncomputable def den(ρ:List Int)(a:A):Int×Nat×Prop:=A.rec (λi=>(uy ρ i,Qy (uy ρ i),False)) (λn=>(Int.ofNat n,n,False)) (λo _ _ x y=>(zO o x y,nO o x y,pO o x y)) a
noncomputable def DA(f:Nat)(m:Bool)(k:Nat)(r:A→Nat→A×Nat):A×Nat:=Nat.rec (λ_ _ _=>(.c 0,0))
 (λ_ p m k r=>Bool.rec
  (cs (k%2) 0 (cs (k/2%4) 3 (r (.v (k/8%8)) (k/64)) (r (.v (k/2%4)) (k/8)))
   (Bool.rec
    (cs (k/2%16) 15 (r (.c (k/32%64)) (k/2048)) (cs (k/2%16) 14 (r (.c (k/32%1024)) (k/32768)) (cs (k/2%16) 13 (cs (k/32%64) 0 (r (.c (2^(k/2048%256))) (k/524288)) (cs (k/32%64) 1 (r (.c (10^(k/2048%64))) (k/131072)) (r (.c (k/2048%2^(k/32%64))) (k/2048/2^(k/32%64))))) (r (.c (k/2%16-7)) (k/32)))))
    (p false (k/32) λx k'=>Bool.rec (p false k' λy K=>r (.b (k/2%16) x y) K) (r (.b (k/2%16) x x) k') (Nat.beq ((k/2%16+1)/2) 2)) (Nat.ble (k/2%16) 6)))
  (cs (k%11) 10 (r (.c 0) (k/11)) (p (Nat.ble 6 (k%11)) (k/11) λx k'=>p (Nat.ble 6 (k%11)) k' λy K=>r (.b (k%11) x y) K)) m) f m k r
noncomputable def A4(k:Nat):A×Nat:=DA 80 true k λa k=>(a,k)
noncomputable def LD(f k:Nat):List Bool:=Nat.rec (λ_=>[]) (λ_ p k=>cs (k%3) 0 [] (cs (k%3) 1 (true::p (k/3)) (false::p (k/3)))) f k
noncomputable def bE(t:List Bool)(f:List Int→Prop):Prop:=List.rec (λf=>f []) (λb _ p f=>Bool.rec (∀x,p λr=>f (x::r)) (∀x,p λr=>f (Int.ofNat x::r)) b) t f
noncomputable def bI(t:List Bool)(f:List Int→Prop):Prop:=List.rec (λf=>f []) (λb _ p f=>Bool.rec (∀{x},p λr=>f (x::r)) (∀{x},p λr=>f (Int.ofNat x::r)) b) t f
noncomputable def Mb(k:Nat):Prop:=bE (LD 12 (A4 k).2) λρ=>(den ρ (A4 k).1).2.2
noncomputable def PW(k:Nat):Prop:=bI (LD 12 (A4 k).2) λρ=>(den ρ (A4 k).1).2.2
noncomputable abbrev Lf:=Int×List Int
noncomputable abbrev Ks:=Lf→List Lf→Bool
noncomputable def wM(a b:List Int):List Int:=List.rec (λb=>b) (λx _ f b=>List.rec (x::f []) (λy Y _=>(x+y)::f Y) b) a b
noncomputable def la(l m:Lf):Lf:=(l.1+m.1,wM l.2 m.2)
noncomputable def lk(k:Int)(l:Lf):Lf:=(k*l.1,l.2.map (k* ·))
noncomputable def ls(l m:Lf):Lf:=la l (lk (-1) m)
noncomputable def Jk(l m:Lf):Lf:=la (-1,[]) (ls m l)
noncomputable def lv(i:Nat):List Int:=Nat.rec [1] (λ_ l=>0::l) i
noncomputable def Qm(z:Int):Bool:=Int.rec (λn=>Nat.blt 0 n) (λ_=>false) z
noncomputable def PN(z:Int):Bool:=Int.rec (λ_=>false) (λ_=>true) z
noncomputable def tV(z:Int):Bool:=Int.rec (λn=>Nat.beq n 0) (λ_=>false) z
noncomputable def Qk(C:List Lf):List Lf:=C.flatMap λp=>cond (tV (hd p.2)) [(p.1,tl p.2)] (cond (Qm (hd p.2)) (C.flatMap λq=>cond (PN (hd q.2)) (let r:=la (lk (-hd q.2) p) (lk (hd p.2) q);[(r.1,tl r.2)]) []) [])
noncomputable def fm(n:Nat)(C:List Lf):Bool:=Nat.rec (λC=>C.any λl=>PN l.1) (λ_ f C=>f (Qk C)) n C
noncomputable abbrev Tm:=(Ks→List Lf→Bool)×(Ks→List Lf→Bool)×(Bool→(List Lf→Bool)→List Lf→Bool)
noncomputable def zb(f g:Ks→List Lf→Bool)(h:Ks→Lf→Lf→List Lf→Bool):Ks→List Lf→Bool:=λk C=>f (λl C=>g (λm C=>h k l m C) C) C
noncomputable def HJ(k:Ks)(l m:Lf)(C:List Lf):Bool:=k (la l m) C
noncomputable def Kf(k:Ks)(l m:Lf)(C:List Lf):Bool:=k (ls l m) C
noncomputable def E5(k:Ks)(l m:Lf)(C:List Lf):Bool:=cond (l.2.all tV) (k (lk l.1 m) C) (cond (m.2.all tV) (k (lk m.1 l) C) false)
noncomputable def FV(k:Ks)(l m:Lf)(C:List Lf):Bool:=k l (ls l m::C)&&k m (ls m l::C)
noncomputable def EA(k:Ks)(l m:Lf)(C:List Lf):Bool:=k l (ls m l::C)&&k m (ls l m::C)
noncomputable def GJ(k:Ks)(l m:Lf)(C:List Lf):Bool:=k (ls l m) (ls l m::C)&&k (0,[]) (ls m l::C)
noncomputable def MD(k:Ks)(l:Lf)(C:List Lf):Bool:=k (lk (-1) l) C
noncomputable def LL(k:Ks)(l:Lf)(C:List Lf):Bool:=k l (l::C)&&k (0,[]) (lk (-1) l::C)
noncomputable def Mq(k:Ks)(l:Lf)(C:List Lf):Bool:=k l (l::C)&&k (lk (-1) l) (lk (-1) l::C)
noncomputable abbrev Pk:=Bool→(List Lf→Bool)→List Lf→Bool
noncomputable def pb(f g:Ks→List Lf→Bool)(h:Bool→(List Lf→Bool)→Lf→Lf→List Lf→Bool):Pk:=λs k C=>f (λl C=>g (λm C=>h s k l m C) C) C
noncomputable def Pb(s:Bool)(k:List Lf→Bool)(l m:Lf)(C:List Lf):Bool:=k (cond s (ls m l) (Jk m l)::C)
noncomputable def Pg(s:Bool)(k:List Lf→Bool)(l m:Lf)(C:List Lf):Bool:=k (cond s (Jk l m) (ls l m)::C)
noncomputable def Pw(s:Bool)(k:List Lf→Bool)(l m:Lf)(C:List Lf):Bool:=cond s (k (ls m l::ls l m::C)) (k (Jk l m::C)&&k (Jk m l::C))
noncomputable def MG(p q:Pk):Pk:=λs k C=>cond s (p false k C&&q true k C) (p true (q false k) C)
noncomputable def Lc(p q:Pk):Pk:=λs k C=>cond s (p true (q true k) C) (p false k C&&q false k C)
noncomputable def QI(p q:Pk):Pk:=λs k C=>cond s (p true k C&&q true k C) (p false (q false k) C)
noncomputable def JR(p q:Pk):Pk:=λs k C=>p true (q s k) C&&p false (q (!s) k) C
noncomputable def tm(t:List Bool)(a:A):Tm:=A.rec
 (λi=>(λk C=>k (0,lv i) C,λk C=>cond (t.getD i false) (k (0,lv i) C) false,λ_ _ _=>false))
 (λn=>(λk C=>k (Int.ofNat n,[]) C,λk C=>k (Int.ofNat n,[]) C,λs k C=>cond s true (k C)))
 (λo _ _ x y=>(cs o 0 (zb x.1 y.1 HJ) (cs o 1 (zb x.1 y.1 Kf) (cs o 2 (zb x.1 y.1 E5) (cs o 3 x.2.1 (cs o 4 (λk=>x.1 (MD k)) (cs o 5 (zb x.1 y.1 FV) (zb x.1 y.1 EA)))))),
  cs o 0 (zb x.2.1 y.2.1 HJ) (cs o 1 (zb x.2.1 y.2.1 GJ) (cs o 2 (zb x.2.1 y.2.1 E5) (cs o 3 (λk=>x.1 (LL k)) (cs o 4 (λk=>x.1 (Mq k)) (cs o 5 (zb x.2.1 y.2.1 FV) (zb x.2.1 y.2.1 EA)))))),
  cs o 0 (pb x.1 y.1 Pb) (cs o 1 (pb x.1 y.1 Pg) (cs o 2 (pb x.1 y.1 Pw) (cs o 3 (pb x.2.1 y.2.1 Pb) (cs o 4 (pb x.2.1 y.2.1 Pg) (cs o 5 (pb x.2.1 y.2.1 Pw) (cs o 6 (MG x.2.2 y.2.2) (cs o 7 (Lc x.2.2 y.2.2) (cs o 8 (QI x.2.2 y.2.2) (JR x.2.2 y.2.2))))))))))) a
noncomputable def Oq(t:List Bool):List Lf:=List.rec [] (λb _ l=>let r:=l.map λp=>(p.1,0::p.2);cond b ((0,[1])::r) r) t
noncomputable def GI(k:Nat):Bool:=(tm (LD 12 (A4 k).2) (A4 k).1).2.2 false (fm (LD 12 (A4 k).2).length) (Oq (LD 12 (A4 k).2))
noncomputable def ku(a x:List Int):Int:=List.rec (λ_=>0) (λa _ f x=>a*hd x+f (tl x)) a x
noncomputable def iq(ρ:List Int)(l:Lf):Int:=l.1+ku l.2 ρ
theorem Fg:∀a,ku a []=0:=by
 intro a;induction a with
 |nil=>rfl
 |cons x a I=>show x*0+ku a []=0;rw[I,Int.mul_zero];rfl
theorem Eb(a):∀b x,ku (wM a b) x=ku a x+ku b x:=by
 induction a with
 |nil=>intro b x;exact(Int.zero_add _).symm
 |cons u a I=>
  intro b x;cases b with
  |nil=>
   show u*hd x+ku (wM a []) (tl x)=u*hd x+ku a (tl x)+0;rw[I];show _+(_+0)=_;rw[Int.add_zero,Int.add_zero]
  |cons v b=>
   show(u+v)*hd x+ku (wM a b) (tl x)=u*hd x+ku a (tl x)+(v*hd x+ku b (tl x));rw[I,Int.add_mul];ac_rfl
theorem EL(k)(a):∀x,ku (a.map (k* ·)) x=k*ku a x:=by
 induction a with
 |nil=>intro x;exact(Int.mul_zero k).symm
 |cons u a I=>intro x;show k*u*hd x+ku (a.map (k* ·)) (tl x)=k*(u*hd x+ku a (tl x));rw[I,Int.mul_add,Int.mul_assoc]
theorem Hf(i):∀x,ku (lv i) x=uy x i:=by
 induction i with
 |zero=>intro x;show 1*hd x+0=hd x;rw[Int.one_mul,Int.add_zero]
 |succ i I=>intro x;show 0*hd x+ku (lv i) (tl x)=uy (tl x) i;rw[I,Int.zero_mul,Int.zero_add]
theorem yY(l m):iq ρ (la l m)=iq ρ l+iq ρ m:=by
 show l.1+m.1+ku (wM l.2 m.2) ρ=l.1+ku l.2 ρ+(m.1+ku m.2 ρ);rw[Eb];ac_rfl
theorem mu(k)(l):iq ρ (lk k l)=k*iq ρ l:=by
 show k*l.1+ku (l.2.map (k* ·)) ρ=k*(l.1+ku l.2 ρ);rw[EL,Int.mul_add]
theorem ju(l m):iq ρ (ls l m)=iq ρ l-iq ρ m:=by
 unfold ls;rw[yY,mu,Int.neg_mul,Int.one_mul];rfl
theorem JN(l m):iq ρ (Jk l m)=iq ρ m-iq ρ l-1:=by
 unfold Jk;rw[yY,ju];rw[Int.add_comm];rfl
noncomputable def Hl(ρ:List Int)(C:List Lf):Prop:=∀l∈C,0≤iq ρ l
theorem Hl.cons{ρ}{C}{l}(h:Hl ρ C)(p:0≤iq ρ l):Hl ρ (l::C):=λm H=>(List.mem_cons.mp H).elim (λe=>e▸p) (h m)
theorem xe(h:tV z=true):z=0:=by
 cases z with
 |ofNat n=>exact congrArg Int.ofNat (Nat.eq_of_beq_eq_true h)
 |negSucc n=>exact absurd h Bool.false_ne_true
theorem Hr(h:Qm z=true):0≤z:=by
 cases z with
 |ofNat n=>exact Int.natCast_nonneg n
 |negSucc n=>exact absurd h Bool.false_ne_true
theorem CP(h:PN z=true):z<0:=by
 cases z with
 |ofNat n=>exact absurd h Bool.false_ne_true
 |negSucc n=>exact Int.negSucc_lt_zero n
theorem CQ(a)(x)(xs):ku a (x::xs)=hd a*x+ku (tl a) xs:=by
 cases a with
 |nil=>show 0=0*x+0;rw[Int.zero_mul];rfl
 |cons u a=>rfl
theorem HA(a b):hd (wM a b)=hd a+hd b:=by
 cases a with
 |nil=>exact(Int.zero_add _).symm
 |cons u a=>
  cases b with
  |nil=>exact(Int.add_zero _).symm
  |cons v b=>rfl
theorem Cs(k)(a):hd (a.map (k* ·))=k*hd a:=by
 cases a with
 |nil=>exact(Int.mul_zero k).symm
 |cons u a=>rfl
theorem CD(h:cond b c false=true):b=true∧c=true:=by
 cases b
 ·exact absurd h Bool.false_ne_true
 ·exact⟨rfl,h⟩
theorem oU{X Y:List H}(h:l∈cond b X Y):(b=true∧l∈X)∨(b=false∧l∈Y):=by
 cases b
 ·exact .inr ⟨rfl,h⟩
 ·exact .inl ⟨rfl,h⟩
theorem yK{r l:Lf}(g:hd r.2=0)(H:0≤iq (x::xs) r)(L:l∈[(r.1,tl r.2)]):0≤iq xs l:=by
 rw[List.mem_singleton.mp L];have:iq (x::xs) r=r.1+ku r.2 (x::xs):=rfl;rw[this,CQ,g,Int.zero_mul,Int.zero_add]at H;exact H
theorem Im(h:Hl (x::xs) C):Hl xs (Qk C):=by
 intro l H;obtain⟨p,P,H⟩:=List.mem_flatMap.mp H;rcases oU H with⟨e,H⟩|⟨_,H⟩
 ·exact yK (xe e) (h p P) H
 ·rcases oU H with⟨E,H⟩|⟨_,H⟩
  ·obtain⟨q,Q,H⟩:=List.mem_flatMap.mp H
   rcases oU H with⟨N,H⟩|⟨_,H⟩
   ·refine yK (x:=x) ?_ ?_ H
    ·show hd (wM (p.2.map (_* ·)) (q.2.map (_* ·)))=0
     rw[HA,Cs,Cs,Int.neg_mul,Int.mul_comm (hd q.2),Int.add_left_neg]
    ·rw[yY,mu,mu]
     exact Int.add_nonneg (Int.mul_nonneg (Int.neg_nonneg_of_nonpos (Int.le_of_lt (CP N))) (h p P)) (Int.mul_nonneg (Hr E) (h q Q))
   ·cases H
  ·cases H
theorem LZ(n):∀ρ C,ρ.length=n→Hl ρ C→fm n C=true→False:=by
 induction n with
 |zero=>
  intro ρ C e h q;cases ρ with
  |cons x ρ=>cases e
  |nil=>
   obtain⟨l,H,q⟩:=List.any_eq_true.mp q;have h:=h l H;unfold iq at h;rw[Fg,Int.add_zero]at h;exact absurd (CP q) (Int.not_lt.mpr h)
 |succ n I=>
  intro ρ C e h q;cases ρ with
  |nil=>cases e
  |cons x ρ=>exact I ρ _ (Nat.succ.inj e) (Im h) q
section
variable{ρ:List Int}
noncomputable def SZ(ρ:List Int)(f:Ks→List Lf→Bool)(z:Int):Prop:=∀k C,f k C=true→Hl ρ C→(∀l C,iq ρ l=z→Hl ρ C→k l C=true→False)→False
noncomputable def SP(ρ:List Int)(f:Pk)(p:Prop):Prop:=∀s k C,f s k C=true→Hl ρ C→Bool.rec (¬p) p s→(∀C,Hl ρ C→k C=true→False)→False
theorem fP{R:Y→U→Prop}(h:R a x)(g:R b y):R (cs o i a b) (cs o i x y):=by
 unfold cs;cases Nat.beq o i
 ·exact g
 ·exact h
variable{f g:Ks→List Lf→Bool}{x y:Int}
theorem zK(d:SZ ρ f x)(u:SZ ρ g y)(H:∀k l m C,iq ρ l=x→iq ρ m=y→h k l m C=true→Hl ρ C→(∀l C,iq ρ l=z→Hl ρ C→k l C=true→False)→False):SZ ρ (zb f g h) z:=by
 intro k C e W q;exact d _ C e W λl C E W e=>u _ C e W λm C M W e=>H k l m C E M e W q
theorem Gq(H:SZ ρ f x)(u:SZ ρ g y):SZ ρ (zb f g HJ) (x+y):=zK H u λk l m C a b e W q=>q _ _ (by rw[yY,a,b]) W e
theorem MJ(H:SZ ρ f x)(u:SZ ρ g y):SZ ρ (zb f g Kf) (x-y):=zK H u λk l m C a b e W q=>q _ _ (by rw[ju,a,b]) W e
theorem uL:∀{x},a.all tV=true→ku a x=0:=by
 induction a with
 |nil=>intro x _;rfl
 |cons u a I=>
  intro x h;rw[List.all_cons,Bool.and_eq_true]at h;show u*hd x+ku a (tl x)=0;rw[xe h.1,I h.2,Int.zero_mul];rfl
theorem Gh(H:SZ ρ f x)(u:SZ ρ g y):SZ ρ (zb f g E5) (x*y):=zK H u λk l m C a b e W q=>by
 unfold E5 at e;cases z:l.2.all tV with
 |true=>
  rw[z]at e;refine q _ _ ?_ W e;rw[mu,b,←a];unfold iq;rw[uL z,Int.add_zero]
 |false=>
  rw[z]at e;obtain⟨z,e⟩:=CD e;refine q _ _ ?_ W e;rw[mu,a,←b,Int.mul_comm];unfold iq;rw[uL z,Int.add_zero]
theorem dO(h:(a&&b)=true):a=true∧b=true:=Bool.and_eq_true _ _|>.mp h
theorem Gw(H:SZ ρ f x)(u:SZ ρ g y):SZ ρ (zb f g FV) (max x y):=zK H u λk l m C a b e W q=>by
 obtain⟨E,j⟩:=dO e;rcases Int.le_total y x with h|h
 ·exact q _ _ (by rw[a,Int.max_eq_left h]) (W.cons (by rw[ju,a,b];exact Int.sub_nonneg_of_le h)) E
 ·exact q _ _ (by rw[b,Int.max_eq_right h]) (W.cons (by rw[ju,a,b];exact Int.sub_nonneg_of_le h)) j
theorem GZ(H:SZ ρ f x)(u:SZ ρ g y):SZ ρ (zb f g EA) (min x y):=zK H u λk l m C a b e W q=>by
 obtain⟨E,j⟩:=dO e;rcases Int.le_total y x with h|h
 ·exact q _ _ (by rw[b,Int.min_eq_right h]) (W.cons (by rw[ju,a,b];exact Int.sub_nonneg_of_le h)) j
 ·exact q _ _ (by rw[a,Int.min_eq_left h]) (W.cons (by rw[ju,a,b];exact Int.sub_nonneg_of_le h)) E
theorem ME(H:SZ ρ f x):SZ ρ (λk=>f (MD k)) (-x):=λk C e W q=>H _ C e W λl C a W e=>q _ _ (by rw[mu,a,Int.neg_mul,Int.one_mul]) W e
theorem CT(a:iq ρ l=x)(h:x≤0):0≤iq ρ (lk (-1) l):=by rw[mu,a,Int.neg_mul,Int.one_mul];exact Int.neg_nonneg_of_nonpos h
theorem L6:iq ρ (0,[])=0:=rfl
theorem J6(H:SZ ρ f x):SZ ρ (λk=>f (LL k)) x.toNat:=λk C e W q=>H _ C e W λl C a W e=>by
 obtain⟨E,j⟩:=dO e;rcases Int.le_total 0 x with h|h
 ·exact q _ _ (by rw[a,Int.toNat_of_nonneg h]) (W.cons (a▸h)) E
 ·exact q _ _ (by rw[L6,Int.toNat_of_nonpos h];rfl) (W.cons (CT a h)) j
theorem Mg(H:SZ ρ f x):SZ ρ (λk=>f (Mq k)) x.natAbs:=λk C e W q=>H _ C e W λl C a W e=>by
 obtain⟨E,j⟩:=dO e;rcases Int.le_total 0 x with h|h
 ·exact q _ _ (by rw[a,Int.natAbs_of_nonneg h]) (W.cons (a▸h)) E
 ·exact q _ _ (by rw[mu,a,Int.neg_mul,Int.one_mul,Int.ofNat_natAbs_of_nonpos h]) (W.cons (CT a h)) j
theorem IZ{m n:Nat}(H:SZ ρ f m)(u:SZ ρ g n):SZ ρ (zb f g GJ) ((m-n:Nat)):=zK H u λk l j C a b e W q=>by
 obtain⟨E,V⟩:=dO e;rcases Nat.le_total n m with h|h
 ·exact q _ _ (by rw[ju,a,b,Int.ofNat_sub h]) (W.cons (by rw[ju,a,b];exact Int.sub_nonneg_of_le (Int.ofNat_le.mpr h))) E
 ·exact q _ _ (by rw[L6,Nat.sub_eq_zero_of_le h];rfl) (W.cons (by rw[ju,a,b];exact Int.sub_nonneg_of_le (Int.ofNat_le.mpr h))) V
theorem Jl{m n:Nat}(H:SZ ρ f m)(u:SZ ρ g n):SZ ρ (zb f g FV) ((max m n:Nat)):=by
 have e:((max m n))=max (m:Int) n:=by
  rcases Nat.le_total m n with h|h
  ·rw[Nat.max_eq_right h,Int.max_eq_right (Int.ofNat_le.mpr h)]
  ·rw[Nat.max_eq_left h,Int.max_eq_left (Int.ofNat_le.mpr h)]
 rw[e];exact Gw H u
theorem IF{m n:Nat}(H:SZ ρ f m)(u:SZ ρ g n):SZ ρ (zb f g EA) ((min m n:Nat)):=by
 have e:((min m n))=min (m:Int) n:=by
  rcases Nat.le_total m n with h|h
  ·rw[Nat.min_eq_left h,Int.min_eq_left (Int.ofNat_le.mpr h)]
  ·rw[Nat.min_eq_right h,Int.min_eq_right (Int.ofNat_le.mpr h)]
 rw[e];exact GZ H u
theorem Hm(d:SZ ρ f x)(u:SZ ρ g y)(H:∀s k l m C,iq ρ l=x→iq ρ m=y→h s k l m C=true→Hl ρ C→Bool.rec (¬p) p s→(∀C,Hl ρ C→k C=true→False)→False):SP ρ (pb f g h) p:=λs k C e W M q=>
 d _ C e W λl C E W e=>u _ C e W λm C Z W e=>H s k l m C E Z e W M q
theorem yg(a:iq ρ l=x)(b:iq ρ m=y)(h:x≤y):0≤iq ρ (ls m l):=by rw[ju,a,b];exact Int.sub_nonneg_of_le h
theorem rC(a:iq ρ l=x)(b:iq ρ m=y)(h:x<y):0≤iq ρ (Jk l m):=by rw[JN,a,b];exact Int.sub_nonneg_of_le (Int.le_sub_left_of_add_le h)
theorem JM(H:SZ ρ f x)(u:SZ ρ g y):SP ρ (pb f g Pb) (x≤y):=Hm H u λs k l m C a b e W h q=>by
 cases s
 ·exact q _ (W.cons (rC b a (Int.not_le.mp h))) e
 ·exact q _ (W.cons (yg a b h)) e
theorem LN(H:SZ ρ f x)(u:SZ ρ g y):SP ρ (pb f g Pg) (x<y):=Hm H u λs k l m C a b e W h q=>by
 cases s
 ·exact q _ (W.cons (yg b a (Int.not_lt.mp h))) e
 ·exact q _ (W.cons (rC a b h)) e
theorem L7(H:SZ ρ f x)(u:SZ ρ g y):SP ρ (pb f g Pw) (x=y):=Hm H u λs k l m C a b e W h q=>by
 cases s
 ·obtain⟨E,j⟩:=dO e
  rcases Int.lt_or_gt_of_ne h with h|h
  ·exact q _ (W.cons (rC a b h)) E
  ·exact q _ (W.cons (rC b a h)) j
 ·exact q _ ((W.cons (yg b a (Int.le_of_eq h.symm))).cons (yg a b (Int.le_of_eq h))) e
variable{p q:Pk}{P Q:Prop}
theorem SP.iff(h:SP ρ p P)(e:P↔Q):SP ρ p Q:=λs k C a H b d=>h s k C a H (by cases s;exactλz=>b (e.mp z);exact e.mpr b) d
theorem Ll(H:SP ρ p P)(Y:SP ρ q Q):SP ρ (MG p q) (P→Q):=λs k C e W h d=>by
 cases s
 ·exact H true _ C e W (Classical.byContradiction λn=>h λz=>absurd z n) λC W e=>Y false k C e W (λz=>h λ_=>z) d
 ·obtain⟨E,j⟩:=dO e
  by_cases z:P
  ·exact Y true k C j W (h z) d
  ·exact H false k C E W z d
theorem J9(H:SP ρ p P)(Y:SP ρ q Q):SP ρ (Lc p q) (P∧Q):=λs k C e W h d=>by
 cases s
 ·obtain⟨E,j⟩:=dO e
  by_cases z:P
  ·exact Y false k C j W (λw=>h ⟨z,w⟩) d
  ·exact H false k C E W z d
 ·exact H true _ C e W h.1 λC W e=>Y true k C e W h.2 d
theorem Pu(H:SP ρ p P)(Y:SP ρ q Q):SP ρ (QI p q) (P∨Q):=λs k C e W h d=>by
 cases s
 ·exact H false _ C e W (λz=>h (.inl z)) λC W e=>Y false k C e W (λz=>h (.inr z)) d
 ·obtain⟨E,j⟩:=dO e
  rcases h with h|h
  ·exact H true k C E W h d
  ·exact Y true k C j W h d
theorem Mj(H:SP ρ p P)(Y:SP ρ q Q):SP ρ (JR p q) (P↔Q):=λs k C e W h d=>by
 obtain⟨E,j⟩:=dO e
 by_cases z:P
 ·refine H true _ C E W z λC W e=>Y s k C e W ?_ d
  cases s
  ·exactλw=>h ⟨λ_=>w,λ_=>z⟩
  ·exact h.mp z
 ·refine H false _ C j W z λC W e=>Y (!s) k C e W ?_ d
  cases s
  ·exact Classical.byContradiction λw=>h ⟨λu=>absurd u z,λu=>absurd u w⟩
  ·exactλw=>z (h.mpr w)
end
theorem Lb(H:∀i,t.getD i false=true→0≤uy ρ i)(a):SZ ρ (tm t a).1 (den ρ a).1∧SZ ρ (tm t a).2.1 ((den ρ a).2.1)∧SP ρ (tm t a).2.2 (den ρ a).2.2:=by
 induction a with
 |v i=>
  have e:iq ρ (0,lv i)=uy ρ i:=by show 0+ku (lv i) ρ=_;rw[Hf,Int.zero_add]
  refine⟨λk C h W q=>q _ _ e W h,λk C h W q=> ?_,λs k C h=>absurd h Bool.false_ne_true⟩;obtain⟨z,h⟩:=CD h;refine q _ _ (e.trans ?_) W h;have p:=H i z;show _=((Qy (uy ρ i):Nat):Int);revert p;generalize uy ρ i=w;cases w with
  |ofNat n=>exactλ_=>rfl
  |negSucc n=>exactλp=>absurd p (Int.not_le.mpr (Int.negSucc_lt_zero n))
 |c n=>
  have e:iq ρ (Int.ofNat n,[])=n:=Int.add_zero _;refine⟨λk C h W q=>q _ _ e W h,λk C h W q=>q _ _ e W h,λs k C h W p q=> ?_⟩;cases s
  ·exact q _ W h
  ·exact p
 |b o x y X Y=>
  obtain⟨A,M,L⟩:=X;obtain⟨b1,b2,B⟩:=Y;refine⟨fP (Gq A b1) (fP (MJ A b1) (fP (Gh A b1) (fP M (fP (ME A) (fP (Gw A b1) (GZ A b1)))))),?_,?_⟩
  ·exact fP (R:=λf(n:Nat)=>SZ ρ f n) (Gq M b2) (fP (R:=λf(n:Nat)=>SZ ρ f n) (IZ M b2) (fP (R:=λf(n:Nat)=>SZ ρ f n) (Gh M b2) (fP (R:=λf(n:Nat)=>SZ ρ f n) (J6 A) (fP (R:=λf(n:Nat)=>SZ ρ f n) (Mg A) (fP (R:=λf(n:Nat)=>SZ ρ f n) (Jl M b2) (IF M b2))))))
  ·exact fP (JM A b1) (fP (LN A b1) (fP (L7 A b1) (fP ((JM M b2).iff Int.ofNat_le) (fP ((LN M b2).iff Int.ofNat_lt) (fP ((L7 M b2).iff Int.ofNat_inj) (fP (Ll L B) (fP (J9 L B) (fP (Pu L B) (Mj L B)))))))))
theorem F2(t):∀{f},(∀ρ,ρ.length=t.length→(∀i,t.getD i false=true→0≤uy ρ i)→Hl ρ (Oq t)→f ρ)→bE t f:=by
 induction t with
 |nil=>exactλh=>h [] rfl (λi e=>by cases i<;>cases e) (λl H=>by cases H)
 |cons b t I=>
  intro f h;have K:∀x:Int,(b=true→0≤x)→bE t λr=>f (x::r):=λx X=>I λρ e P n=>by
   refine h (x::ρ) (congrArg Nat.succ e) (λi q=> ?_) ?_
   ·cases i with
    |zero=>exact X q
    |succ i=>exact P i q
   ·have h2:Hl (x::ρ) ((Oq t).map λp=>(p.1,0::p.2)):=by
     intro l H;obtain⟨p,P,rfl⟩:=List.mem_map.mp H;have:=n p P;show 0≤p.1+(0*x+ku p.2 ρ);rw[Int.zero_mul,Int.zero_add];exact this
    cases b with
    |false=>exact h2
    |true=>
     apply Hl.cons h2;show 0≤0+(1*x+0);rw[Int.one_mul,Int.add_zero,Int.zero_add];exact X rfl
  cases b with
  |false=>exactλx=>K x λq=>absurd q Bool.false_ne_true
  |true=>exactλx=>K (Int.ofNat x) λ_=>Int.natCast_nonneg x
theorem zm(k)(ok:GI k=true):Mb k:=F2 _ λρ e H N=>Classical.byContradiction λn=>(Lb H (A4 k).1).2.2 false _ _ ok N n λC W q=>LZ _ ρ C e W q
theorem zl(k)(ok:GI k=true):PW k:=zm k ok
noncomputable abbrev Po:=List (Int×List Nat)
noncomputable def Dv(i:Nat)(l:List Nat):List Nat:=List.rec [i] (λj l r=>cond (Nat.ble i j) (i::j::l) (j::r)) l
noncomputable def Au(c:Int)(m:List Nat)(p:Po):Po:=List.rec [(c,m)] (λt l r=>cond (t.2==m) ((c+t.1,m)::l) (t::r)) p
noncomputable def lG(c:Int)(m:List Nat)(p q:Po):Po:=List.rec q (λt _ r=>Au (c*t.1) (List.rec t.2 (λi _ r=>Dv i r) m) r) p
noncomputable def FL(p q:Po):Po:=List.rec [] (λt _ r=>lG t.1 t.2 q r) p
noncomputable def rN(a:A):Po:=A.rec (λi=>[(1,[i])]) (λn=>[(Int.ofNat n,[])]) (λo _ _ x y=>cs o 0 (lG 1 [] x y) (cs o 1 (lG (-1) [] y x) (cs o 2 (FL x y) (lG (-1) [] x [])))) a
noncomputable def O7(a:A):Bool:=A.rec (λ_=>true) (λ_=>true) (λo _ _ x y=>Nat.beq (o-4) 0&& !Nat.beq o 3&&x&&y) a
noncomputable def qX(ρ:List Int)(m:List Nat):Int:=List.rec 1 (λi _ r=>uy ρ i*r) m
noncomputable def kX(ρ:List Int)(p:Po):Int:=List.rec 0 (λt _ r=>t.1*qX ρ t.2+r) p
theorem Es(l):qX ρ (Dv i l)=uy ρ i*qX ρ l:=by
 induction l with
 |nil=>rfl
 |cons j l I=>
  show qX ρ (cond (Nat.ble i j) (i::j::l) (j::Dv i l))=uy ρ i*(uy ρ j*qX ρ l);cases Nat.ble i j with
  |true=>rfl
  |false=>show uy ρ j*qX ρ (Dv i l)=_;rw[I,Int.mul_left_comm]
theorem Eh(p):kX ρ (Au c m p)=c*qX ρ m+kX ρ p:=by
 induction p with
 |nil=>rfl
 |cons t l I=>
  show kX ρ (cond (t.2==m) ((c+t.1,m)::l) (t::Au c m l))=c*qX ρ m+(t.1*qX ρ t.2+kX ρ l);cases e:t.2==m with
  |true=>rw[eq_of_beq e];show(c+t.1)*qX ρ m+kX ρ l=_;rw[Int.add_mul,Int.add_assoc]
  |false=>show t.1*qX ρ t.2+kX ρ (Au c m l)=_;rw[I,Int.add_left_comm]
theorem Ec(m):qX ρ (List.rec n (λi _ r=>Dv i r) m)=qX ρ m*qX ρ n:=by
 induction m with
 |nil=>exact(Int.one_mul _).symm
 |cons i m I=>rw[Es,I];show _=uy ρ i*qX ρ m*_;rw[Int.mul_assoc]
theorem k7(p):kX ρ (lG c m p q)=c*qX ρ m*kX ρ p+kX ρ q:=by
 induction p with
 |nil=>show _=_*0+_;rw[Int.mul_zero,Int.zero_add];rfl
 |cons t p I=>
  show kX ρ (Au _ _ (lG c m p q))=c*qX ρ m*(t.1*qX ρ t.2+kX ρ p)+kX ρ q;rw[Eh,I,Ec,Int.mul_add,Int.add_assoc];congr 1
  ac_rfl
theorem Ee(p):kX ρ (FL p q)=kX ρ p*kX ρ q:=by
 induction p with
 |nil=>exact(Int.zero_mul _).symm
 |cons t p I=>show kX ρ (lG t.1 t.2 q (FL p q))=(t.1*qX ρ t.2+kX ρ p)*_;rw[k7,I,Int.add_mul]
theorem Pc(H:kX ρ x=z):kX ρ (lG (-1) [] x [])= -z:=by rw[k7,H];show(-1*1)*_+0=_;rw[Int.add_zero,Int.mul_one,Int.neg_mul,Int.one_mul]
theorem PF(H:kX ρ x=z)(Y:kX ρ y=u):kX ρ (lG (-1) [] y x)=z-u:=by rw[k7,H,Y];show-1*1*_+_=_;rw[Int.mul_one,Int.neg_mul,Int.one_mul,Int.add_comm];rfl
theorem OX(H:kX ρ x=z)(Y:kX ρ y=u):kX ρ (lG 1 [] x y)=z+u:=by rw[k7,H,Y];show 1*1*_+_=_;rw[Int.one_mul,Int.one_mul]
theorem GP(a):O7 a=true→kX ρ (rN a)=(den ρ a).1:=by
 induction a with
 |v i=>intro _;show 1*(uy ρ i*1)+0=uy ρ i;rw[Int.one_mul,Int.mul_one,Int.add_zero]
 |c n=>intro _;show Int.ofNat n*1+0=Int.ofNat n;rw[Int.mul_one,Int.add_zero]
 |b o x y H K=>
  intro h;have h':=h;clear h;obtain⟨h,h2⟩:=dO h';obtain⟨h,h1⟩:=dO h;obtain⟨h,h3⟩:=dO h;replace H:=H h1;replace K:=K h2;clear h1 h2 h';show kX ρ (cs o 0 (lG 1 [] (rN x) (rN y)) (cs o 1 (lG (-1) [] (rN y) (rN x)) (cs o 2 (FL (rN x) (rN y)) (lG (-1) [] (rN x) []))))=zO o (den ρ x) (den ρ y);generalize rN x=X at*;generalize rN y=Y at*;generalize den ρ x=D at*;generalize den ρ y=F at*;cases o with
  |zero=>exact OX H K
  |succ o=>
  cases o with
  |zero=>exact PF H K
  |succ o=>
  cases o with
  |zero=>exact(Ee X).trans (by rw[H,K];rfl)
  |succ o=>
  cases o with
  |zero=>cases h3
  |succ o=>
  cases o with
  |zero=>exact Pc H
  |succ o=>exact absurd h ((show o+1+1+1+1+1-4=o+1 from rfl)▸Bool.false_ne_true)
noncomputable def Ld(k:Nat):Bool:=A.rec (λ_=>false) (λ_=>false) (λo x y _ _=>Nat.beq o 2&&O7 x&&O7 y&&(lG (-1) [] (rN y) (rN x)).all λt=>tV t.1) (A4 k).1
theorem J2(h:(p.all λt=>tV t.1)=true):kX ρ p=0:=by
 induction p with
 |nil=>rfl
 |cons t p I=>
  rw[List.all_cons]at h;obtain⟨a,b⟩:=dO h;show t.1*qX ρ t.2+kX ρ p=0;rw[xe a,I b,Int.zero_mul];rfl
theorem zr(k)(ok:Ld k=true):Mb k:=F2 _ λρ e H N=>by
 unfold Ld at ok;generalize(A4 k).1=a at ok⊢;cases a with
 |v i=>cases ok
 |c n=>cases ok
 |b o x y=>
  obtain⟨h,h4⟩:=dO ok;obtain⟨h,h3⟩:=dO h;obtain⟨h,h2⟩:=dO h;cases Nat.eq_of_beq_eq_true h;have:=J2 (ρ:=ρ) h4;rw[k7,GP x h2,GP y h3]at this;show(den ρ x).1=(den ρ y).1;have e: -1*(1:Int)*(den ρ y).1+(den ρ x).1=0:=this;rw[Int.mul_one,Int.neg_mul,Int.one_mul,Int.add_comm]at e;exact Int.sub_eq_zero.mp e
theorem d2(x):2*(x/2)≤x∧x<2*(x/2)+2∧x%2+2*(x/2)=x:=⟨Nat.mul_div_le x 2,Nat.lt_mul_div_succ x (by decide),Nat.mod_add_div x 2⟩
theorem Qj(x:Int):2*(x/2)≤x∧x<2*(x/2)+2∧x%2+2*(x/2)=x:=⟨Int.mul_ediv_self_le (by decide),Int.lt_mul_ediv_self_add (by decide),Int.emod_add_mul_ediv x 2⟩
theorem dT [Decidable p](h:decide p=true):p:=of_decide_eq_true h
theorem dF [Decidable p](h:decide p=false):¬p:=of_decide_eq_false h
end Mine.Internal.La
open Mine.Internal.La(zm zl zr d2 Qj dT dF)
namespace Mine.Internal
open PySem
open List Nat Heap Str
set_option genCtorIdx true in
inductive V where
 |none|bool(b:Bool)|int(i:Int)|str(s:Str)
 |L(l:List V)|o(l:List V)|dn(c:Nat)(fs:List (Nat×V))|lI(l:List (Str×V))
set_option genCtorIdx true in
inductive FK where
 |j(v:V)|U(l:List V)|od(l:List (Str×V))
noncomputable def FK.v:FK→V
|.j v=>v|.U l=>.o l|.od l=>.lI l
set_option genCtorIdx true in
inductive S where
 |y|j(v:V)|U(l:List V)|bl(l:List V)|oi(c:Nat)(fs:List (Nat×FK))|bi(c:Nat)(fs:List (Nat×FK))
set_option genCtorIdx true in
inductive Rv where
 |j(v:V)|U(l:List V)|oi(c:Nat)(fs:List (Nat×FK))
noncomputable def I8(f:List (Nat×FK)):List (Nat×V):=f.map λx=>(x.1,x.2.v)
noncomputable def Rv.v:Rv→V
|.j v=>v|.U l=>.o l|.oi c fs=>.dn c (I8 fs)
noncomputable def Rv.s:Rv→S
|.j v=>.j v|.U l=>.U l|.oi c fs=>.oi c fs
noncomputable abbrev R:=List S
set_option genCtorIdx true in
inductive EB where
 |v(i:Nat)|f(i n:Nat)
inductive B2 where
 |z(n:Nat)
 |add|sub|mul|fdiv|fmod|pow
inductive CO where
 |z(n:Nat)
 |lt|le|gt|ge|eq|ne|is|dr|nr|eQ
inductive B1 where
 |z(n:Nat)
 |abs|str|list|len
inductive MO where
 |z(n:Nat)
 |sR|max|min
inductive E where
 |X|cB(b:Bool)|p(i:Int)|M(s:Str)|tC(i:Int)
 |d(i:Nat)|JC(i:Nat)|qv(i n:Nat)
 |w(o:B2)(a b:E)|neg(a:E)|fL(a:E)|Q(es:E)|cD(es:E)|ite(t a b:E)
 |ag(o:CO)(a b:E)|ny(o p:CO)(a b c:E)|Dy(neg:Bool)(x:E)(p:EB)|Hp(p:EB)
 |L(es:E)|Z(es:E)|nil|cons(e es:E)|jU(e:E)
 |sub(a i:E)|dZ(p:EB)(i:E)|sl(a lo hi:E)|no|J(a:E)(n:Nat)|j5(p:EB)
 |call(f:Nat)(as:E)|P(f i:Nat)(as:E)|gi(f i:Nat)(as:E)|new(c f:Nat)(as:E)
 |b1(g:B1)(a:E)|b2(g:MO)(a b:E)|tT(a:E)(c:Nat)|JB(i:Nat)
 |join(a b:E)|jD(a b c:E)|wJ(a b:E)
 |comp(j:Nat)(it cond elt:E)|eX(as:E)|cZ(f:Nat)(eB:List Nat)(body:E)|D(e:E)|Y(e:E)|dN|K
inductive T where
 |nil|cons(s r:T)
 |ex(e:E)|C(i:Nat)(e:E)|jn(is:List Nat)(e:E)|GO(i j:Nat)(a b:E)
 |vH(i:Nat)(o:B2)(e:E)|dB(p:EB)(ix e:E)|kz(i n:Nat)(e:E)|wU(i n:Nat)
 |lZ(i:Nat)(e:E)|ins(i:Nat)(a b:E)|HQ(i:Nat)
 |iff(c:E)(a b:T)|tU(c:E)(b:T)|bU(i:Nat)(it:E)(b:T)
 |ret(e:E)|fR(e:E)|cont|K
noncomputable abbrev E.l(l:List E):E:=List.rec .nil (λa _ r=>.cons a r) l
noncomputable abbrev T.l(l:List T):T:=List.rec .nil (λa _ r=>.cons a r) l
noncomputable def rI:List Nat→List Nat→Bool
|[],[]=>true
|a::x,b::y=>match beq a b with
 |true=>rI x y
 |false=>false
|_,_=>false
theorem wR:∀{y},rI x y=true↔x=y:=by
 induction x with
 |nil=>
  intro y;cases y with
  |nil=>exact⟨λ_=>rfl,λ_=>rfl⟩
  |cons b y=>exact⟨λh=>absurd h Bool.false_ne_true,λh=>absurd h.symm (cons_ne_nil _ _)⟩
 |cons a x I=>
  intro y;cases y with
  |nil=>exact⟨λh=>absurd h Bool.false_ne_true,λh=>absurd h (cons_ne_nil _ _)⟩
  |cons b y=>
   show(match Nat.beq a b with|true=>rI x y|false=>false)=true↔_;cases h:beq a b with
   |true=>rw[eq_of_beq_eq_true h];exact I.trans ⟨congrArg _,λe=>(cons.inj e).2⟩
   |false=>exact⟨λz=>absurd z Bool.false_ne_true,λz=>absurd (cons.inj z).1 (ne_of_beq_eq_false h)⟩
noncomputable def ax(a b:Str):Bool:=rI a.cps.toList b.cps.toList
theorem aD:ax a b=true↔a=b:=by
 unfold ax;rw[wR];constructor
 ·intro h;cases a;cases b;exact congrArg Str.mk (Array.toList_inj.mp h)
 ·rintro rfl;rfl
noncomputable def a4(k:Str):List (Str×V)→Option V
|[]=>.none
|x::r=>match ax k x.1 with
 |true=>some x.2
 |false=>a4 k r
noncomputable def fJ(k:Str)(v:V):List (Str×V)→List (Str×V)
|[]=>[(k,v)]
|x::r=>match ax k x.1 with
 |true=>(x.1,v)::r
 |false=>x::fJ k v r
noncomputable def d6{Y:Type}(n:Nat):List (Nat×Y)→Option Y
|[]=>.none
|x::r=>match beq n x.1 with
 |true=>some x.2
 |false=>d6 n r
noncomputable def gN{Y:Type}(n:Nat)(v:Y):List (Nat×Y)→List (Nat×Y)
|[]=>[(n,v)]
|x::r=>match beq n x.1 with
 |true=>(x.1,v)::r
 |false=>x::gN n v r
noncomputable def lJ:Nat:=2^200
noncomputable def aA:Nat:=1000000
noncomputable def FY :V→Option PyData
|.none=>some .none|.bool b=>some (.bool b)|.int i=>some (.int i)|.str s=>(match PyData.strOk s with|true=>some (.str s)|false=>.none)|_=>.none
noncomputable def bK(f:V→Option PyData):List V→Option (List PyData)
|[]=>some []
|v::r=>match f v,bK f r with
 |some d,some D=>some (d::D)
 |_,_=>.none
noncomputable def fg :V→Option PyData
|.L l=>(bK FY l).map .tuple
|v=>FY v
noncomputable def Ak :V→Option PyData
|.o l=>(bK fg l).map .list
|v=>fg v
noncomputable def vF(x y:V):Option Bool:=match Ak x,Ak y with
 |some a,some b=>some (PyData.eqv a b)
 |_,_=>.none
noncomputable def isNone:V→Bool
|.none=>true
|_=>false
noncomputable def x6(x:V)(l:List V):Option Bool:=match fg x,bK fg l with
 |some d,some D=>(match D.all (λy=>SeqAt.noMix y d)with
  |true=>some (decide (Spec.countIn d D≠0))
  |false=>.none)
 |_,_=>.none
noncomputable def JE(o:B2)(x y:V)(k:Rv→Prop):Prop:=match o,x,y with
 |.add,.int a,.int b=>k (.j (.int (a+b)))
 |.sub,.int a,.int b=>k (.j (.int (a-b)))
 |.mul,.int a,.int b=>a.natAbs<lJ∧b.natAbs<lJ∧k (.j (.int (a*b)))
 |.fdiv,.int a,.int b=>b≠0∧b.natAbs<lJ∧k (.j (.int (a.fdiv b)))
 |.fmod,.int a,.int b=>b≠0∧k (.j (.int (a.fmod b)))
 |.pow,.int a,.int b=>0≤b∧b≤1000∧a.natAbs<2^64∧k (.j (.int (a^b.toNat)))
 |.add,.str a,.str b=>a.length+b.length≤aA∧k (.j (.str (a++b)))
 |.add,.o a,.o b=>a.length+b.length≤aA∧k (.U (a++b))
 |.mul,.o l,.int n=>(match l with|[v]=>0≤n∧n≤1000∧k (.U (replicate n.toNat v))|_=>False)
 |.mul,.str s,.int n=>(match s.cps.toList with|[c]=>0≤n∧n≤1000∧k (.j (.str ⟨(replicate n.toNat c).toArray⟩))|_=>False)
 |_,_,_=>False
noncomputable def qn(o:CO)(x y:V)(k:Bool→Prop):Prop:=match o with
 |.lt=>(match x,y with|.int a,.int b=>k (decide (a<b))|_,_=>False)
 |.le=>(match x,y with|.int a,.int b=>k (decide (a≤b))|_,_=>False)
 |.gt=>(match x,y with|.int a,.int b=>k (decide (b<a))|_,_=>False)
 |.ge=>(match x,y with|.int a,.int b=>k (decide (b≤a))|_,_=>False)
 |.eq=>(match vF x y with|some b=>k b|.none=>False)
 |.ne=>(match vF x y with|some b=>k (!b)|.none=>False)
 |.is=>(match y with|.none=>k (isNone x)|_=>False)
 |.dr=>(match y with|.none=>k (!isNone x)|_=>False)
 |.nr=>(match y with
  |.L l=>(match x6 x l with|some b=>k b|.none=>False)
  |.o l=>(match x6 x l with|some b=>k b|.none=>False)
  |.lI l=>(match x with|.str s=>k (a4 s l).isSome|_=>False)
  |_=>False)
 |.eQ=>(match y with
  |.L l=>(match x6 x l with|some b=>k (!b)|.none=>False)
  |.o l=>(match x6 x l with|some b=>k (!b)|.none=>False)
  |.lI l=>(match x with|.str s=>k (!(a4 s l).isSome)|_=>False)
  |_=>False)
 |.z _=>False
noncomputable def LI:Bool→CO
|true=>.eQ
|false=>.nr
noncomputable def bX(n:Nat)(i:Int):Int:=match decide (0≤i)with
 |true=>i
 |false=>i+n
noncomputable def cu{Y:Type}(l:List Y)(i:Int):Option Y:=match decide (0≤bX l.length i)with
 |true=>l[(bX l.length i).toNat]?
 |false=>.none
noncomputable def tL(x i:V)(k:V→Prop):Prop:=match x,i with
 |.L l,.int j=>(match cu l j with|some v=>k v|.none=>False)
 |.o l,.int j=>(match cu l j with|some v=>k v|.none=>False)
 |.str s,.int j=>s.cps.toList.length≤aA∧(match cu s.cps.toList j with|some c=>k (.str ⟨#[c]⟩)|.none=>False)
 |.lI l,.str s=>(match a4 s l with|some v=>k v|.none=>False)
 |_,_=>False
noncomputable def ay(n:Nat)(i:Int):Nat:=(max 0 (min (n:Int) (bX n i))).toNat
noncomputable def bound(n:Nat)(d:Nat):V→Option Nat
|.none=>some d
|.int i=>some (ay n i)
|_=>.none
noncomputable def MW(x lo H:V)(k:Rv→Prop):Prop:=match x with
 |.o l=>(match bound l.length 0 lo,bound l.length l.length H with|some a,some b=>k (.U ((l.take b).drop a))|_,_=>False)
 |.str s=>s.cps.toList.length≤aA∧(match bound s.cps.toList.length 0 lo,bound s.cps.toList.length s.cps.toList.length H with|some a,some b=>k (.j (.str ⟨((s.cps.toList.take b).drop a).toArray⟩))|_,_=>False)
 |_=>False
noncomputable def zJ(x:V)(k:V→Prop):Prop:=match x with
 |.L l=>k (.int l.length)
 |.o l=>k (.int l.length)
 |.str s=>s.cps.toList.length≤aA∧k (.int s.cps.toList.length)
 |_=>False
noncomputable def aG(n:Int):Str:=ofString (toString n)
noncomputable def P7(g:B1)(x:V)(k:Rv→Prop):Prop:=match g,x with
 |.abs,.int a=>k (.j (.int a.natAbs))
 |.str,.int a=>a.natAbs<lJ∧k (.j (.str (aG a)))
 |.list,.o l=>k (.U l)
 |.len,x=>zJ x λv=>k (.j v)
 |_,_=>False
noncomputable def QG(g:MO)(x y:V)(k:Rv→Prop):Prop:=match g,x,y with
 |.sR,.int a,.int b=>b≠0∧b.natAbs<lJ∧k (.j (.L [.int (a.fdiv b),.int (a.fmod b)]))
 |.max,.int a,.int b=>k (.j (.int (match decide (a<b)with|true=>b|false=>a)))
 |.min,.int a,.int b=>k (.j (.int (match decide (b<a)with|true=>b|false=>a)))
 |_,_,_=>False
noncomputable def EP(c:Nat)(x:V)(k:Bool→Prop):Prop:=match c,x with
 |0,.dn 0 _=>k true
 |2,.bool _=>k false
 |3,.str _=>k true
 |3,.o _=>k false
 |3,.dn _ _=>k false
 |_,_=>False
noncomputable def hH :List V→Option (List Str)
|[]=>some []
|.str s::r=>(hH r).map (s:: ·)
|_=>.none
noncomputable def dK:List Str→Str
|[]=>⟨#[]⟩
|s::r=>s++dK r
noncomputable def eG(s:Str)(n:Int)(c:Nat):Str:=⟨(replicate (n.toNat-s.cps.toList.length) c++s.cps.toList).toArray⟩
noncomputable def ao(lo:Int)(n:Nat)(st:Int):List V:=(range n).map λ(j:Nat)=>.int (lo+st*j)
noncomputable def vc(a b:Int):Bool:=match decide (a.natAbs<2^60)with
 |true=>decide (b.natAbs<2^60)
 |false=>false
noncomputable def pE:V→Option Int
|.int i=>some i
|_=>.none
noncomputable def dG:List V→Option (List V)
|[]=>.none
|x::r=>match pE x with
 |.none=>.none
 |some a=>match r with
  |[]=>(match vc 0 a with|true=>some (ao 0 a.toNat 1)|false=>.none)
  |y::r=>match pE y with
   |.none=>.none
   |some b=>match r with
    |[]=>(match vc a b with|true=>some (ao a (b-a).toNat 1)|false=>.none)
    |z::r=>match pE z with
     |.none=>.none
     |some c=>match r with
      |[]=>(match decide (c=2)with|true=>(match vc a b with|true=>some (ao a ((b-a+1).fdiv 2).toNat 2)|false=>.none)|false=>.none)
      |_::_=>.none
noncomputable def tI:V→Option (List V)
|.o l=>some l
|.L l=>some l
|_=>.none
noncomputable def bG(ρ:R)(i:Nat)(s:S)(k:R→Prop):Prop:=match ρ[i]? with
 |some (.bl _)=>False
 |some (.bi ..)=>False
 |some _=>k (ρ.set i s)
 |.none=>False
noncomputable def DH(ρ:R)(i:Nat)(k:V→R→Prop):Prop:=match ρ[i]? with
 |some (.j v)=>k v ρ
 |some (.U l)=>k (.o l) (ρ.set i (.j (.o l)))
 |some (.oi c F)=>k (.dn c (I8 F)) (ρ.set i (.j (.dn c (I8 F))))
 |_=>False
noncomputable def HO(ρ:R)(i:Nat)(k:Rv→R→Prop):Prop:=match ρ[i]? with
 |some (.U l)=>k (.U l) (ρ.set i .y)
 |some (.oi c F)=>k (.oi c F) (ρ.set i .y)
 |_=>False
noncomputable def d4:S→Option (List (Nat×FK))
|.oi _ f=>some f
|.bi _ f=>some f
|_=>.none
noncomputable def dM:S→List (Nat×FK)→S
|.oi c _,f=>.oi c f
|.bi c _,f=>.bi c f
|s,_=>s
noncomputable def dk:S→Option (List V)
|.U l=>some l
|.bl l=>some l
|_=>.none
noncomputable def gy:S→List V→S
|.U _,l=>.U l
|.bl _,l=>.bl l
|s,_=>s
noncomputable def pk(ρ:R)(p:EB)(k:V→Prop):Prop:=match p with
 |.v i=>(match ρ[i]? with
  |some (.j v)=>k v
  |some (.U l)=>k (.o l)
  |some (.bl l)=>k (.o l)
  |_=>False)
 |.f i n=>(match(ρ[i]?).bind d4 with
  |some F=>(match d6 n F with|some x=>k x.v|.none=>False)
  |.none=>False)
noncomputable def A3(ρ:R)(i n:Nat)(k:V→R→Prop):Prop:=match ρ[i]? with
 |some s=>(match d4 s with
  |some F=>(match d6 n F with
   |some (.j v)=>k v ρ
   |some x=>k x.v (ρ.set i (dM s (gN n (.j x.v) F)))
   |.none=>False)
  |.none=>False)
 |.none=>False
noncomputable def gK(ρ:R)(i:Nat)(f:List V→Option (List V))(k:R→Prop):Prop:=match ρ[i]? with
 |some s=>(match(dk s).bind f with
  |some l=>k (ρ.set i (gy s l))
  |.none=>False)
 |.none=>False
noncomputable def eM(l:List V)(j:Int)(v:V):Option (List V):=match decide (0≤bX l.length j),decide (bX l.length j<l.length)with
 |true,true=>some (l.set (bX l.length j).toNat v)
 |_,_=>.none
noncomputable def Mn(ρ:R)(p:EB)(I v:V)(k:R→Prop):Prop:=match p with
 |.v i=>(match I with|.int j=>gK ρ i (λl=>eM l j v) k|_=>False)
 |.f i n=>(match ρ[i]? with
  |some s=>(match d4 s with
   |some F=>(match d6 n F,I with
    |some (.U l),.int j=>(match eM l j v with|some l'=>k (ρ.set i (dM s (gN n (.U l') F)))|.none=>False)
    |some (.od l),.str x=>(match decide (l.length<aA)with|true=>k (ρ.set i (dM s (gN n (.od (fJ x v l)) F)))|false=>False)
    |_,_=>False)
   |.none=>False)
  |.none=>False)
noncomputable def Od:Rv→Option FK
|.j v=>some (.j v)
|.U l=>some (.U l)
|.oi c f=>some (.j (.dn c (I8 f)))
noncomputable def qV(ρ:R)(i n:Nat)(x:FK)(k:R→Prop):Prop:=match ρ[i]?,blt n 9 with
 |some s,true=>(match d4 s with
  |some F=>k (ρ.set i (dM s (gN n x F)))
  |.none=>False)
 |_,_=>False
noncomputable def mB:S→Option S
|.U l=>some (.bl l)
|.bl l=>some (.bl l)
|.oi c f=>some (.bi c f)
|.bi c f=>some (.bi c f)
|_=>.none
noncomputable def GS:S→Option S
|.oi 1 f=>some (.bi 1 f)
|.bi 1 f=>some (.bi 1 f)
|_=>.none
noncomputable def oM:S→S→Option S
|.U _,.bl l=>some (.U l)
|.bl _,.bl l=>some (.bl l)
|.oi c _,.bi C f=>(match beq c C with|true=>some (.oi c f)|false=>.none)
|.bi c _,.bi C f=>(match beq c C with|true=>some (.bi c f)|false=>.none)
|_,_=>.none
noncomputable def ba:List S→R→List S
|.bl _::as,s::ρ=>s::ba as ρ
|.bi _ _::as,s::ρ=>s::ba as ρ
|_::as,_::ρ=>ba as ρ
|_,_=>[]
noncomputable def fQ(i:Nat):List Nat→Bool
|[]=>false
|j::r=>match beq i j with
 |true=>true
 |false=>fQ i r
noncomputable def mj(g:List Nat):Nat→R→Option R
|_,[]=>some []
|i,s::r=>match mj g (i+1) r with
 |.none=>.none
 |some m=>match fQ i g with
  |false=>some (.y::m)
  |true=>match s with
   |.j v=>some (.j v::m)
   |_=>.none
noncomputable abbrev Spec:=List S→(Rv→List S→Prop)→(Str→Prop)→Prop
noncomputable def iter(step:(R→Prop)→R→Prop):Nat→R→Prop
|0=>λ_=>False
|n+1=>step (iter step n)
noncomputable def j8:List Nat→List V→R→(R→Prop)→Prop
|[],[],ρ,k=>k ρ
|i::is,v::m,ρ,k=>bG ρ i (.j v) λρ=>j8 is m ρ k
|_,_,_,_=>False
noncomputable def eK:(e:E)→Option (PLift (e=.nil))×Option (PLift (e=.dN))×Option (PLift (e=.no))×Option (PLift (e=.X))×Option (PLift (∃m,e=.M m))
|.nil=>(some ⟨rfl⟩,none,none,none,none)
|.dN=>(none,some ⟨rfl⟩,none,none,none)
|.no=>(none,none,some ⟨rfl⟩,none,none)
|.X=>(none,none,none,some ⟨rfl⟩,none)
|.M m=>(none,none,none,none,some ⟨⟨m,rfl⟩⟩)
|_=>(none,none,none,none,none)
noncomputable def iw(e:E):Bool:=(eK e).1.isSome
noncomputable def lh(e:E):Bool:=(eK e).2.1.isSome
noncomputable def oz(e:E):Bool:=(eK e).2.2.1.isSome
noncomputable def Ja(e:E):Bool:=(eK e).2.2.2.1.isSome
noncomputable def Ls(e:E):Bool:=(eK e).2.2.2.2.isSome
theorem yq{p:Prop}{o:Option (PLift p)}(h:o.isSome=true):p:=by
 cases o with
 |none=>cases h
 |some x=>exact x.down
theorem kq(h:iw e=true):e=.nil:=yq h
theorem sj(h:lh e=true):e=.dN:=yq h
noncomputable def wH:E→R→Option V
|.X,_=>some .none
|.cB b,_=>some (.bool b)
|.p i,_=>some (.int i)
|.M s,_=>some (.str s)
|.neg (.p i),_=>some (.int (-i))
|.d i,ρ=>(match ρ[i]? with
 |some (.j v)=>some v
 |_=>.none)
|_,_=>.none
noncomputable def mW:E→R→Option (List V)
|.nil,_=>some []
|.cons e es,ρ=>(match wH e ρ,mW es ρ with
 |some v,some m=>some (v::m)
 |_,_=>.none)
|_,_=>.none
section
variable(F:Nat→Spec)
mutual
noncomputable def ev:E→R→(Rv→R→Prop)→(Str→Prop)→Prop
|.X,ρ,k,_=>k (.j .none) ρ
|.cB b,ρ,k,_=>k (.j (.bool b)) ρ
|.p i,ρ,k,_=>k (.j (.int i)) ρ
|.M s,ρ,k,_=>k (.j (.str s)) ρ
|.tC i,ρ,k,_=>k (.j (.int i)) ρ
|.d i,ρ,k,_=>DH ρ i λv ρ=>k (.j v) ρ
|.JC i,ρ,k,_=>HO ρ i k
|.qv i n,ρ,k,_=>A3 ρ i n λv ρ=>k (.j v) ρ
|.w o a b,ρ,k,X=>ev a ρ (λx ρ=>ev b ρ (λy ρ=>JE o x.v y.v λr=>k r ρ) X) X
|.neg a,ρ,k,X=>ev a ρ (λx ρ=>match x.v with|.int i=>k (.j (.int (-i))) ρ|_=>False) X
|.fL a,ρ,k,X=>ev a ρ (λx ρ=>match x.v with|.bool b=>k (.j (.bool (!b))) ρ|_=>False) X
|.Q es,ρ,k,X=>yO es ρ k X
|.cD es,ρ,k,X=>FC es ρ k X
|.ite t a b,ρ,k,X=>tr t ρ (λc ρ=>match c with|true=>ev a ρ k X|false=>ev b ρ k X) X
|.ag o a b,ρ,k,X=>ev a ρ (λx ρ=>ev b ρ (λy ρ=>qn o x.v y.v λc=>k (.j (.bool c)) ρ) X) X
|.ny o p a b c,ρ,k,X=>ev a ρ (λx ρ=>ev b ρ (λy ρ=>qn o x.v y.v λt=>match t with
 |true=>ev c ρ (λz ρ=>qn p y.v z.v λt=>k (.j (.bool t)) ρ) X
 |false=>k (.j (.bool false)) ρ) X) X
|.Dy I x p,ρ,k,X=>ev x ρ (λx ρ=>pk ρ p λy=>qn (LI I) x.v y λc=>k (.j (.bool c)) ρ) X
|.Hp p,ρ,k,_=>pk ρ p λy=>qn .ne y (.o []) λc=>k (.j (.bool c)) ρ
|.L es,ρ,k,X=>De es ρ (λY ρ=>Y.length≤aA∧k (.j (.L Y)) ρ) X
|.Z es,ρ,k,X=>De es ρ (λY ρ=>Y.length≤aA∧k (.U Y) ρ) X
|.sub a i,ρ,k,X=>ev a ρ (λx ρ=>ev i ρ (λj ρ=>tL x.v j.v λv=>k (.j v) ρ) X) X
|.dZ p i,ρ,k,_=>(match wH i ρ with|some j=>pk ρ p λx=>tL x j λv=>k (.j v) ρ|.none=>False)
|.sl a lo M,ρ,k,X=>ev a ρ (λx ρ=>MZ lo ρ (λl ρ=>MZ M ρ (λh ρ=>MW x.v l h λr=>k r ρ) X) X) X
|.J a n,ρ,k,X=>ev a ρ (λx ρ=>match x.v with
 |.dn _ d=>(match d6 n d with|some v=>k (.j v) ρ|.none=>False)
 |_=>False) X
|.j5 p,ρ,k,_=>pk ρ p λx=>zJ x λv=>k (.j v) ρ
|.call f as,ρ,k,X=>PI as ρ (λargs ρ=>F f args (λr _=>k r ρ) X) X
|.P f i as,ρ,k,X=>(match ρ[i]?,mW as ρ with
 |some o,some Y=>(match mB o with
  |some s=>F f (s::Y.map .j) (λr ss=>match ss with|[H]=>(match oM o H with|some O=>k r (ρ.set i O)|.none=>False)|_=>False) X
  |.none=>False)
 |_,_=>False)
|.gi f i as,ρ,k,X=>(match ρ[i]?,mW as ρ with
 |some o,some Y=>(match GS o with
  |some s=>F f (s::Y.map .j) (λr ss=>match ss with|[H]=>(match oM o H with|some O=>k r (ρ.set i O)|.none=>False)|_=>False) X
  |.none=>False)
 |_,_=>False)
|.new c f as,ρ,k,X=>De as ρ (λY ρ=>F f (.bi c []::Y.map .j) (λr ss=>match r,ss with|.j .none,[.bi U d]=>(match Nat.beq c U with|true=>k (.oi c d) ρ|false=>False)|_,_=>False) X) X
|.b1 g a,ρ,k,X=>ev a ρ (λx ρ=>P7 g x.v λr=>k r ρ) X
|.b2 g a b,ρ,k,X=>ev a ρ (λx ρ=>ev b ρ (λy ρ=>QG g x.v y.v λr=>k r ρ) X) X
|.tT a c,ρ,k,X=>ev a ρ (λx ρ=>EP c x.v λt=>k (.j (.bool t)) ρ) X
|.JB i,ρ,k,_=>(match ρ[i]? with
 |some s=>(match dk s with
  |some l=>(match l.getLast? with|some v=>k (.j v) (ρ.set i (gy s l.dropLast))|.none=>False)
  |.none=>False)
 |.none=>False)
|.join a b,ρ,k,X=>ev a ρ (λx ρ=>match x.v with
 |.str s=>ev b ρ (λy ρ=>match y.v with
  |.o l=>(match s.cps.toList,hH l with|[],some ss=>(dK ss).cps.toList.length≤aA∧k (.j (.str (dK ss))) ρ|_,_=>False)
  |_=>False) X
 |_=>False) X
|.jD a b c,ρ,k,X=>ev a ρ (λx ρ=>match x.v with
 |.str s=>ev b ρ (λy ρ=>ev c ρ (λz ρ=>match y.v,z.v with
  |.int n,.str c=>(match c.cps.toList with|[D]=>0≤n∧n≤1000∧s.cps.toList.length≤1000∧k (.j (.str (eG s n D))) ρ|_=>False)
  |_,_=>False) X) X
 |_=>False) X
|.wJ a b,ρ,k,X=>ev a ρ (λx ρ=>match x.v with
 |.lI l=>ev b ρ (λy ρ=>match y.v with
  |.str s=>k (.j ((a4 s l).getD .none)) ρ
  |_=>False) X
 |_=>False) X
|.comp j u cond J,ρ,k,X=>qS u ρ (λitems ρ=>items.length≤aA∧(items.foldr
 (λv L C ρ=>bG ρ j (.j v) λρ=>GV cond ρ (λc ρ=>match c with
  |true=>ev J ρ (λr ρ=>L (C++[r.v]) ρ) (λ_=>False)
  |false=>L C ρ) (λ_=>False))
 (λC ρ=>bG ρ j .y λρ=>k (.U C) ρ)) [] ρ) X
|.cZ f Q body,ρ,k,X=>(match mj Q 0 ρ with
 |some ρ'=>ev body ρ' (λr _=>k (.j r.v) ρ) (λm=>k (.j (.str m)) ρ)
 |.none=>False)
|.Y e,ρ,k,X=>ev e ρ (λr ρ=>k (.j r.v) ρ) X
|.dN,ρ,k,_=>k (.j .none) ρ
|_,_,_,_=>False
noncomputable def yO:E→R→(Rv→R→Prop)→(Str→Prop)→Prop
|.cons e es,ρ,k,X=>(match iw es with
 |true=>ev e ρ k X
 |false=>ev e ρ (λx ρ=>match x.v with
  |.bool c=>(match c with|true=>yO es ρ k X|false=>k (.j (.bool false)) ρ)
  |_=>False) X)
|_,_,_,_=>False
noncomputable def FC:E→R→(Rv→R→Prop)→(Str→Prop)→Prop
|.cons e es,ρ,k,X=>(match iw es with
 |true=>ev e ρ k X
 |false=>ev e ρ (λx ρ=>match x.v with
  |.bool c=>(match c with|true=>k (.j (.bool true)) ρ|false=>FC es ρ k X)
  |_=>False) X)
|_,_,_,_=>False
noncomputable def MZ:E→R→(V→R→Prop)→(Str→Prop)→Prop
|.no,ρ,k,_=>k .none ρ
|.D e,ρ,k,X=>ev e ρ (λr ρ=>k r.v ρ) X
|_,_,_,_=>False
noncomputable def GV:E→R→(Bool→R→Prop)→(Str→Prop)→Prop
|.no,ρ,k,_=>k true ρ
|.D e,ρ,k,X=>tr e ρ k X
|_,_,_,_=>False
noncomputable def xM:E→R→(Bool→R→Prop)→(Str→Prop)→Prop
|.nil,ρ,k,_=>k true ρ
|.cons e es,ρ,k,X=>tr e ρ (λc ρ=>match c with|true=>xM es ρ k X|false=>k false ρ) X
|_,_,_,_=>False
noncomputable def FA:E→R→(Bool→R→Prop)→(Str→Prop)→Prop
|.nil,ρ,k,_=>k false ρ
|.cons e es,ρ,k,X=>tr e ρ (λc ρ=>match c with|true=>k true ρ|false=>FA es ρ k X) X
|_,_,_,_=>False
noncomputable def De:E→R→(List V→R→Prop)→(Str→Prop)→Prop
|.nil,ρ,k,_=>k [] ρ
|.cons e es,ρ,k,X=>ev e ρ (λr ρ=>De es ρ (λv ρ=>k (r.v::v) ρ) X) X
|_,_,_,_=>False
noncomputable def PI:E→R→(List S→R→Prop)→(Str→Prop)→Prop
|.nil,ρ,k,_=>k [] ρ
|.cons (.jU e) es,ρ,k,X=>ev e ρ (λr ρ=>De es ρ (λv ρ=>k (r.s::v.map .j) ρ) X) X
|.cons e es,ρ,k,X=>ev e ρ (λr ρ=>De es ρ (λv ρ=>k (.j r.v::v.map .j) ρ) X) X
|_,_,_,_=>False
noncomputable def qS:E→R→(List V→R→Prop)→(Str→Prop)→Prop
|.eX as,ρ,k,X=>De as ρ (λv ρ=>match dG v with|some l=>k l ρ|.none=>False) X
|.D e,ρ,k,X=>ev e ρ (λr ρ=>match tI r.v with|some l=>k l ρ|.none=>False) X
|_,_,_,_=>False
noncomputable def tr:E→R→(Bool→R→Prop)→(Str→Prop)→Prop
|.fL a,ρ,k,X=>tr a ρ (λc ρ=>k (!c) ρ) X
|.Q es,ρ,k,X=>xM es ρ k X
|.cD es,ρ,k,X=>FA es ρ k X
|.ite t a b,ρ,k,X=>tr t ρ (λc ρ=>match c with|true=>tr a ρ k X|false=>tr b ρ k X) X
|.D e,ρ,k,X=>ev e ρ (λx ρ=>match x.v with|.bool c=>k c ρ|_=>False) X
|_,_,_,_=>False
end
noncomputable def ex:T→R→(R→Prop)→(R→Prop)→(Rv→R→Prop)→(Str→Prop)→Prop
|.nil,ρ,Y,_,_,_=>Y ρ
|.cons s r,ρ,Y,C,f,X=>ex s ρ (λρ=>ex r ρ Y C f X) C f X
|.ex e,ρ,Y,_,_,X=>ev F e ρ (λ_=>Y) X
|.C i e,ρ,Y,_,_,X=>ev F e ρ (λr ρ=>bG ρ i r.s Y) X
|.jn is e,ρ,Y,_,_,X=>ev F e ρ (λr ρ=>match tI r.v with|some D=>j8 is D ρ Y|.none=>False) X
|.GO i j a b,ρ,Y,_,_,X=>ev F a ρ (λx ρ=>ev F b ρ (λy ρ=>bG ρ j (.j y.v) λρ=>bG ρ i (.j x.v) Y) X) X
|.vH i o e,ρ,Y,_,_,X=>DH ρ i λx ρ=>ev F e ρ (λy ρ=>match o,x,y.v with
 |.add,.int a,.int b=>bG ρ i (.j (.int (a+b))) Y
 |.sub,.int a,.int b=>bG ρ i (.j (.int (a-b))) Y
 |_,_,_=>False) X
|.dB p u e,ρ,Y,_,_,X=>ev F e ρ (λv ρ=>match wH u ρ with|some j=>Mn ρ p j v.v Y|.none=>False) X
|.kz i n e,ρ,Y,_,_,X=>ev F e ρ (λr ρ=>match Od r with|some x=>qV ρ i n x Y|.none=>False) X
|.wU i n,ρ,Y,_,_,_=>qV ρ i n (.od []) Y
|.lZ i e,ρ,Y,_,_,X=>(match(ρ[i]?).bind dk with
 |some _=>ev F e ρ (λr ρ=>gK ρ i (λl=>match decide (l.length<aA)with|true=>some (l++[r.v])|false=>.none) Y) X
 |.none=>False)
|.ins i a b,ρ,Y,_,_,X=>(match(ρ[i]?).bind dk with
 |some _=>ev F a ρ (λx ρ=>ev F b ρ (λy ρ=>match x.v with
  |.int j=>gK ρ i (λl=>match decide (0≤j),decide (j≤l.length),decide (l.length<aA)with|true,true,true=>some (l.take j.toNat++y.v::l.drop j.toNat)|_,_,_=>.none) Y
  |_=>False) X) X
 |.none=>False)
|.HQ i,ρ,Y,_,_,_=>gK ρ i (λl=>some l.reverse) Y
|.iff c a b,ρ,Y,C,f,X=>tr F c ρ (λt ρ=>match t with|true=>ex a ρ Y C f X|false=>ex b ρ Y C f X) X
|.tU c b,ρ,Y,_,f,X=>∃n,iter (λI ρ=>tr F c ρ (λt ρ=>match t with|true=>ex b ρ I I f X|false=>Y ρ) X) n ρ
|.bU i H b,ρ,Y,_,f,X=>qS F H ρ (λitems ρ=>(items.foldr (λv g ρ=>bG ρ i (.j v) λρ=>ex b ρ g g f X) Y) ρ) X
|.ret e,ρ,_,_,f,X=>ev F e ρ f X
|.fR e,ρ,_,_,_,X=>ev F e ρ (λr _=>match r.v with|.str m=>X m|_=>False) X
|.cont,ρ,_,C,_,_=>C ρ
|.K,_,_,_,_,_=>False
noncomputable def wb(n:Nat)(b:T):Spec:=λargs K X=>
 ex F b (args++replicate (n-args.length) .y) (λρ=>K (.j .none) (ba args ρ)) (λ_=>False) (λr ρ=>K r (ba args ρ)) X
end
noncomputable def Gl:T:=.l [.tU (.D (.ag .gt (.d 1) (.p 0))) (.l [.GO 0 1 (.d 1) (.w .fmod (.d 0) (.d 1))]),.ret (.d 0)]
noncomputable def Dr:T:=.l [.iff (.D (.ag .eq (.d 1) (.p 0))) .K .nil,.iff (.D (.ag .lt (.d 1) (.p 0))) .K .nil,.C 2 (.call 0 (.l [.b1 .abs (.d 0),.d 1])),.ret (.L (.l [.w .fdiv (.d 0) (.d 2),.w .fdiv (.d 1) (.d 2)]))]
noncomputable def qg:T:=.l [.iff (.D (.ag .is (.d 0) .X)) .K .nil,.ret (.L (.l [.d 0,.p 1]))]
noncomputable def yT:T:=.l [.ret (.cD (.l [.ag .is (.d 0) .X,.Q (.l [.ag .eq (.sub (.d 0) (.p 0)) (.p 0),.ag .eq (.sub (.d 0) (.p 1)) (.p 0)])]))]
noncomputable def u0:T:=.l [.ret (.Q (.l [.ag .dr (.d 0) .X,.ag .eq (.sub (.d 0) (.p 0)) (.p 0),.ag .eq (.sub (.d 0) (.p 1)) (.p 0)]))]
noncomputable def mr:T:=.l [.ret (.Q (.l [.ag .dr (.d 0) .X,.ag .gt (.sub (.d 0) (.p 1)) (.p 0)]))]
noncomputable def G1:T:=.l [.iff (.D (.ag .is (.d 0) .X)) .K .nil,.ret (.L (.l [.w .sub (.p 0) (.sub (.d 0) (.p 0)),.sub (.d 0) (.p 1)]))]
noncomputable def Gx:T:=.l [.iff (.cD (.l [.D (.call 3 (.l [.d 0])),.D (.call 3 (.l [.d 1]))])) .K .nil,.iff (.Q (.l [.D (.ag .eq (.sub (.d 0) (.p 1)) (.p 0)),.D (.ag .eq (.sub (.d 1) (.p 1)) (.p 0))])) .K .nil,.iff (.D (.ag .eq (.sub (.d 0) (.p 1)) (.p 0))) .K .nil,.iff (.D (.ag .eq (.sub (.d 1) (.p 1)) (.p 0))) .K .nil,.ret (.call 1 (.l [.w .add (.w .mul (.sub (.d 0) (.p 0)) (.sub (.d 1) (.p 1))) (.w .mul (.sub (.d 1) (.p 0)) (.sub (.d 0) (.p 1))),.w .mul (.sub (.d 0) (.p 1)) (.sub (.d 1) (.p 1))]))]
noncomputable def GH:T:=.l [.ret (.call 7 (.l [.d 0,.call 6 (.l [.d 1])]))]
noncomputable def G4:T:=.l [.iff (.cD (.l [.D (.call 3 (.l [.d 0])),.D (.call 3 (.l [.d 1]))])) .K .nil,.ret (.call 1 (.l [.w .mul (.sub (.d 0) (.p 0)) (.sub (.d 1) (.p 0)),.w .mul (.sub (.d 0) (.p 1)) (.sub (.d 1) (.p 1))]))]
noncomputable def F7:T:=.l [.iff (.cD (.l [.D (.call 3 (.l [.d 0])),.D (.call 3 (.l [.d 1]))])) .K .nil,.iff (.Q (.l [.D (.ag .eq (.sub (.d 0) (.p 1)) (.p 0)),.D (.ag .eq (.sub (.d 1) (.p 1)) (.p 0))])) .K .nil,.iff (.D (.ag .eq (.sub (.d 0) (.p 1)) (.p 0))) .K .nil,.ret (.call 1 (.l [.w .mul (.sub (.d 0) (.p 0)) (.sub (.d 1) (.p 1)),.w .mul (.sub (.d 0) (.p 1)) (.sub (.d 1) (.p 0))]))]
noncomputable def oN:T:=.l [.iff (.fL (.D (.call 5 (.l [.d 0])))) .K .nil,.C 1 (.w .fdiv (.b1 .abs (.sub (.d 0) (.p 0))) (.sub (.d 0) (.p 1))),.ret (.ite (.D (.ag .ge (.sub (.d 0) (.p 0)) (.p 0))) (.d 1) (.w .sub (.p 0) (.d 1)))]
noncomputable def hJ:T:=.l [.C 2 (.w .fdiv (.d 0) (.d 1)),.C 3 (.w .mul (.p 2) (.w .sub (.d 0) (.w .mul (.d 2) (.d 1)))),.iff (.cD (.l [.D (.ag .gt (.d 3) (.d 1)),.Q (.l [.D (.ag .eq (.d 3) (.d 1)),.D (.ag .eq (.w .fmod (.d 2) (.p 2)) (.p 1))])])) (.l [.ret (.w .add (.d 2) (.p 1))]) .nil,.ret (.d 2)]
noncomputable def pW:T:=.l [.C 1 (.b1 .abs (.sub (.d 0) (.p 0))),.C 2 (.sub (.d 0) (.p 1)),.C 3 (.p 0),.tU (.D (.ag .ge (.d 1) (.w .mul (.p 10) (.d 2)))) (.l [.C 2 (.w .mul (.d 2) (.p 10)),.vH 3 .add (.p 1)]),.tU (.D (.ag .lt (.d 1) (.d 2))) (.l [.C 1 (.w .mul (.d 1) (.p 10)),.vH 3 .sub (.p 1)]),.ret (.d 3)]
noncomputable def qL:T:=.l [.iff (.cD (.l [.D (.call 3 (.l [.d 0])),.D (.call 3 (.l [.d 1]))])) .K .nil,.iff (.Q (.l [.D (.ag .eq (.sub (.d 0) (.p 1)) (.p 0)),.D (.ag .eq (.sub (.d 1) (.p 1)) (.p 0))])) (.l [.C 2 (.sub (.d 0) (.p 0)),.C 3 (.sub (.d 1) (.p 0))]) (.l [.C 2 (.w .mul (.sub (.d 0) (.p 0)) (.sub (.d 1) (.p 1))),.C 3 (.w .mul (.sub (.d 1) (.p 0)) (.sub (.d 0) (.p 1))),.iff (.D (.ag .eq (.sub (.d 0) (.p 1)) (.p 0))) (.l [.C 2 (.sub (.d 0) (.p 0)),.C 3 (.p 0)]) (.l [.iff (.D (.ag .eq (.sub (.d 1) (.p 1)) (.p 0))) (.l [.C 2 (.p 0),.C 3 (.sub (.d 1) (.p 0))]) .nil])]),.iff (.D (.ag .eq (.d 2) (.d 3))) (.l [.ret (.p 0)]) .nil,.ret (.ite (.D (.ag .lt (.d 2) (.d 3))) (.neg (.p 1)) (.p 1))]
noncomputable def lA:T:=.l [.C 1 (.b1 .abs (.d 0)),.C 2 (.Z .nil),.tU (.D (.ag .ge (.d 1) (.w .pow (.p 10) (.p 18)))) (.l [.jn [1,3] (.b2 .sR (.d 1) (.w .pow (.p 10) (.p 18))),.lZ 2 (.jD (.b1 .str (.d 3)) (.p 18) (.M ⟨#[48]⟩))]),.lZ 2 (.b1 .str (.d 1)),.iff (.D (.ag .lt (.d 0) (.p 0))) (.l [.lZ 2 (.M ⟨#[45]⟩)]) .nil,.HQ 2,.ret (.join (.M ⟨#[]⟩) (.d 2))]
noncomputable def iF:T:=.l [.iff (.D (.ag .is (.d 0) .X)) .K .nil,.iff (.D (.ag .gt (.sub (.d 0) (.p 1)) (.p 0))) (.l [.ret .X]) .nil,.iff (.D (.ag .eq (.sub (.d 0) (.p 0)) (.p 0))) .K .nil,.ret (.ite (.D (.ag .gt (.sub (.d 0) (.p 0)) (.p 0))) (.M ⟨#[73,110,102]⟩) (.M ⟨#[45,73,110,102]⟩))]
noncomputable def uV:T:=.l [.C 3 (.w .sub (.w .sub (.d 2) (.p 1)) (.d 1)),.iff (.D (.ag .ge (.d 3) (.p 0))) (.l [.ret (.call 12 (.l [.w .mul (.b1 .abs (.sub (.d 0) (.p 0))) (.w .pow (.p 10) (.d 3)),.sub (.d 0) (.p 1)]))]) .nil,.ret (.call 12 (.l [.b1 .abs (.sub (.d 0) (.p 0)),.w .mul (.sub (.d 0) (.p 1)) (.w .pow (.p 10) (.w .sub (.p 0) (.d 3)))]))]
noncomputable def jv:T:=.l [.iff (.D (.ag .eq (.sub (.d 0) (.p 0)) (.p 0))) (.l [.ret (.L (.l [.p 0,.w .mul (.M ⟨#[48]⟩) (.d 1),.p 0]))]) .nil,.C 2 (.call 13 (.l [.d 0])),.C 3 (.call 17 (.l [.d 0,.d 2,.d 1])),.iff (.D (.ag .ge (.d 3) (.w .pow (.p 10) (.d 1)))) (.l [.vH 2 .add (.p 1),.C 3 (.call 17 (.l [.d 0,.d 2,.d 1]))]) .nil,.ret (.L (.l [.ite (.D (.ag .gt (.sub (.d 0) (.p 0)) (.p 0))) (.p 1) (.neg (.p 1)),.b1 .str (.d 3),.d 2]))]
noncomputable def iM:T:=.l [.C 1 (.b1 .len (.d 0)),.tU (.Q (.l [.D (.ag .gt (.d 1) (.p 1)),.D (.ag .eq (.sub (.d 0) (.w .sub (.d 1) (.p 1))) (.M ⟨#[48]⟩))])) (.l [.vH 1 .sub (.p 1)]),.ret (.Y (.sl (.d 0) .no (.D (.d 1))))]
noncomputable def fG:T:=.l [.jn [2,3,4] (.call 18 (.l [.d 0,.d 1])),.C 5 (.ite (.D (.ag .lt (.d 2) (.p 0))) (.M ⟨#[45]⟩) (.M ⟨#[]⟩)),.C 5 (.w .add (.d 5) (.sub (.d 3) (.p 0))),.iff (.D (.ag .gt (.d 1) (.p 1))) (.l [.C 5 (.Y (.w .add (.w .add (.d 5) (.M ⟨#[46]⟩)) (.sl (.d 3) (.D (.p 1)) .no)))]) .nil,.ret (.w .add (.w .add (.d 5) (.ite (.D (.ag .lt (.d 4) (.p 0))) (.M ⟨#[101,45]⟩) (.M ⟨#[101,43]⟩))) (.jD (.b1 .str (.b1 .abs (.d 4))) (.p 2) (.M ⟨#[48]⟩)))]
noncomputable def kh:T:=.l [.C 2 (.call 12 (.l [.w .mul (.b1 .abs (.sub (.d 0) (.p 0))) (.w .pow (.p 10) (.d 1)),.sub (.d 0) (.p 1)])),.C 3 (.jD (.call 15 (.l [.d 2])) (.w .add (.d 1) (.p 1)) (.M ⟨#[48]⟩)),.iff (.D (.ag .gt (.d 1) (.p 0))) (.l [.C 3 (.Y (.w .add (.w .add (.sl (.d 3) .no (.D (.w .sub (.b1 .len (.d 3)) (.d 1)))) (.M ⟨#[46]⟩)) (.sl (.d 3) (.D (.w .sub (.b1 .len (.d 3)) (.d 1))) .no)))]) .nil,.iff (.D (.ag .lt (.sub (.d 0) (.p 0)) (.p 0))) (.l [.ret (.w .add (.M ⟨#[45]⟩) (.d 3))]) .nil,.ret (.d 3)]
noncomputable def pD:T:=.l [.jn [2,3,4] (.call 18 (.l [.d 0,.d 1])),.C 5 (.b1 .len (.call 19 (.l [.d 3]))),.C 6 (.w .add (.b2 .max (.d 4) (.p 0)) (.p 1)),.iff (.D (.ag .lt (.sub (.d 0) (.p 0)) (.p 0))) (.l [.vH 6 .add (.p 1)]) .nil,.ret (.L (.l [.d 5,.d 6,.b2 .max (.w .sub (.w .sub (.d 5) (.p 1)) (.d 4)) (.p 0),.d 4]))]
noncomputable def jr:T:=.l [.C 2 (.p 1),.C 3 (.p 1),.C 4 (.p 0),.C 5 (.p 0),.C 6 (.p 0),.bU 7 (.D (.d 0)) (.l [.C 8 (.call 22 (.l [.d 7,.d 1])),.C 2 (.b2 .max (.d 2) (.sub (.d 8) (.p 0))),.C 3 (.b2 .max (.d 3) (.sub (.d 8) (.p 1))),.C 4 (.b2 .max (.d 4) (.sub (.d 8) (.p 2))),.iff (.D (.ag .ge (.b1 .abs (.sub (.d 8) (.p 3))) (.p 100))) (.l [.C 5 (.b2 .max (.d 5) (.w .sub (.b1 .len (.b1 .str (.b1 .abs (.sub (.d 8) (.p 3))))) (.p 2)))]) .nil,.iff (.D (.ag .lt (.sub (.d 7) (.p 0)) (.p 0))) (.l [.C 6 (.p 1)]) .nil]),.C 9 (.w .add (.d 3) (.ite (.D (.ag .gt (.d 4) (.p 0))) (.w .add (.d 4) (.p 1)) (.p 0))),.C 10 (.w .add (.w .add (.w .add (.d 6) (.ite (.D (.ag .gt (.d 2) (.p 1))) (.w .add (.d 2) (.p 1)) (.p 1))) (.p 4)) (.d 5)),.iff (.D (.ag .le (.d 9) (.d 10))) (.l [.ret (.L (.l [.M ⟨#[102,105,120,101,100]⟩,.d 4]))]) .nil,.ret (.L (.l [.M ⟨#[115,99,105,101,110,116,105,102,105,99]⟩,.d 2]))]
noncomputable def uB:T:=.l [.C 2 (.call 16 (.l [.d 0])),.iff (.D (.ag .dr (.d 2) .X)) (.l [.ret (.d 2)]) .nil,.iff (.D (.ag .eq (.sub (.d 1) (.p 0)) (.M ⟨#[102,105,120,101,100]⟩))) (.l [.ret (.call 21 (.l [.d 0,.sub (.d 1) (.p 1)]))]) .nil,.ret (.call 20 (.l [.d 0,.sub (.d 1) (.p 1)]))]
noncomputable def iz:T:=.l [.C 2 (.Y (.comp 4 (.D (.d 0)) (.D (.Q (.l [.D (.ag .dr (.d 4) .X),.D (.ag .gt (.sub (.d 4) (.p 1)) (.p 0))]))) (.d 4))),.C 3 (.call 23 (.l [.d 2,.d 1])),.ret (.Y (.comp 5 (.D (.d 0)) .no (.call 24 (.l [.d 5,.d 3]))))]
noncomputable def js:T:=.l [.ret (.sub (.call 25 (.l [.Z (.l [.d 0]),.d 1])) (.p 0))]
noncomputable def jy:T:=.l [.kz 0 0 (.d 1),.kz 0 1 (.d 2),.kz 0 2 (.d 3),.kz 0 3 (.cB false),.kz 0 4 (.cB false)]
noncomputable def BW:T:=.l [.iff (.D (.ag .gt (.d 0) (.tC 1000000))) .K .nil,.ret (.d 0)]
noncomputable def q7:T:=.l [.ret (.new 0 27 (.l [.M ⟨#[105,110,116,101,103,101,114]⟩,.b1 .list (.d 0),.dN]))]
noncomputable def tZ:T:=.l [.ret (.Y (.new 0 27 (.l [.M ⟨#[100,111,117,98,108,101]⟩,.b1 .list (.d 0),.dN])))]
noncomputable def mQ:T:=.l [.ret (.Y (.new 0 27 (.l [.M ⟨#[99,104,97,114,97,99,116,101,114]⟩,.b1 .list (.d 0),.dN])))]
noncomputable def AX:T:=.l [.iff (.D (.ag .is (.d 0) .X)) .K .nil,.ret (.Y (.new 0 27 (.l [.M ⟨#[108,111,103,105,99,97,108]⟩,.Z (.l [.ite (.D (.d 0)) (.p 1) (.p 0)]),.dN])))]
noncomputable def u6:T:=.l [.C 1 (.J (.d 0) 0),.iff (.D (.ag .eq (.d 1) (.M ⟨#[78,85,76,76]⟩))) .K .nil,.iff (.cD (.l [.D (.tT (.d 0) 0),.D (.ag .eq (.d 1) (.M ⟨#[108,97,110,103,117,97,103,101]⟩))])) (.l [.ret (.b1 .len (.J (.d 0) 1))]) .nil,.iff (.D (.ag .eq (.d 1) (.M ⟨#[101,110,118,105,114,111,110,109,101,110,116]⟩))) .K .nil,.iff (.D (.ag .eq (.d 1) (.M ⟨#[100,111,116,115]⟩))) .K .nil,.ret (.p 1)]
noncomputable def mq:T:=.l [.ret (.ag .nr (.J (.d 0) 0) (.L (.l [.M ⟨#[108,111,103,105,99,97,108]⟩,.M ⟨#[105,110,116,101,103,101,114]⟩,.M ⟨#[100,111,117,98,108,101]⟩,.M ⟨#[99,104,97,114,97,99,116,101,114]⟩])))]
noncomputable def pH:T:=.l [.iff (.D (.ag .is (.J (.d 0) 2) .X)) (.l [.ret .X]) .nil,.ret (.wJ (.J (.d 0) 2) (.d 1))]
noncomputable def kY:T:=.l [.iff (.cD (.l [.D (.ag .is (.d 1) .X),.D (.ag .eq (.d 0) (.M ⟨#[99,104,97,114,97,99,116,101,114]⟩))])) (.l [.ret (.d 1)]) .nil,.iff (.D (.ag .eq (.d 0) (.M ⟨#[108,111,103,105,99,97,108]⟩))) .K .nil,.iff (.D (.ag .eq (.d 0) (.M ⟨#[105,110,116,101,103,101,114]⟩))) .K .nil,.ret (.call 26 (.l [.d 1,.p 15]))]
noncomputable def jE:T:=.l [.C 1 (.call 35 (.l [.d 0,.M ⟨#[108,101,118,101,108,115]⟩])),.iff (.Q (.l [.D (.ag .dr (.d 1) .X),.D (.ag .eq (.J (.d 0) 0) (.M ⟨#[105,110,116,101,103,101,114]⟩)),.D (.ag .nr (.M ⟨#[102,97,99,116,111,114]⟩) .K)])) .K .nil,.ret (.Y (.comp 3 (.D (.J (.d 0) 1)) .no (.call 36 (.l [.J (.d 0) 0,.d 3]))))]
noncomputable def vn:T:=.l [.C 1 (.call 35 (.l [.d 0,.M ⟨#[100,105,109]⟩])),.iff (.D (.ag .is (.d 1) .X)) (.l [.ret .X]) .nil,.ret (.Y (.b1 .list (.J (.d 1) 1)))]
noncomputable def oK:T:=.l [.iff (.D (.ag .eq (.J (.d 0) 0) (.M ⟨#[108,97,110,103,117,97,103,101]⟩))) .K .nil,.iff (.D (.ag .eq (.J (.d 0) 0) (.M ⟨#[101,110,118,105,114,111,110,109,101,110,116]⟩))) .K .nil,.C 2 (.call 38 (.l [.d 0])),.iff (.Q (.l [.D (.ag .dr (.d 2) .X),.D (.ag .eq (.b1 .len (.d 2)) (.p 1))])) .K .nil,.C 4 (.call 35 (.l [.d 0,.M ⟨#[110,97,109,101,115]⟩])),.iff (.D (.ag .is (.d 4) .X)) (.l [.ret .X]) .nil,.ret (.Y (.b1 .list (.J (.d 4) 1)))]
noncomputable def ky:T:=.l [.iff (.D (.ag .eq (.d 0) (.M ⟨#[99,104,97,114,97,99,116,101,114]⟩))) .K .nil,.iff (.D (.ag .eq (.d 0) (.M ⟨#[100,111,117,98,108,101]⟩))) .K .nil,.iff (.D (.ag .is (.d 1) .X)) .K .nil,.ret (.ite (.D (.ag .eq (.d 1) (.p 0))) (.p 0) (.p 1))]
noncomputable def kT:T:=.l [.iff (.D (.ag .dr (.d 1) .X)) .K .nil,.ret (.d 0)]
noncomputable def qZ:T:=.l [.iff (.fL (.D (.tT (.d 0) 0))) .K .nil,.C 3 (.J (.d 0) 1),.iff (.D (.ag .ne (.J (.d 0) 0) (.d 1))) .K .nil,.ret (.call 41 (.l [.new 0 27 (.l [.d 1,.b1 .list (.d 3),.dN]),.call 39 (.l [.d 0])]))]
noncomputable def mf:T:=.l [.C 1 (.call 33 (.l [.d 0])),.iff (.D (.ag .eq (.d 1) (.p 0))) .K .nil,.iff (.D (.ag .gt (.d 1) (.p 1))) .K .nil,.C 2 .X,.iff (.D (.call 34 (.l [.d 0]))) (.l [.C 2 (.call 40 (.l [.J (.d 0) 0,.sub (.J (.d 0) 1) (.p 0)]))]) .nil,.iff (.D (.ag .is (.d 2) .X)) .K .nil,.ret (.ag .eq (.d 2) (.p 1))]
noncomputable def qe:T:=.l [.iff (.D (.ag .is (.d 0) .X)) (.l [.ret (.d 1)]) .nil,.ret (.call 43 (.l [.d 0]))]
noncomputable def hM:T:=.l [.kz 0 5 (.d 1),.kz 0 6 (.d 2),.kz 0 7 (.w .mul (.Z (.l [.p 0])) (.b1 .len (.d 2))),.wU 0 8]
noncomputable def gp:T:=.l [.bU 1 (.D (.qv 0 5)) (.l [.iff (.D (.ag .ne (.d 1) (.M ⟨#[46,46,46]⟩))) (.l [.bU 2 (.eX (.l [.j5 (.f 0 6)])) (.l [.iff (.Q (.l [.D (.ag .eq (.dZ (.f 0 6) (.d 2)) (.d 1)),.D (.ag .eq (.dZ (.f 0 7) (.d 2)) (.p 0))])) (.l [.iff (.D (.Dy false (.d 1) (.f 0 8))) .K .nil,.dB (.f 0 8) (.d 1) (.d 2),.dB (.f 0 7) (.d 2) (.p 2)]) .nil])]) .nil])]
noncomputable def du:T:=.l [.bU 2 (.eX (.l [.j5 (.f 0 6)])) (.l [.C 3 (.dZ (.f 0 6) (.d 2)),.iff (.Q (.l [.D (.ag .ne (.dZ (.f 0 7) (.d 2)) (.p 2)),.D (.ag .dr (.d 3) .X),.D (.ag .ne (.d 3) (.M ⟨#[]⟩)),.D .K])) .K .nil])]
noncomputable def eF:T:=.l [.bU 1 (.D (.qv 0 5)) (.l [.iff (.D (.ag .eq (.d 1) (.M ⟨#[46,46,46]⟩))) (.l [.ret .X]) .nil,.iff (.D (.Dy true (.d 1) (.f 0 8))) (.l [.ex (.gi 47 0 (.l [.d 1]))]) .nil])]
noncomputable def eR:T:=.l [.ret (.Q (.l [.ag .eq (.dZ (.f 0 7) (.d 1)) (.p 0),.cD (.l [.ag .is (.dZ (.f 0 6) (.d 1)) .X,.ag .eq (.dZ (.f 0 6) (.d 1)) (.M ⟨#[]⟩)])]))]
noncomputable def dw:T:=.l [.C 1 (.p 0),.bU 2 (.D (.qv 0 5)) (.l [.iff (.D (.ag .eq (.d 2) (.M ⟨#[46,46,46]⟩))) (.l [.ret .X]) .nil,.iff (.D (.Dy true (.d 2) (.f 0 8))) (.l [.tU (.Q (.l [.D (.ag .lt (.d 1) (.j5 (.f 0 6))),.fL (.D (.gi 49 0 (.l [.d 1])))])) (.l [.vH 1 .add (.p 1)]),.iff (.D (.ag .lt (.d 1) (.j5 (.f 0 6)))) (.l [.dB (.f 0 8) (.d 2) (.d 1),.dB (.f 0 7) (.d 1) (.p 2)]) .nil]) .nil])]
noncomputable def gY:T:=.l [.ret (.Y (.comp 1 (.eX (.l [.j5 (.f 0 6)])) (.D (.D (.ag .eq (.dZ (.f 0 7) (.d 1)) (.p 0)))) (.d 1)))]
noncomputable def jM:T:=.l [.C 3 (.new 1 45 (.l [.d 0,.comp 5 (.D (.d 1)) .no (.sub (.d 5) (.p 0))])),.ex (.gi 46 3 .nil),.ex (.gi 48 3 .nil),.ex (.gi 50 3 .nil),.C 4 (.gi 51 3 .nil),.iff (.Q (.l [.D (.ag .gt (.b1 .len (.d 4)) (.p 0)),.D (.ag .eQ (.M ⟨#[46,46,46]⟩) (.d 0))])) .K .nil,.ret (.L (.l [.qv 3 8,.d 4]))]
noncomputable def uc:T:=.l [.iff (.D (.ag .is (.d 0) .X)) .K .nil,.ret (.d 0)]
noncomputable def CJ:T:=.l [.jn [3,4] (.call 52 (.l [.b1 .list (.d 1),.d 0,.d 2])),.C 5 (.Z .nil),.bU 6 (.D (.d 1)) (.l [.iff (.D (.ag .eq (.d 6) (.M ⟨#[46,46,46]⟩))) (.l [.lZ 5 (.comp 7 (.D (.d 4)) .no (.sub (.d 0) (.d 7)))]) (.l [.iff (.D (.ag .nr (.d 6) (.d 3))) (.l [.lZ 5 (.sub (.sub (.d 0) (.sub (.d 3) (.d 6))) (.p 1))]) (.l [.lZ 5 .X])])]),.ret (.d 5)]
noncomputable def dW:T:=.l [.ret (.cD (.l [.ag .is (.d 1) .X,.Q (.l [.ag .eq (.d 0) (.M ⟨#[100,111,117,98,108,101]⟩),.ag .eq (.d 1) (.L (.l [.p 0,.p 0]))])]))]
noncomputable def gZ:T:=.l [.iff (.D (.ag .eq (.d 0) (.M ⟨#[100,111,117,98,108,101]⟩))) (.l [.ret (.call 14 (.l [.d 1,.d 2]))]) .nil,.iff (.D (.ag .lt (.d 1) (.d 2))) .K .nil,.iff (.D (.ag .gt (.d 1) (.d 2))) .K .nil,.ret (.p 0)]
noncomputable def gB:T:=.l [.iff (.D (.ag .eQ (.J (.d 0) 0) (.L (.l [.M ⟨#[108,111,103,105,99,97,108]⟩,.M ⟨#[105,110,116,101,103,101,114]⟩,.M ⟨#[100,111,117,98,108,101]⟩,.M ⟨#[99,104,97,114,97,99,116,101,114]⟩])))) .K .nil]
noncomputable def fS:T:=.l [.C 5 (.sub (.J (.d 0) 1) (.d 1)),.C 6 (.sub (.J (.d 0) 1) (.d 2)),.C 7 (.call 55 (.l [.J (.d 0) 0,.d 5])),.C 8 (.call 55 (.l [.J (.d 0) 0,.d 6])),.iff (.Q (.l [.D (.d 7),.D (.d 8)])) .K .nil,.iff (.D (.d 7)) .K .nil,.iff (.D (.d 8)) .K .nil,.C 9 (.call 56 (.l [.J (.d 0) 0,.d 5,.d 6])),.ret (.ite (.D (.d 3)) (.neg (.d 9)) (.d 9))]
noncomputable def iI:T:=.l [.bU 5 (.eX (.l [.b1 .len (.d 0)])) (.l [.C 6 (.call 58 (.l [.sub (.d 0) (.d 5),.d 1,.d 2,.sub (.d 3) (.d 5),.d 4])),.iff (.D (.ag .ne (.d 6) (.p 0))) (.l [.ret (.d 6)]) .nil]),.ret (.p 0)]
noncomputable def kU:T:=.l [.C 5 (.Z .nil),.C 6 (.p 0),.C 7 (.p 0),.tU (.Q (.l [.D (.ag .lt (.d 6) (.b1 .len (.d 0))),.D (.ag .lt (.d 7) (.b1 .len (.d 1)))])) (.l [.iff (.D (.ag .le (.call 59 (.l [.d 2,.sub (.d 0) (.d 6),.sub (.d 1) (.d 7),.d 3,.d 4])) (.p 0))) (.l [.lZ 5 (.sub (.d 0) (.d 6)),.vH 6 .add (.p 1)]) (.l [.lZ 5 (.sub (.d 1) (.d 7)),.vH 7 .add (.p 1)])]),.ret (.Y (.w .add (.w .add (.d 5) (.sl (.d 0) (.D (.d 6)) .no)) (.sl (.d 1) (.D (.d 7)) .no)))]
noncomputable def kA:T:=.l [.C 4 (.Y (.comp 7 (.D (.d 0)) .no (.Z (.l [.d 7])))),.iff (.D (.ag .eq (.b1 .len (.d 4)) (.p 0))) .K .nil,.tU (.D (.ag .gt (.b1 .len (.d 4)) (.p 1))) (.l [.C 5 (.Z .nil),.bU 6 (.eX (.l [.p 0,.w .sub (.b1 .len (.d 4)) (.p 1),.p 2])) (.l [.lZ 5 (.call 60 (.l [.sub (.d 4) (.d 6),.sub (.d 4) (.w .add (.d 6) (.p 1)),.d 1,.d 2,.d 3]))]),.iff (.D (.ag .eq (.w .fmod (.b1 .len (.d 4)) (.p 2)) (.p 1))) (.l [.lZ 5 (.sub (.d 4) (.neg (.p 1)))]) .nil,.C 4 (.d 5)]),.ret (.sub (.d 4) (.p 0))]
noncomputable def pX:T:=.l [.iff (.D (.tT (.d 0) 2)) .K .nil,.ret (.Y (.w .mul (.Z (.l [.d 0])) (.d 1)))]
noncomputable def jI:T:=.l [.C 2 (.Z .nil),.bU 3 (.eX (.l [.call 33 (.l [.sub (.d 0) (.p 0)])])) (.l [.C 4 (.cB true),.iff (.D (.ag .is (.d 1) .X)) .K .nil,.iff (.D (.d 4)) (.l [.lZ 2 (.d 3)]) .nil]),.ret (.d 2)]
noncomputable def pB:T:=.l [.iff (.D (.ag .eq (.b1 .len (.d 0)) (.p 0))) .K .nil,.bU 3 (.D (.d 0)) (.l [.ex (.call 57 (.l [.d 3])),.iff (.D (.ag .ne (.call 33 (.l [.d 3])) (.call 33 (.l [.sub (.d 0) (.p 0)])))) .K .nil]),.C 4 (.call 62 (.l [.d 1,.b1 .len (.d 0)])),.ret (.call 61 (.l [.call 63 (.l [.d 0,.d 2]),.d 0,.d 4,.cD (.l [.ag .is (.d 2) .X,.d 2])]))]
noncomputable def fv:T:=.l [.ret (.cD (.l [.ag .is (.d 0) .X,.call 4 (.l [.d 0])]))]
noncomputable def oy:T:=.l [.C 1 .X,.C 2 .X,.bU 3 (.D (.d 0)) (.l [.iff (.cD (.l [.D (.call 65 (.l [.d 3])),.D (.ag .eq (.sub (.d 3) (.p 1)) (.p 0))])) (.l [.cont]) .nil,.iff (.cD (.l [.D (.ag .is (.d 1) .X),.D (.ag .lt (.call 14 (.l [.d 3,.d 1])) (.p 0))])) (.l [.C 1 (.d 3)]) .nil,.iff (.cD (.l [.D (.ag .is (.d 2) .X),.D (.ag .gt (.call 14 (.l [.d 3,.d 2])) (.p 0))])) (.l [.C 2 (.d 3)]) .nil]),.iff (.D (.ag .is (.d 1) .X)) (.l [.fR (.M ⟨#[39,120,39,32,104,97,115,32,110,111,32,102,105,110,105,116,101,32,118,97,108,117,101,115,32,116,111,32,99,117,116]⟩)]) .nil,.ret (.L (.l [.d 1,.d 2]))]
noncomputable def iS:T:=.l [.iff (.cD (.l [.D (.ag .is (.d 1) .X),.D (.ag .lt (.d 1) (.p 2))])) (.l [.fR (.M ⟨#[105,110,118,97,108,105,100,32,110,117,109,98,101,114,32,111,102,32,105,110,116,101,114,118,97,108,115]⟩)]) .nil,.ex (.call 28 (.l [.d 1])),.jn [2,3] (.call 66 (.l [.d 0])),.C 4 (.call 8 (.l [.d 3,.d 2])),.iff (.D (.ag .eq (.sub (.d 4) (.p 0)) (.p 0))) (.l [.C 4 (.d 2),.iff (.D (.ag .lt (.sub (.d 4) (.p 0)) (.p 0))) (.l [.C 4 (.call 6 (.l [.d 4]))]) (.l [.iff (.D (.ag .eq (.sub (.d 4) (.p 0)) (.p 0))) (.l [.C 4 (.call 2 (.l [.p 1]))]) .nil]),.C 5 (.call 10 (.l [.d 4,.call 2 (.l [.p 1000])])),.C 2 (.call 8 (.l [.d 2,.d 5])),.C 4 (.call 9 (.l [.d 5,.call 2 (.l [.p 2])])),.C 6 (.call 10 (.l [.d 4,.call 2 (.l [.d 1])])),.ret (.Y (.comp 8 (.eX (.l [.w .add (.d 1) (.p 1)])) .no (.call 7 (.l [.d 2,.call 9 (.l [.d 6,.call 2 (.l [.d 8])])]))))]) .nil,.C 6 (.call 10 (.l [.d 4,.call 2 (.l [.d 1])])),.C 7 (.comp 9 (.eX (.l [.w .add (.d 1) (.p 1)])) .no (.call 7 (.l [.d 2,.call 9 (.l [.d 6,.call 2 (.l [.d 9])])]))),.C 5 (.call 10 (.l [.d 4,.call 2 (.l [.p 1000])])),.dB (.v 7) (.p 0) (.call 8 (.l [.dZ (.v 7) (.p 0),.d 5])),.dB (.v 7) (.d 1) (.call 7 (.l [.dZ (.v 7) (.d 1),.d 5])),.ret (.d 7)]
noncomputable def iu:T:=.l [.bU 2 (.D (.d 1)) (.l [.iff (.D (.call 65 (.l [.d 2]))) (.l [.fR (.M ⟨#[105,110,118,97,108,105,100,32,115,112,101,99,105,102,105,99,97,116,105,111,110,32,111,102,32,39,98,114,101,97,107,115,39]⟩)]) .nil]),.iff (.D (.ag .eq (.b1 .len (.d 1)) (.p 0))) (.l [.fR (.M ⟨#[105,110,118,97,108,105,100,32,115,112,101,99,105,102,105,99,97,116,105,111,110,32,111,102,32,39,98,114,101,97,107,115,39]⟩)]) .nil,.iff (.D (.ag .eq (.b1 .len (.d 1)) (.p 1))) (.l [.ret (.call 67 (.l [.d 0,.call 11 (.l [.sub (.d 1) (.p 0)])]))]) .nil,.C 3 (.Y (.comp 5 (.D (.call 64 (.l [.Z (.l [.call 30 (.l [.d 1])]),.cB false,.cB true]))) .no (.sub (.d 1) (.d 5)))),.bU 4 (.eX (.l [.w .sub (.b1 .len (.d 3)) (.p 1)])) (.l [.iff (.D (.ag .eq (.call 14 (.l [.sub (.d 3) (.d 4),.sub (.d 3) (.w .add (.d 4) (.p 1))])) (.p 0))) (.l [.fR (.M ⟨#[39,98,114,101,97,107,115,39,32,97,114,101,32,110,111,116,32,117,110,105,113,117,101]⟩)]) .nil]),.ret (.d 3)]
noncomputable def hI:T:=.l [.iff (.D (.call 65 (.l [.d 0]))) (.l [.ret .X]) .nil,.C 4 (.w .sub (.b1 .len (.d 1)) (.p 1)),.bU 5 (.eX (.l [.d 4])) (.l [.C 6 (.call 14 (.l [.d 0,.sub (.d 1) (.d 5)])),.C 7 (.call 14 (.l [.d 0,.sub (.d 1) (.w .add (.d 5) (.p 1))])),.iff (.Q (.l [.D (.d 2),.cD (.l [.D (.ag .gt (.d 6) (.p 0)),.Q (.l [.D (.d 3),.D (.ag .eq (.d 5) (.p 0)),.D (.ag .eq (.d 6) (.p 0))])]),.D (.ag .le (.d 7) (.p 0))])) (.l [.ret (.w .add (.d 5) (.p 1))]) .nil,.iff (.Q (.l [.fL (.D (.d 2)),.D (.ag .ge (.d 6) (.p 0)),.cD (.l [.D (.ag .lt (.d 7) (.p 0)),.Q (.l [.D (.d 3),.D (.ag .eq (.d 5) (.w .sub (.d 4) (.p 1))),.D (.ag .eq (.d 7) (.p 0))])])])) (.l [.ret (.w .add (.d 5) (.p 1))]) .nil]),.ret .X]
noncomputable def mD:T:=.l [.ret (.Y (.comp 4 (.D (.d 0)) .no (.call 69 (.l [.d 4,.d 1,.d 2,.d 3]))))]
noncomputable def q6:T:=.l [.bU 1 (.eX (.l [.w .sub (.b1 .len (.d 0)) (.p 1)])) (.l [.iff (.D (.ag .eq (.sub (.d 0) (.d 1)) (.sub (.d 0) (.w .add (.d 1) (.p 1))))) (.l [.ret (.cB true)]) .nil]),.ret (.cB false)]
noncomputable def jN:T:=.l [.C 2 (.d 1),.C 3 (.Y (.comp 4 (.D (.d 0)) .no (.call 26 (.l [.d 4,.d 2])))),.tU (.Q (.l [.D (.ag .lt (.d 2) (.p 12)),.D (.call 71 (.l [.d 3]))])) (.l [.vH 2 .add (.p 1),.C 3 (.Y (.comp 5 (.D (.d 0)) .no (.call 26 (.l [.d 5,.d 2]))))]),.ret (.d 3)]
noncomputable def kG:T:=.l [.C 4 (.call 72 (.l [.d 0,.d 3])),.C 5 (.ite (.D (.d 1)) (.M ⟨#[40]⟩) (.M ⟨#[91]⟩)),.C 6 (.ite (.D (.d 1)) (.M ⟨#[93]⟩) (.M ⟨#[41]⟩)),.C 7 (.Z .nil),.bU 8 (.eX (.l [.w .sub (.b1 .len (.d 4)) (.p 1)])) (.l [.lZ 7 (.w .add (.w .add (.w .add (.w .add (.d 5) (.sub (.d 4) (.d 8))) (.M ⟨#[44]⟩)) (.sub (.d 4) (.w .add (.d 8) (.p 1)))) (.d 6))]),.iff (.Q (.l [.D (.d 2),.D (.d 1)])) (.l [.dB (.v 7) (.p 0) (.w .add (.M ⟨#[91]⟩) (.sl (.dZ (.v 7) (.p 0)) (.D (.p 1)) .no))]) (.l [.iff (.D (.d 2)) (.l [.dB (.v 7) (.neg (.p 1)) (.w .add (.sl (.dZ (.v 7) (.neg (.p 1))) .no (.D (.neg (.p 1)))) (.M ⟨#[93]⟩))]) .nil]),.ret (.d 7)]
noncomputable def fj:T:=.l [.bU 2 (.D (.d 1)) (.l [.iff (.D (.call 65 (.l [.d 2]))) .K .nil]),.bU 3 (.eX (.l [.w .sub (.b1 .len (.d 1)) (.p 1)])) (.l [.iff (.D (.ag .gt (.call 14 (.l [.sub (.d 1) (.d 3),.sub (.d 1) (.w .add (.d 3) (.p 1))])) (.p 0))) (.l [.fR (.M ⟨#[39,118,101,99,39,32,109,117,115,116,32,98,101,32,115,111,114,116,101,100,32,110,111,110,45,100,101,99,114,101,97,115,105,110,103,108,121,32,97,110,100,32,110,111,116,32,99,111,110,116,97,105,110,32,78,65,115]⟩)]) .nil]),.C 4 (.Z .nil),.bU 5 (.D (.d 0)) (.l [.iff (.D (.call 65 (.l [.d 5]))) (.l [.lZ 4 .X]) (.l [.lZ 4 (.b1 .len (.comp 6 (.D (.d 1)) (.D (.D (.ag .le (.call 14 (.l [.d 6,.d 5])) (.p 0)))) (.d 6)))])]),.ret (.d 4)]
noncomputable def jH:T:=.l [.C 1 (.call 35 (.l [.d 0,.M ⟨#[108,101,118,101,108,115]⟩])),.iff (.cD (.l [.D (.ag .is (.d 1) .X),.fL (.D (.call 34 (.l [.d 1])))])) .K .nil,.ret (.Y (.comp 2 (.D (.call 37 (.l [.d 1]))) .no (.ite (.D (.ag .is (.d 2) .X)) (.M ⟨#[78,65]⟩) (.d 2))))]
noncomputable def iH:T:=.l [.iff (.D (.d 0)) (.l [.ret (.call 31 (.l [.Z (.l [.M ⟨#[111,114,100,101,114,101,100]⟩,.M ⟨#[102,97,99,116,111,114]⟩])]))]) .nil,.ret (.call 31 (.l [.Z (.l [.M ⟨#[102,97,99,116,111,114]⟩])]))]
noncomputable def jJ:T:=.l [.iff (.D (.ag .is (.qv 0 2) .X)) (.l [.wU 0 2]) .nil,.dB (.f 0 2) (.M ⟨#[108,101,118,101,108,115]⟩) (.call 31 (.l [.d 1])),.dB (.f 0 2) (.M ⟨#[99,108,97,115,115]⟩) (.call 76 (.l [.d 2])),.ret (.d 0)]
noncomputable def kD:T:=.l [.iff (.D (.ag .eq (.J (.d 0) 0) (.M ⟨#[78,85,76,76]⟩))) .K .nil,.iff (.fL (.D (.call 34 (.l [.d 0])))) .K .nil,.ret (.call 37 (.l [.d 0]))]
noncomputable def xE:T:=.l [.C 3 (.Y (.Z (.l [.M ⟨#[120]⟩,.M ⟨#[98,114,101,97,107,115]⟩,.M ⟨#[108,97,98,101,108,115]⟩,.M ⟨#[105,110,99,108,117,100,101,46,108,111,119,101,115,116]⟩,.M ⟨#[114,105,103,104,116]⟩,.M ⟨#[100,105,103,46,108,97,98]⟩,.M ⟨#[111,114,100,101,114,101,100,95,114,101,115,117,108,116]⟩,.M ⟨#[46,46,46]⟩]))),.jn [4,5,6,7,8,9,10,11] (.call 54 (.l [.d 1,.d 3,.dN])),.iff (.D (.ag .eQ (.J (.call 53 (.l [.d 4,.M ⟨#[120]⟩])) 0) (.L (.l [.M ⟨#[105,110,116,101,103,101,114]⟩,.M ⟨#[100,111,117,98,108,101]⟩,.M ⟨#[108,111,103,105,99,97,108]⟩])))) .K .nil,.ex (.call 53 (.l [.d 5,.M ⟨#[98,114,101,97,107,115]⟩])),.C 12 (.J (.call 42 (.l [.d 4,.M ⟨#[100,111,117,98,108,101]⟩,.Z .nil])) 1),.C 13 (.call 44 (.l [.d 7,.cB false])),.C 14 (.call 44 (.l [.d 8,.cB true])),.C 15 (.call 68 (.l [.d 12,.J (.call 42 (.l [.d 5,.M ⟨#[100,111,117,98,108,101]⟩,.Z .nil])) 1])),.C 16 (.call 70 (.l [.d 12,.d 15,.d 14,.d 13])),.iff (.Q (.l [.D (.ag .dr (.d 6) .X),.D (.ag .eq (.J (.d 6) 0) (.M ⟨#[108,111,103,105,99,97,108]⟩)),.D (.ag .eq (.J (.d 6) 1) (.Z (.l [.p 0])))])) (.l [.ret (.Y (.call 29 (.l [.d 16])))]) .nil,.iff (.cD (.l [.D (.ag .is (.d 6) .X),.D (.ag .nr (.J (.d 6) 0) (.L (.l [.M ⟨#[78,85,76,76]⟩,.M ⟨#[108,111,103,105,99,97,108]⟩])))])) (.l [.C 17 (.ite (.D (.ag .is (.d 9) .X)) (.p 3) .K),.C 18 (.call 73 (.l [.d 15,.d 14,.d 13,.b2 .max (.p 1) (.b2 .min (.d 17) (.p 15))]))]) (.l [.C 18 (.call 78 (.l [.d 6])),.iff (.D (.ag .ne (.b1 .len (.d 18)) (.w .sub (.b1 .len (.d 15)) (.p 1)))) (.l [.fR (.M ⟨#[110,117,109,98,101,114,32,111,102,32,105,110,116,101,114,118,97,108,115,32,97,110,100,32,108,101,110,103,116,104,32,111,102,32,39,108,97,98,101,108,115,39,32,100,105,102,102,101,114]⟩)]) .nil]),.ret (.call 77 (.l [.jU (.call 29 (.l [.d 16])),.d 18,.call 44 (.l [.d 10,.cB false])]))]
noncomputable def fy:T:=.l [.jn [3,4,5] (.call 54 (.l [.d 1,.Z (.l [.M ⟨#[120]⟩,.M ⟨#[118,101,99]⟩,.M ⟨#[46,46,46]⟩]),.dN])),.iff (.cD (.l [.D (.ag .is (.d 3) .X),.D (.ag .is (.d 4) .X),.fL (.D (.call 34 (.l [.d 3]))),.fL (.D (.call 34 (.l [.d 4])))])) .K .nil,.ret (.Y (.call 29 (.l [.call 74 (.l [.J (.call 42 (.l [.d 3,.M ⟨#[100,111,117,98,108,101]⟩,.Z .nil])) 1,.J (.call 42 (.l [.d 4,.M ⟨#[100,111,117,98,108,101]⟩,.Z .nil])) 1])])))]
noncomputable def ph:T:=.l [.ret (.ite (.D (.Hp (.v 0))) (.JB 0) (.p 0))]
noncomputable def rj:T:=.l [.C 1 (.Z .nil),.bU 2 (.D (.sl (.d 0) .no (.D (.p 40)))) (.l [.C 3 (.ite (.D (.ag .ge (.d 2) (.p 0))) (.d 2) (.w .sub (.p 5) (.d 2))),.lZ 1 (.w .fmod (.d 3) (.p 997)),.C 3 (.w .fdiv (.d 3) (.p 997)),.bU 4 (.eX (.l [.p 30])) (.l [.iff (.D (.ag .gt (.d 3) (.p 0))) (.l [.lZ 1 (.w .fmod (.d 3) (.p 997)),.C 3 (.w .fdiv (.d 3) (.p 997))]) .nil])]),.C 1 (.sl (.d 1) .no (.D (.p 150))),.HQ 1,.ret (.JC 1)]
noncomputable def jO:T:=.l [.C 2 (.b1 .abs (.d 0)),.C 3 (.d 1),.tU (.D (.ag .gt (.d 3) (.p 0))) (.l [.GO 2 3 (.d 3) (.w .fmod (.d 2) (.d 3))]),.ret (.L (.l [.w .fdiv (.d 0) (.d 2),.w .fdiv (.d 1) (.d 2)]))]
noncomputable def ly:T:=.l [.C 2 (.w .fmod (.P 81 0 .nil) (.p 9)),.iff (.Q (.l [.D (.ag .eq (.d 2) (.p 8)),.D (.d 1)])) (.l [.ret (.sub (.Z (.l [.X,.L (.l [.p 0,.p 0]),.L (.l [.p 1,.p 0]),.L (.l [.neg (.p 1),.p 0])])) (.w .fmod (.P 81 0 .nil) (.p 4)))]) .nil,.iff (.D (.ag .gt (.d 2) (.p 5))) (.l [.ret (.call 83 (.l [.w .sub (.w .fmod (.P 81 0 .nil) (.p 37)) (.p 12),.w .add (.p 2) (.w .fmod (.d 2) (.p 2))]))]) .nil,.ret (.L (.l [.w .sub (.w .fmod (.P 81 0 .nil) (.p 13)) (.p 4),.p 1]))]
noncomputable def mA:T:=.l [.iff (.D (.ag .eq (.d 0) (.d 1))) (.l [.ret (.p 0)]) .nil,.iff (.cD (.l [.D (.ag .eq (.sub (.d 0) (.p 1)) (.p 0)),.D (.ag .eq (.sub (.d 1) (.p 1)) (.p 0))])) (.l [.C 2 (.ite (.D (.ag .gt (.sub (.d 0) (.p 1)) (.p 0))) (.p 0) (.sub (.d 0) (.p 0))),.C 3 (.ite (.D (.ag .gt (.sub (.d 1) (.p 1)) (.p 0))) (.p 0) (.sub (.d 1) (.p 0))),.ret (.ite (.D (.ag .lt (.d 2) (.d 3))) (.neg (.p 1)) (.p 1))]) .nil,.ret (.ite (.D (.ag .lt (.w .mul (.sub (.d 0) (.p 0)) (.sub (.d 1) (.p 1))) (.w .mul (.sub (.d 1) (.p 0)) (.sub (.d 0) (.p 1))))) (.neg (.p 1)) (.p 1))]
noncomputable def mh:T:=.l [.ret (.cD (.l [.ag .is (.d 0) .X,.ag .eq (.d 0) (.L (.l [.p 0,.p 0]))]))]
noncomputable def kK:T:=.l [.C 1 (.Z .nil),.bU 2 (.D (.d 0)) (.l [.C 3 (.p 0),.tU (.Q (.l [.D (.ag .lt (.d 3) (.j5 (.v 1))),.D (.ag .le (.call 85 (.l [.dZ (.v 1) (.d 3),.d 2])) (.p 0))])) (.l [.vH 3 .add (.p 1)]),.ins 1 (.d 3) (.d 2)]),.ret (.d 1)]
noncomputable def kP:T:=.l [.iff (.D (.ag .lt (.d 1) (.p 2))) (.l [.ret (.M ⟨#[105,110,118,97,108,105,100,32,110,117,109,98,101,114,32,111,102,32,105,110,116,101,114,118,97,108,115]⟩)]) .nil,.C 2 (.call 87 (.l [.comp 9 (.D (.d 0)) (.D (.Q (.l [.fL (.D (.call 86 (.l [.d 9]))),.D (.ag .gt (.sub (.d 9) (.p 1)) (.p 0))]))) (.d 9)])),.iff (.D (.ag .eq (.d 2) (.Z .nil))) (.l [.ret (.M ⟨#[39,120,39,32,104,97,115,32,110,111,32,102,105,110,105,116,101,32,118,97,108,117,101,115,32,116,111,32,99,117,116]⟩)]) .nil,.C 3 (.sub (.d 2) (.p 0)),.C 4 (.sub (.d 2) (.neg (.p 1))),.C 5 (.w .sub (.w .mul (.sub (.d 4) (.p 0)) (.sub (.d 3) (.p 1))) (.w .mul (.sub (.d 3) (.p 0)) (.sub (.d 4) (.p 1)))),.C 6 (.w .mul (.sub (.d 4) (.p 1)) (.sub (.d 3) (.p 1))),.iff (.D (.ag .eq (.d 5) (.p 0))) (.l [.C 5 (.ite (.D (.ag .ne (.sub (.d 3) (.p 0)) (.p 0))) (.b1 .abs (.sub (.d 3) (.p 0))) (.p 1)),.C 6 (.sub (.d 3) (.p 1)),.C 7 (.call 83 (.l [.w .sub (.w .mul (.w .mul (.sub (.d 3) (.p 0)) (.d 6)) (.p 1000)) (.w .mul (.d 5) (.sub (.d 3) (.p 1))),.w .mul (.w .mul (.sub (.d 3) (.p 1)) (.d 6)) (.p 1000)])),.C 5 (.w .mul (.p 2) (.d 5)),.C 6 (.w .mul (.d 6) (.p 1000)),.ret (.Y (.comp 10 (.eX (.l [.w .add (.d 1) (.p 1)])) .no (.call 83 (.l [.w .add (.w .mul (.w .mul (.sub (.d 7) (.p 0)) (.d 6)) (.d 1)) (.w .mul (.w .mul (.d 10) (.d 5)) (.sub (.d 7) (.p 1))),.w .mul (.w .mul (.sub (.d 7) (.p 1)) (.d 6)) (.d 1)]))))]) .nil,.C 8 (.comp 11 (.eX (.l [.w .add (.d 1) (.p 1)])) .no (.call 83 (.l [.w .add (.w .mul (.w .mul (.sub (.d 3) (.p 0)) (.d 6)) (.d 1)) (.w .mul (.w .mul (.d 11) (.d 5)) (.sub (.d 3) (.p 1))),.w .mul (.w .mul (.sub (.d 3) (.p 1)) (.d 6)) (.d 1)]))),.dB (.v 8) (.p 0) (.call 83 (.l [.w .sub (.w .mul (.w .mul (.sub (.d 3) (.p 0)) (.d 6)) (.p 1000)) (.w .mul (.d 5) (.sub (.d 3) (.p 1))),.w .mul (.w .mul (.sub (.d 3) (.p 1)) (.d 6)) (.p 1000)])),.dB (.v 8) (.d 1) (.call 83 (.l [.w .add (.w .mul (.w .mul (.sub (.d 4) (.p 0)) (.d 6)) (.p 1000)) (.w .mul (.d 5) (.sub (.d 4) (.p 1))),.w .mul (.w .mul (.sub (.d 4) (.p 1)) (.d 6)) (.p 1000)])),.ret (.d 8)]
noncomputable def kI:T:=.l [.iff (.cD (.l [.D (.ag .eq (.d 1) (.Z .nil)),.D (.ag .nr (.cB true) (.comp 4 (.D (.d 1)) .no (.call 86 (.l [.d 4]))))])) (.l [.ret (.M ⟨#[105,110,118,97,108,105,100,32,115,112,101,99,105,102,105,99,97,116,105,111,110,32,111,102,32,39,98,114,101,97,107,115,39]⟩)]) .nil,.iff (.D (.ag .eq (.b1 .len (.d 1)) (.p 1))) (.l [.ret (.call 88 (.l [.d 0,.w .fdiv (.sub (.sub (.d 1) (.p 0)) (.p 0)) (.sub (.sub (.d 1) (.p 0)) (.p 1))]))]) .nil,.C 2 (.call 87 (.l [.d 1])),.bU 3 (.eX (.l [.p 1,.b1 .len (.d 2)])) (.l [.iff (.D (.ag .eq (.sub (.d 2) (.d 3)) (.sub (.d 2) (.w .sub (.d 3) (.p 1))))) (.l [.ret (.M ⟨#[39,98,114,101,97,107,115,39,32,97,114,101,32,110,111,116,32,117,110,105,113,117,101]⟩)]) .nil]),.ret (.d 2)]
noncomputable def qk:T:=.l [.iff (.D (.call 86 (.l [.d 0]))) (.l [.ret .X]) .nil,.iff (.Q (.l [.D (.d 3),.D (.d 2),.D (.ag .eq (.d 0) (.sub (.d 1) (.p 0)))])) (.l [.ret (.p 1)]) .nil,.iff (.Q (.l [.D (.d 3),.fL (.D (.d 2)),.D (.ag .eq (.d 0) (.sub (.d 1) (.neg (.p 1))))])) (.l [.ret (.w .sub (.b1 .len (.d 1)) (.p 1))]) .nil,.C 4 (.b1 .len (.comp 5 (.D (.d 1)) (.D (.D (.ag .lt (.call 85 (.l [.d 5,.d 0])) (.ite (.D (.d 2)) (.p 0) (.p 1))))) (.d 5))),.ret (.ite (.D (.ny .le .lt (.p 1) (.d 4) (.b1 .len (.d 1)))) (.d 4) .X)]
noncomputable def mc:T:=.l [.iff (.D (.ag .eq (.sub (.d 0) (.p 1)) (.p 0))) (.l [.ret (.ite (.D (.ag .gt (.sub (.d 0) (.p 0)) (.p 0))) (.M ⟨#[73,110,102]⟩) (.M ⟨#[45,73,110,102]⟩))]) .nil,.ret (.b1 .str (.sub (.d 0) (.p 0)))]
noncomputable def k6:T:=.l [.C 3 (.Z .nil),.bU 4 (.eX (.l [.w .sub (.b1 .len (.d 0)) (.p 1)])) (.l [.C 5 (.ite (.Q (.l [.D (.d 1),.fL (.Q (.l [.D (.d 2),.D (.ag .eq (.d 4) (.p 0))]))])) (.M ⟨#[40]⟩) (.M ⟨#[91]⟩)),.C 6 (.ite (.cD (.l [.D (.d 1),.Q (.l [.D (.d 2),.D (.ag .eq (.d 4) (.w .sub (.b1 .len (.d 0)) (.p 2)))])])) (.M ⟨#[93]⟩) (.M ⟨#[41]⟩)),.lZ 3 (.w .add (.w .add (.w .add (.w .add (.d 5) (.call 91 (.l [.sub (.d 0) (.d 4)]))) (.M ⟨#[44]⟩)) (.call 91 (.l [.sub (.d 0) (.w .add (.d 4) (.p 1))]))) (.d 6))]),.ret (.d 3)]
noncomputable def yB:T:=.l [.C 1 (.call 82 (.l [.d 0])),.C 2 (.Y (.comp 15 (.eX (.l [.w .fmod (.P 81 1 .nil) (.p 9)])) .no (.P 84 1 (.l [.cB true])))),.C 3 (.w .fmod (.P 81 1 .nil) (.p 8)),.iff (.D (.ag .eq (.d 3) (.p 0))) (.l [.C 4 (.Z (.l [.L (.l [.w .fmod (.P 81 1 .nil) (.p 6),.p 1])]))]) (.l [.iff (.D (.ag .eq (.d 3) (.p 1))) (.l [.C 4 (.comp 16 (.eX (.l [.w .fmod (.P 81 1 .nil) (.p 4)])) .no (.P 84 1 (.l [.cB true]))),.iff (.Q (.l [.D (.ag .eq (.j5 (.v 4)) (.p 1)),.D (.ag .dr (.dZ (.v 4) (.p 0)) .X),.cD (.l [.D (.ag .ne (.sub (.dZ (.v 4) (.p 0)) (.p 1)) (.p 1)),.D (.ag .gt (.sub (.dZ (.v 4) (.p 0)) (.p 0)) (.p 40))])])) (.l [.C 4 (.Z .nil)]) .nil]) (.l [.C 4 (.comp 17 (.eX (.l [.w .add (.p 2) (.w .fmod (.P 81 1 .nil) (.p 4))])) .no (.P 84 1 (.l [.cB false]))),.iff (.D (.ag .eq (.d 3) (.p 2))) (.l [.dB (.v 4) (.p 0) (.L (.l [.p 1,.p 0])),.dB (.v 4) (.p 1) (.L (.l [.neg (.p 1),.p 0]))]) .nil])]),.C 5 (.ag .eq (.w .fmod (.P 81 1 .nil) (.p 2)) (.p 1)),.C 6 (.ag .eq (.w .fmod (.P 81 1 .nil) (.p 2)) (.p 1)),.C 7 (.Y (.Z (.l [.L (.l [.X,.new 0 27 (.l [.M ⟨#[100,111,117,98,108,101]⟩,.d 2,.dN])]),.L (.l [.X,.new 0 27 (.l [.M ⟨#[100,111,117,98,108,101]⟩,.d 4,.dN])]),.L (.l [.M ⟨#[114,105,103,104,116]⟩,.call 32 (.l [.d 5])]),.L (.l [.M ⟨#[105,110,99,108,117,100,101,46,108,111,119,101,115,116]⟩,.call 32 (.l [.d 6])])]))),.C 8 (.call 89 (.l [.d 2,.d 4])),.C 9 (.cZ 94 [7] (.call 79 (.l [.X,.w .add (.d 7) (.Z (.l [.L (.l [.M ⟨#[108,97,98,101,108,115]⟩,.call 32 (.l [.cB false])])])),.X]))),.iff (.cD (.l [.D (.tT (.d 8) 3),.D (.tT (.d 9) 3)])) (.l [.ret (.ag .eq (.d 9) (.d 8))]) .nil,.C 10 (.Y (.comp 18 (.D (.d 2)) .no (.call 90 (.l [.d 18,.d 8,.d 5,.d 6])))),.iff (.cD (.l [.D (.ag .ne (.J (.d 9) 0) (.M ⟨#[105,110,116,101,103,101,114]⟩)),.D (.ag .ne (.J (.d 9) 1) (.d 10)),.D (.ag .dr (.J (.d 9) 2) .X)])) (.l [.ret (.cB false)]) .nil,.C 9 (.call 79 (.l [.X,.d 7,.X])),.iff (.cD (.l [.D (.ag .ne (.J (.d 9) 1) (.d 10)),.D (.ag .ne (.J (.sub (.J (.d 9) 2) (.M ⟨#[99,108,97,115,115]⟩)) 1) (.Z (.l [.M ⟨#[102,97,99,116,111,114]⟩])))])) (.l [.ret (.cB false)]) .nil,.iff (.Q (.l [.D (.ag .eQ (.cB false) (.comp 19 (.D (.d 8)) .no (.ag .lt (.sub (.d 19) (.p 1)) (.p 2)))),.D (.ag .ne (.call 75 (.l [.d 9])) (.call 92 (.l [.d 8,.d 5,.d 6])))])) (.l [.ret (.cB false)]) .nil,.C 11 (.Y (.comp 20 (.eX (.l [.w .add (.p 1) (.w .fmod (.P 81 1 .nil) (.p 5))])) .no (.w .add (.M ⟨#[107]⟩) (.b1 .str (.d 20))))),.C 9 (.cZ 94 [7,11] (.call 79 (.l [.X,.w .add (.d 7) (.Z (.l [.L (.l [.M ⟨#[108,97,98,101,108,115]⟩,.new 0 27 (.l [.M ⟨#[99,104,97,114,97,99,116,101,114]⟩,.d 11,.dN])]),.L (.l [.M ⟨#[111,114,100,101,114,101,100,95,114,101,115,117,108,116]⟩,.call 32 (.l [.cB true])])])),.X]))),.iff (.D (.ag .ne (.b1 .len (.d 11)) (.w .sub (.b1 .len (.d 8)) (.p 1)))) (.l [.iff (.D (.ag .ne (.d 9) (.M ⟨#[110,117,109,98,101,114,32,111,102,32,105,110,116,101,114,118,97,108,115,32,97,110,100,32,108,101,110,103,116,104,32,111,102,32,39,108,97,98,101,108,115,39,32,100,105,102,102,101,114]⟩))) (.l [.ret (.cB false)]) .nil]) (.l [.iff (.cD (.l [.D (.ag .ne (.call 75 (.l [.d 9])) (.d 11)),.D (.ag .ne (.J (.d 9) 1) (.d 10)),.D (.ag .ne (.J (.sub (.J (.d 9) 2) (.M ⟨#[99,108,97,115,115]⟩)) 1) (.Z (.l [.M ⟨#[111,114,100,101,114,101,100]⟩,.M ⟨#[102,97,99,116,111,114]⟩])))])) (.l [.ret (.cB false)]) .nil]),.C 12 (.Y (.sl (.d 4) .no .no)),.C 13 (.ite (.D (.ag .gt (.w .fmod (.P 81 1 .nil) (.p 3)) (.p 0))) (.d 8) (.d 12)),.C 14 (.Y (.Z (.l [.L (.l [.X,.new 0 27 (.l [.M ⟨#[100,111,117,98,108,101]⟩,.d 2,.dN])]),.L (.l [.X,.new 0 27 (.l [.M ⟨#[100,111,117,98,108,101]⟩,.d 13,.dN])])]))),.C 9 (.cZ 94 [14] (.call 80 (.l [.X,.d 14,.X]))),.iff (.D (.ag .ne (.call 87 (.l [.d 13])) (.d 13))) (.l [.ret (.ag .eq (.d 9) (.M ⟨#[39,118,101,99,39,32,109,117,115,116,32,98,101,32,115,111,114,116,101,100,32,110,111,110,45,100,101,99,114,101,97,115,105,110,103,108,121,32,97,110,100,32,110,111,116,32,99,111,110,116,97,105,110,32,78,65,115]⟩))]) .nil,.ret (.ag .eq (.J (.d 9) 1) (.comp 21 (.D (.d 2)) .no (.ite (.D (.call 86 (.l [.d 21]))) .X (.b1 .len (.comp 22 (.D (.d 13)) (.D (.D (.ag .le (.call 85 (.l [.d 22,.d 21])) (.p 0)))) (.d 22))))))]
structure FT where
 I:Addr
 name:Str
 kd:Nat
 tS:Nat
 ar:Nat
 sl:List String
 fx:Bool
 code:T
noncomputable def F8:List FT:=[
 ⟨31,ofString "gcd",0,2,2,["a","b"],false,Gl⟩,
 ⟨38,ofString "make",0,2,2,["n","d","common"],false,Dr⟩,
 ⟨45,ofString "from_int",0,1,1,["n"],false,qg⟩,
 ⟨52,ofString "is_na",0,1,1,["x"],false,yT⟩,
 ⟨59,ofString "is_nan",0,1,1,["x"],false,u0⟩,
 ⟨66,ofString "is_finite",0,1,1,["x"],false,mr⟩,
 ⟨80,ofString "neg",0,1,1,["x"],false,G1⟩,
 ⟨87,ofString "add",0,2,2,["x","y"],false,Gx⟩,
 ⟨94,ofString "sub",0,2,2,["x","y"],false,GH⟩,
 ⟨101,ofString "mul",0,2,2,["x","y"],false,G4⟩,
 ⟨108,ofString "div",0,2,2,["x","y"],false,F7⟩,
 ⟨115,ofString "to_whole",0,1,1,["x","found"],false,oN⟩,
 ⟨122,ofString "nearest_whole",0,2,2,["n","d","low","rest"],false,hJ⟩,
 ⟨129,ofString "exponent",0,1,1,["x","n","d","e"],false,pW⟩,
 ⟨136,ofString "compare",0,2,2,["x","y","left","right"],false,qL⟩,
 ⟨143,ofString "whole_text",0,1,1,["n","rest","row","part"],false,lA⟩,
 ⟨150,ofString "special_text",0,1,1,["x"],false,iF⟩,
 ⟨157,ofString "scaled",0,3,3,["x","e","digits","shift"],false,uV⟩,
 ⟨164,ofString "significant",0,2,2,["x","digits","e","n"],false,jv⟩,
 ⟨171,ofString "without_tail",0,1,1,["text","end"],false,iM⟩,
 ⟨178,ofString "scientific_text",0,2,2,["x","digits","side","text","e","row"],false,fG⟩,
 ⟨185,ofString "fixed_text",0,2,2,["x","places","n","text"],false,kh⟩,
 ⟨192,ofString "measures",0,2,2,["x","digits","side","text","e","count","left"],false,pD⟩,
 ⟨199,ofString "chosen_form",0,2,2,["xs","digits","count","left","places","wide","minus","x","row","fixed_width","scientific_width"],false,jr⟩,
 ⟨206,ofString "formed",0,2,2,["x","form","text"],false,uB⟩,
 ⟨211,ofString "common_texts",0,2,2,["xs","digits","fractions","form","@4","@5"],false,iz⟩,
 ⟨219,ofString "number_text",0,2,2,["x","digits"],false,js⟩,
 ⟨308,ofString "__init__",2,3,4,["self","kind","items","attrs"],true,jy⟩,
 ⟨329,ofString "room",0,1,1,["n"],false,BW⟩,
 ⟨336,ofString "integer",0,1,1,["items"],false,q7⟩,
 ⟨343,ofString "double",0,1,1,["items"],false,tZ⟩,
 ⟨350,ofString "character",0,1,1,["items"],false,mQ⟩,
 ⟨357,ofString "flag",0,1,1,["b"],false,AX⟩,
 ⟨364,ofString "length",0,1,1,["v","kind"],false,u6⟩,
 ⟨371,ofString "is_atomic",0,1,1,["v"],false,mq⟩,
 ⟨385,ofString "get_attr",0,2,2,["v","name"],false,pH⟩,
 ⟨392,ofString "label_text",0,2,2,["kind","item"],false,kY⟩,
 ⟨404,ofString "label_texts",0,1,1,["value","levels","texts","@3"],false,jE⟩,
 ⟨416,ofString "dim_of",0,1,1,["v","dims"],false,vn⟩,
 ⟨409,ofString "names_of",0,1,1,["v","tag","dims","rows","names"],false,oK⟩,
 ⟨463,ofString "to_logical",0,2,2,["kind","item"],false,ky⟩,
 ⟨524,ofString "with_names",0,2,2,["v","names"],false,kT⟩,
 ⟨529,ofString "as_kind",0,3,3,["v","kind","notes","items"],false,qZ⟩,
 ⟨536,ofString "condition",0,1,1,["v","count","found"],false,mf⟩,
 ⟨557,ofString "truth_of",0,2,2,["value","default"],false,qe⟩,
 ⟨571,ofString "__init__",3,3,3,["self","formals","tags"],true,hM⟩,
 ⟨578,ofString "exact",1,1,1,["self","name","place"],true,gp⟩,
 ⟨592,ofString "partial_of",1,2,2,["self","name","place","tag"],true,du⟩,
 ⟨585,ofString "partial",1,1,1,["self","name"],true,eF⟩,
 ⟨606,ofString "is_free",1,2,2,["self","place"],true,eR⟩,
 ⟨599,ofString "positional",1,1,1,["self","place","name"],true,dw⟩,
 ⟨611,ofString "rest",1,1,1,["self","@1"],true,gY⟩,
 ⟨643,ofString "match_names",0,3,3,["formals","args","show","matching","rest","@5"],false,jM⟩,
 ⟨650,ofString "needed",0,2,2,["value","name"],false,uc⟩,
 ⟨656,ofString "take",0,2,3,["args","formals","show","places","rest","values","name","@7"],false,CJ⟩,
 ⟨663,ofString "is_lacking_sorting",0,2,2,["kind","item"],false,dW⟩,
 ⟨670,ofString "compare_items",0,3,3,["kind","a","b"],false,gZ⟩,
 ⟨677,ofString "check_sortable",0,1,1,["v"],false,gB⟩,
 ⟨684,ofString "compare_places",0,5,5,["v","i","j","decreasing","na_last","left","right","left_lacking","right_lacking","result"],false,fS⟩,
 ⟨691,ofString "compare_keys",0,5,5,["vs","i","j","decreasing","na_last","number","result"],false,iI⟩,
 ⟨698,ofString "merge_runs",0,5,5,["left","right","vs","decreasing","na_last","merged","i","j"],false,kU⟩,
 ⟨703,ofString "merge_sort",0,4,4,["places","vs","decreasing","na_last","runs","longer","at","@7"],false,kA⟩,
 ⟨708,ofString "each_key",0,2,2,["decreasing","count"],false,pX⟩,
 ⟨715,ofString "kept_places",0,2,2,["vs","na_last","places","place","keep","v"],false,jI⟩,
 ⟨723,ofString "order_by",0,3,3,["vs","decreasing","na_last","v","flags"],false,pB⟩,
 ⟨730,ofString "is_lacking_cuts",0,1,1,["x"],false,fv⟩,
 ⟨737,ofString "range_of",0,1,1,["xs","least","most","x"],false,oy⟩,
 ⟨742,ofString "equal_breaks",0,2,2,["xs","count","least","most","width","margin","step","bounds","@8","@9"],false,iS⟩,
 ⟨747,ofString "break_values",0,2,2,["xs","breaks","one","bounds","i","@5"],false,iu⟩,
 ⟨754,ofString "interval_code",0,4,4,["x","bounds","right","lowest","last","i","low","high"],false,hI⟩,
 ⟨759,ofString "cut_codes",0,4,4,["xs","bounds","right","lowest","@4"],false,mD⟩,
 ⟨771,ofString "repeats",0,1,1,["texts","i"],false,q6⟩,
 ⟨764,ofString "break_texts",0,2,2,["bounds","least","digits","texts","@4","@5"],false,jN⟩,
 ⟨778,ofString "cut_labels",0,4,4,["bounds","right","lowest","least","texts","opening","closing","labels","i"],false,kG⟩,
 ⟨783,ofString "interval_places",0,2,2,["xs","bounds","one","i","found","x","@6"],false,fj⟩,
 ⟨788,ofString "level_texts",0,1,1,["f","found","@2"],false,jH⟩,
 ⟨795,ofString "factor_class",0,1,1,["ordered"],false,iH⟩,
 ⟨802,ofString "with_levels",0,3,3,["v","texts","ordered"],false,jJ⟩,
 ⟨809,ofString "item_texts",0,1,1,["v"],false,kD⟩,
 ⟨816,ofString "b_cut",0,3,3,["interp","args","env","formals","v","breaks","labels","lowest","right","digits","ordered","rest","xs","closed","to_right","bounds","codes","least","names"],false,xE⟩,
 ⟨823,ofString "b_find_interval",0,3,3,["interp","args","env","v","bounds","rest"],false,fy⟩,
 ⟨837,ofString "_law_next",0,1,1,["row"],true,ph⟩,
 ⟨830,ofString "_law_row",0,1,1,["script","row","cell","figure","lap"],false,rj⟩,
 ⟨844,ofString "_law_reduced",0,2,2,["n","d","a","b"],false,jO⟩,
 ⟨851,ofString "_law_number",0,2,2,["row","wild","way"],true,ly⟩,
 ⟨858,ofString "_law_order",0,2,2,["x","y","left","right"],false,mA⟩,
 ⟨865,ofString "_law_lacks",0,1,1,["x"],false,mh⟩,
 ⟨872,ofString "_law_sorted",0,1,1,["xs","found","x","at"],false,kK⟩,
 ⟨877,ofString "_law_spread",0,2,2,["xs","many","there","low","top","n","d","start","found","@9","@10","@11"],false,kP⟩,
 ⟨882,ofString "_law_breaks",0,2,2,["xs","cutting","found","spot","@4"],false,kI⟩,
 ⟨887,ofString "_law_code",0,4,4,["x","bounds","right","closed","under","@5"],false,qk⟩,
 ⟨901,ofString "_law_shown",0,1,1,["x"],false,mc⟩,
 ⟨894,ofString "_law_labels",0,3,3,["bounds","right","closed","found","spot","head","tail"],false,k6⟩,
 ⟨913,ofString "law",0,1,1,["script","row","xs","way","cutting","right","closed","args","due","told","codes","badges","falls","bounds","asked","@15","@16","@17","@18","@19","@20","@21","@22"],false,yB⟩
 ]
noncomputable def ft(k:Nat):FT:=(F8[k]?).getD ⟨0,ofString "",0,0,0,[],false,.K⟩
noncomputable def o6:List Mine.Internal.S→List Value→Option Value
|.bl _::_,x::_=>some x
|.bi _ _::_,x::_=>some x
|_,_=>none
noncomputable def vL:List Mine.Internal.S→Prop
|.bl _::_=>False
|.bi _ _::_=>False
|_=>True
theorem z6(h:vL args)(xs):o6 args xs=none:=by
 cases args with
 |nil=>rfl
 |cons a as=>cases a<;>first|rfl|exact h.elim
noncomputable def MM(G:Nat→Spec)(t:FT):Spec:=λargs K X=>args.length=t.ar∧(t.fx=false→vL args)∧wb G t.sl.length t.code args K X
noncomputable def Ly:Nat→Nat→Spec
|0,_=>λ_ _ _=>False
|n+1,g=>match blt g n with
 |true=>Ly n g
 |false=>match beq g n with
  |true=>MM (Ly n) (ft n)
  |false=>λ_ _ _=>False
noncomputable def FF(g:Nat):Spec:=Ly (g+1) g
theorem Bl{n}(h:g<n):Ly n g=FF g:=by
 induction n with
 |zero=>exact absurd h (not_lt_zero _)
 |succ n I=>
  by_cases q:g=n
  ·subst q;rfl
  ·have lt:=Nat.lt_of_le_of_ne (le_of_lt_succ h) q
   have e:Nat.blt g n=true:=Nat.ble_eq_true_of_le lt;show(match Nat.blt g n with|true=>Ly n g|false=>_)=_;rw[e];exact I lt
theorem yX(n):FF n=MM (Ly n) (ft n):=by
 have e:blt n n=false:=by
  cases q:blt n n with
  |false=>rfl
  |true=>exact absurd (le_of_ble_eq_true q) (not_succ_le_self n)
 show(match Nat.blt n n with|true=>Ly n n|false=>match Nat.beq n n with|true=>MM (Ly n) (ft n)|false=>λ_ _ _=>False)=_;rw[e,(Nat.beq_refl n)]
theorem j7:(ao lo n st).length=n:=by simp[ao]
structure Sub(n:Nat)(G:Nat→Spec):Prop where
 c:∀g,Nat.blt g n=true→∀args K X,FF g args K X→G g args K X
theorem AW(h:∀k,k b ρ'→tr G c ρ k X)(h1:b=true→k true ρ')(h2:b=false→k false ρ'):tr G c ρ k X:=by
 apply h k;cases b
 ·exact h2 rfl
 ·exact h1 rfl
theorem ai(h:∀k,k b ρ'→tr G c ρ k X)(h1:b=true→ex G A ρ' (λρ=>ex G r ρ x C t X) C t X)(h2:b=false→ex G B ρ' (λρ=>ex G r ρ x C t X) C t X):ex G (.cons (.iff c A B) r) ρ x C t X:=
 AW h h1 h2
theorem ae(h:x ρ):ex G .nil ρ x C t X:=h
theorem ik(h:tr G c ρ (λt ρ=>match t with|true=>ex G A ρ (λρ=>ex G r ρ x C Y X) C Y X|false=>ex G B ρ (λρ=>ex G r ρ x C Y X) C Y X) X):ex G (.cons (.iff c A B) r) ρ x C Y X:=h
theorem aU(h:∀k,k b ρ'→tr G e ρ k X)(h1:b=true→tr G (.Q es) ρ' k X)(h2:b=false→k false ρ'):tr G (.Q (.cons e es)) ρ k X:=AW (k:=λc ρ=>match c with|true=>xM G es ρ k X|false=>k false ρ) h h1 h2
theorem bO(h:∀k,k b ρ'→tr G e ρ k X)(h1:b=true→k true ρ')(h2:b=false→k false ρ'):tr G (.Q (.cons e .nil)) ρ k X:=aU h h1 h2
theorem d8(h:∀k,k b ρ'→tr G e ρ k X)(h1:b=true→k true ρ')(h2:b=false→tr G (.cD es) ρ' k X):tr G (.cD (.cons e es)) ρ k X:=AW (k:=λc ρ=>match c with|true=>k true ρ|false=>FA G es ρ k X) h h1 h2
theorem gz(h:∀k,k b ρ'→tr G e ρ k X)(h1:b=true→k true ρ')(h2:b=false→k false ρ'):tr G (.cD (.cons e .nil)) ρ k X:=d8 h h1 h2
theorem xB(h:∀k,k (.j (.bool b)) ρ'→ev G e ρ k X)(h1:b=true→ev G (.Q (.cons j es)) ρ' k X)(h2:b=false→k (.j (.bool false)) ρ'):ev G (.Q (.cons e (.cons j es))) ρ k X:=by
 apply h _;cases b
 ·exact h2 rfl
 ·exact h1 rfl
theorem NV(h:∀k,k (.j (.bool b)) ρ'→ev G e ρ k X)(h1:b=true→k (.j (.bool true)) ρ')(h2:b=false→ev G (.cD (.cons j es)) ρ' k X):ev G (.cD (.cons e (.cons j es))) ρ k X:=by
 apply h _;cases b
 ·exact h2 rfl
 ·exact h1 rfl
theorem bx(h:∀k,k c ρ'→tr G t ρ k X)(h1:c=true→ev G a ρ' k X)(h2:c=false→ev G b ρ' k X):ev G (.ite t a b) ρ k X:=AW h h1 h2
theorem bM(h:∀x,x ρ'→ex G s ρ x C t X)(h1:ex G r ρ' x C t X):ex G (.cons s r) ρ x C t X:=h _ h1
theorem vf{step:(R→Prop)→R→Prop}(Inv:R→Prop)(g:R→Nat)(H:∀ρ,Inv ρ→∀I,(∀ρ',Inv ρ'→g ρ'<g ρ→I ρ')→step I ρ)(h:Inv ρ):∃n,iter step n ρ:=by
 have K:∀n ρ,Inv ρ→g ρ<n→iter step n ρ:=by
  intro n;induction n with
  |zero=>intro ρ _ h;exact absurd h (not_lt_zero _)
  |succ n I=>intro ρ i m;exact H ρ i _ λρ' h1 h2=>I ρ' h1 (zl 575773193223674 rfl m h2)
 exact⟨_,K _ ρ h (lt_succ_self _)⟩
noncomputable abbrev vi(i:Int):Mine.Internal.S:=.j (.int i)
noncomputable abbrev nv(n d:Int):V:=.L [.int n,.int d]
theorem af{n:Nat}(h:Nat.ble n 100000=true):n≤aA:=Nat.le_trans (le_of_ble_eq_true h) (by decide)
theorem FG(a b):PyData.eqv (.int a) (.int b)=decide (a=b):=rfl
theorem yI(a b):PyData.eqv (.str a) (.str b)=decide (a=b):=rfl
theorem sI(h:PyData.eqv (.int a) (.int b)=true):a=b:=of_decide_eq_true h
theorem zL(h:PyData.eqv (.int a) (.int b)=false):a≠b:=of_decide_eq_false h
noncomputable abbrev fq(a m:Nat)(c:T):Nat×Nat×Bool×T:=(a,m,false,c)
noncomputable abbrev yR(a m:Nat)(c:T):Nat×Nat×Bool×T:=(a,m,true,c)
noncomputable def NQ:List (Nat×Nat×Bool×T):=[fq 2 2 Gl,fq 2 3 Dr,fq 1 1 qg,fq 1 1 yT,fq 1 1 u0,fq 1 1 mr,fq 1 1 G1,fq 2 2 Gx,fq 2 2 GH,fq 2 2 G4,fq 2 2 F7,fq 1 2 oN,fq 2 4 hJ,fq 1 4 pW,fq 2 4 qL,fq 1 4 lA,fq 1 1 iF,fq 3 4 uV,fq 2 4 jv,fq 1 2 iM,fq 2 6 fG,fq 2 4 kh,fq 2 7 pD,fq 2 11 jr,fq 2 3 uB,fq 2 6 iz,fq 2 2 js,yR 4 4 jy,fq 1 1 BW,fq 1 1 q7,fq 1 1 tZ,fq 1 1 mQ,fq 1 1 AX,fq 1 2 u6,fq 1 1 mq,fq 2 2 pH,fq 2 2 kY,fq 1 4 jE,fq 1 2 vn,fq 1 5 oK,fq 2 2 ky,fq 2 2 kT,fq 3 4 qZ,fq 1 3 mf,fq 2 2 qe,yR 3 3 hM,yR 1 3 gp,yR 2 4 du,yR 1 2 eF,yR 2 2 eR,yR 1 3 dw,yR 1 2 gY,fq 3 6 jM,fq 2 2 uc,fq 3 8 CJ,fq 2 2 dW,fq 3 3 gZ,fq 1 1 gB,fq 5 10 fS,fq 5 7 iI,fq 5 8 kU,fq 4 8 kA,fq 2 2 pX,fq 2 6 jI,fq 3 5 pB,fq 1 1 fv,fq 1 4 oy,fq 2 10 iS,fq 2 6 iu,fq 4 8 hI,fq 4 5 mD,fq 1 2 q6,fq 2 6 jN,fq 4 9 kG,fq 2 7 fj,fq 1 3 jH,fq 1 1 iH,fq 3 3 jJ,fq 1 1 kD,fq 3 19 xE,fq 3 6 fy,yR 1 1 ph,fq 1 5 rj,fq 2 4 jO,yR 2 3 ly,fq 2 4 mA,fq 1 1 mh,fq 1 4 kK,fq 2 12 kP,fq 2 5 kI,fq 4 6 qk,fq 1 1 mc,fq 3 7 k6,fq 1 23 yB]
theorem Hx:F8.map (λt=>(t.ar,t.sl.length,t.fx,t.code))=NQ:=by kernel_rfl
noncomputable def Pa:List Mine.Internal.S→Bool
|.bl _::_=>false
|.bi _ _::_=>false
|_=>true
theorem HH(h:Pa l=true):vL l:=by
 cases l with
 |nil=>trivial
 |cons a l=>cases a<;>first|trivial|cases h
theorem fE(n:Nat)(h:NQ[n]? =some (a,m,x,c))(h2:(Nat.beq args.length a&&(x||Pa args))=true)(H:∀G,Sub n G→wb G m c args K X):FF n args K X:=by
 rw[←Hx,getElem?_map]at h;obtain⟨t,e,h⟩:=Option.map_eq_some_iff.mp h;cases h;have e:ft n=t:=by unfold ft;rw[e];rfl
 obtain⟨h3,h4⟩:=(Bool.and_eq_true ..).mp h2;rw[yX,e];refine⟨eq_of_beq_eq_true h3,λq=> ?_,H _ ⟨λg Z args K X c=>(Bl (Nat.le_of_ble_eq_true Z))▸c⟩⟩;rw[q]at h4;exact HH h4
noncomputable def Qx:Mine.Internal.S→Bool
|.bl _=>false
|.bi _ _=>false
|_=>true
theorem EY{l:List Mine.Internal.S}(h:l.all Qx=true)(ρ):ba l ρ=[]:=by
 induction l generalizing ρ with
 |nil=>rfl
 |cons a l I=>
  cases ρ with
  |nil=>cases a<;>rfl
  |cons s ρ=>cases a<;>first|exact I h ρ|cases h
theorem cX(n:Nat)(h:NQ[n]? =some (a,m,x,c))(h2:(Nat.beq args.length a&&(x||Pa args))=true)(h3:args.all Qx=true)(H:∀G,Sub n G→ex G c (args++replicate (m-args.length) .y) (λ_=>K (.j .none) []) (λ_=>False) (λr _=>K r []) X):FF n args K X:=
 fE n h h2 λG g=>by
  show ex G c _ (λρ=>K (.j .none) (ba args ρ)) _ (λr ρ=>K r (ba args ρ)) X;rw[show ba args=λ_=>[]from funext (EY h3)];exact H G g
theorem JW(H:0≤a)(hb:0≤b)(h:K (.j (.int (Int.gcd a b:Int))) []):FF 0 [vi a,vi b] K X:=by
 refine cX 0 rfl rfl rfl λG O=> ?_;refine vf (λρ=>∃x y,ρ=[vi x,vi y]∧0≤x∧0≤y∧Int.gcd x y=Int.gcd a b) (λρ=>match ρ with|[_,.j (.int y)]=>y.toNat|_=>0) ?_ ⟨a,b,rfl,H,hb,rfl⟩;rintro ρ ⟨x,y,rfl,Q,Y,e⟩ I i;refine AW (λ_ h=>h) (λq=> ?_) λq=> ?_
 ·have S:=of_decide_eq_true q
  have E:Int.gcd y (x.fmod y)=Int.gcd x y:=by
   rw[Int.fmod_eq_emod_of_nonneg _ Y];obtain⟨m,rfl⟩:=Int.eq_ofNat_of_zero_le Q;obtain⟨k,rfl⟩:=Int.eq_ofNat_of_zero_le Y;show Nat.gcd k (m%k)=Nat.gcd m k;rw[gcd_comm k,←gcd_rec,gcd_comm]
  exact⟨zl 31155043112 rfl S,i _ ⟨y,x.fmod y,rfl,zl 179569693 rfl Y,Int.fmod_nonneg_of_pos _ S,E.trans e⟩ (by
   have:=Int.fmod_lt_of_pos x S;have:=Int.fmod_nonneg_of_pos x S;exact zl 0x515d9263774e1 rfl ‹_› this)⟩
 ·have S:y=0:=by have:=of_decide_eq_false q;exact zl 807472675673373 rfl Y this
  subst S;have g:x=(Int.gcd a b):=by rw[←e,Int.gcd_zero_right];exact zl 45465149725 rfl Q
  rw[←g]at h;exact h
noncomputable def rP(n d:Int):Int:=n/(Int.gcd n d)
noncomputable def mw(n d:Int):Int:=d/(Int.gcd n d)
noncomputable abbrev LU(n d:Int):V:=nv (rP n d) (mw n d)
theorem kR(hd:0<d):0<(Int.gcd n d:Int):=by
 have:Int.gcd n d≠0:=λq=>by rw[Int.gcd_eq_zero_iff]at q;exact zl 31155043112 rfl hd q.2
 exact zl 347609486989 rfl this
theorem qO(hd:0<d):(Int.gcd n d)≤d:=Int.le_of_dvd hd (Int.gcd_dvd_right ..)
theorem wo{n d:Int}(hd:0<d)(H:d<lJ)(h:K (.j (LU n d)) []):FF 1 [vi n,vi d] K X:=by
 refine cX 1 rfl rfl rfl λG g=> ?_;refine ai (λ_ h=>h) (λq=>absurd (sI q) (zl 31155043112 rfl hd)) λ_=> ?_;refine ai (λ_ h=>h) (λq=>absurd (of_decide_eq_true q) (zl 31154702376 rfl hd)) λ_=> ?_;refine g.c 0 rfl _ _ _ (JW (zm 5871173 rfl _) (by rename_i Z;exact zl 21731279785 rfl (dF Z:)) ?_);have e:Int.gcd n.natAbs d=Int.gcd n d:=by rw[Int.gcd,Int.gcd,Int.natAbs_natCast]
 have g0:=kR (n:=n) hd;have g1:=qO (n:=n) hd;rw[e];refine⟨zl 21094791827720 rfl g0,zl 0x8cb93fb871e7489 rfl H g1,zl 21094791827720 rfl g0,zl 0x8cb93fb871e7489 rfl H g1,af rfl,?_⟩;rw[Int.fdiv_eq_ediv_of_nonneg _ (by exact zm 92741 rfl _),Int.fdiv_eq_ediv_of_nonneg _ (by exact zm 92741 rfl _)];exact h
theorem wN(h:K (.j (nv n 1)) []):FF 2 [vi n] K X:=by
 refine fE 2 rfl rfl λG H=> ?_;exact⟨af rfl,h⟩
theorem fw(h:K (.j (.bool (decide (n=0∧d=0)))) []):FF 3 [.j (nv n d)] K X:=by
 refine fE 3 rfl rfl λG H=> ?_;refine xB (λ_ h=>h) (λq=> ?_) λq=> ?_
 ·have e:=sI q
  subst e;simp only[true_and]at h;exact h
 ·have e:=zL q
  simp only[e]at h;exact h
theorem Ca(h:K (.j (.bool (decide (n=0∧d=0)))) []):FF 4 [.j (nv n d)] K X:=by
 refine cX 4 rfl rfl rfl λG H=> ?_;refine xB (b:=true) (λ_ h=>h) (λ_=> ?_) (λq=>by cases q);refine xB (λ_ h=>h) (λq=> ?_) λq=> ?_
 ·have e:=sI q
  subst e;simp only[true_and]at h;exact h
 ·have e:=zL q
  simp only[e]at h;exact h
theorem uq(h:K (.j (.bool (decide (0<d)))) []):FF 5 [.j (nv n d)] K X:=by
 refine fE 5 rfl rfl λG H=> ?_;exact h
theorem Gb(h:K (.j (nv (0-n) d)) []):FF 6 [.j (nv n d)] K X:=by
 refine fE 6 rfl rfl λG H=> ?_;exact⟨af rfl,h⟩
noncomputable def qR:Nat:=2^40
noncomputable def JD:Nat:=2^64
theorem tD{a b:Int}(h1:a.natAbs<p)(h2:b.natAbs<q)(h:p*q≤r):(a*b).natAbs<r:=by
 rw[Int.natAbs_mul];exact Nat.lt_of_lt_of_le (Nat.mul_lt_mul'' h1 h2) h
theorem GF(hd:0<d)(H:0<c)(h1:n.natAbs<qR)(h2:d.natAbs<qR)(h3:m.natAbs<qR)(h4:c.natAbs<qR)(h:K (.j (LU (n*c+m*d) (d*c))) []):FF 7 [.j (nv n d),.j (nv m c)] K X:=by
 refine cX 7 rfl rfl rfl λG g=> ?_;have l:qR≤lJ:=by decide
 have na:∀{a b:Int},0<b→decide (a=0∧b=0)=false:=λhb=>decide_eq_false λq=>zl 31155043112 rfl hb q.2;refine g.c 3 rfl _ _ _ (fw ?_);rw[na hd];refine g.c 3 rfl _ _ _ (fw ?_);rw[na H];refine ik (aU (λ_ h=>h) (λq=>absurd (sI q) (zl 31155043112 rfl hd)) λ_=> ?_);refine ai (λ_ h=>h) (λq=>absurd (sI q) (Int.ne_of_gt hd)) λ_=> ?_;refine ai (λ_ h=>h) (λq=>absurd (sI q) (zl 31155043112 rfl H)) λ_=> ?_;refine⟨Nat.lt_of_lt_of_le h1 l,Nat.lt_of_lt_of_le h4 l,Nat.lt_of_lt_of_le h3 l,Nat.lt_of_lt_of_le h2 l,Nat.lt_of_lt_of_le h2 l,Nat.lt_of_lt_of_le h4 l,?_⟩;refine g.c 1 rfl _ _ _ (wo (Int.mul_pos hd H) ?_ h);have:=tD (r:=2^199) h2 h4 (by decide);exact zl 0x39d7a6c27f884c773 rfl this
theorem K5(hd:0<d)(H:0<c)(h1:n.natAbs<qR)(h2:d.natAbs<qR)(h3:m.natAbs<qR)(h4:c.natAbs<qR)(h:K (.j (LU (n*c+(0-m)*d) (d*c))) []):FF 8 [.j (nv n d),.j (nv m c)] K X:=by
 refine cX 8 rfl rfl rfl λG g=> ?_;refine g.c 6 rfl _ _ _ (Gb ?_);exact g.c 7 rfl _ _ _ (GF hd H h1 h2 (zl 30054314634867 rfl h3) h4 h)
theorem Ml(hd:0<d)(H:0<c)(h1:n.natAbs<qR)(h2:d.natAbs<qR)(h3:m.natAbs<qR)(h4:c.natAbs<qR)(h:K (.j (LU (n*m) (d*c))) []):FF 9 [.j (nv n d),.j (nv m c)] K X:=by
 refine cX 9 rfl rfl rfl λG g=> ?_;have l:qR≤lJ:=by decide
 have na:∀{a b:Int},0<b→decide (a=0∧b=0)=false:=λhb=>decide_eq_false λq=>zl 31155043112 rfl hb q.2;refine g.c 3 rfl _ _ _ (fw ?_);rw[na hd];refine g.c 3 rfl _ _ _ (fw ?_);rw[na H];refine⟨Nat.lt_of_lt_of_le h1 l,Nat.lt_of_lt_of_le h3 l,Nat.lt_of_lt_of_le h2 l,Nat.lt_of_lt_of_le h4 l,?_⟩;refine g.c 1 rfl _ _ _ (wo (Int.mul_pos hd H) ?_ h);have:=tD (r:=2^199) h2 h4 (by decide);exact zl 0x39d7a6c27f884c773 rfl this
theorem Mp(hd:0<d)(H:0<c)(M:0<m)(h1:n.natAbs<qR)(h2:d.natAbs<qR)(h3:m.natAbs<qR)(h4:c.natAbs<qR)(h:K (.j (LU (n*c) (d*m))) []):FF 10 [.j (nv n d),.j (nv m c)] K X:=by
 refine cX 10 rfl rfl rfl λG g=> ?_;have l:qR≤lJ:=by decide
 have na:∀{a b:Int},0<b→decide (a=0∧b=0)=false:=λhb=>decide_eq_false λq=>zl 31155043112 rfl hb q.2;refine g.c 3 rfl _ _ _ (fw ?_);rw[na hd];refine g.c 3 rfl _ _ _ (fw ?_);rw[na H];refine ik (aU (λ_ h=>h) (λq=>absurd (sI q) (zl 31155043112 rfl hd)) λ_=> ?_);refine ai (λ_ h=>h) (λq=>absurd (sI q) (Int.ne_of_gt hd)) λ_=> ?_;refine⟨Nat.lt_of_lt_of_le h1 l,Nat.lt_of_lt_of_le h4 l,Nat.lt_of_lt_of_le h2 l,Nat.lt_of_lt_of_le h3 l,?_⟩;refine g.c 1 rfl _ _ _ (wo (Int.mul_pos hd M) ?_ h);have:=tD (r:=2^199) h2 h3 (by decide);exact zl 0x39d7a6c27f884c773 rfl this
theorem wY(h:K (.j (.int n)) []):FF 11 [.j (nv n 1)] K X:=by
 refine cX 11 rfl rfl rfl λG H=> ?_;refine H.c 5 rfl _ _ _ (uq ?_);refine⟨by decide,by decide,?_⟩;refine bx (λ_ h=>h) (λq=> ?_) λq=> ?_
 ·have e:((n.natAbs:Int)).fdiv 1=n:=by rw[Int.fdiv_one];have:=of_decide_eq_true q;exact zl 44761529885 rfl (dT q:)
  rw[e];exact h
 ·have e:0-((n.natAbs:Int)).fdiv 1=n:=by rw[Int.fdiv_one];have:=of_decide_eq_false q;exact zl 5546144621698885 rfl (dF q:)
  show K (.j (.int _)) _;rw[e];exact h
noncomputable def sg(x y:Int):Int:=if x=y then 0 else if x<y then-1 else 1
noncomputable def ag(a b c d:Int):Int:=if b=0∧d=0 then sg a c else sg (a*d) (c*b)
structure Num(a b:Int):Prop where
 ext:(0<b∧Int.gcd a b=1)∨(b=0∧(a=1∨a= -1))
 h1:a.natAbs<JD
 h2:b.natAbs<JD
theorem a8(x y):(x=y∧sg x y=0)∨(x<y∧sg x y= -1)∨(y<x∧sg x y=1):=by
 unfold sg;split
 ·exact .inl ⟨‹_›,rfl⟩
 ·split
  ·exact .inr (.inl ⟨‹_›,rfl⟩)
  ·exact .inr (.inr ⟨zl 4965987368643626 rfl ‹_› ‹_›,rfl⟩)
theorem Num.na(h:Num a b):decide (a=0∧b=0)=false:=decide_eq_false λq=>by
 rcases h.ext with⟨h,_⟩|⟨h,h'⟩<;>(first|exact zl 30761165012 rfl q.2 h|exact zl 0x6df3cf3d9360d4 rfl q.1 h')
theorem Num.nn(h:Num a b):0≤b:=by rcases h.ext with⟨h,_⟩|⟨h,h'⟩<;>(first|exact zl 179569704 rfl h|exact zl 179582420 rfl h)
theorem xH(g:Int.gcd a b=1)(h:b∣a*d):b∣d:=by
 have h':b.natAbs∣a.natAbs*d.natAbs:=by rw[←Int.natAbs_mul];exact Int.natAbs_dvd_natAbs.mpr h
 have G:Coprime b.natAbs a.natAbs:=by show gcd _ _=1;rw[gcd_comm];exact g
 exact Int.natAbs_dvd_natAbs.mp (G.dvd_of_dvd_mul_left h')
theorem yb(hb:0<b)(hd:0<d)(g1:Int.gcd a b=1)(g2:Int.gcd c d=1)(e:a*d=c*b):a=c∧b=d:=by
 have E:b=d:=by
  have:=Int.le_of_dvd hd (xH g1 ⟨c,by rw[e,Int.mul_comm]⟩);have:=Int.le_of_dvd hb (xH g2 ⟨a,by rw[←e,Int.mul_comm]⟩);exact zl 348424926614 rfl ‹_› this
 subst E;exact⟨Int.eq_of_mul_eq_mul_right (zl 31155043112 rfl hb) e,rfl⟩
theorem iG(x:Num a b)(y:Num c d):ag a b c d=0↔a=c∧b=d:=by
 unfold ag;split
 ·rename_i q
  have h:=a8 a c;exact zl 0xbda45842ad184644b4f8bf38264405242789026e865ced4 rfl q.2 q.1 h
 ·rename_i q
  constructor
  ·intro z
   have e:a*d=c*b:=by
    rcases a8 (a*d) (c*b)with⟨h,e⟩|⟨h,e⟩|⟨h,e⟩<;>(first|exact zl 44994604 rfl h|exact zl 573574819888340 rfl z e|exact zl 17924205542612 rfl z e)
   rcases x.ext with⟨hb,g1⟩|⟨hb,g1⟩<;>rcases y.ext with⟨hd,g2⟩|⟨hd,g2⟩
   ·exact yb hb hd g1 g2 e
   ·subst hd;rw[Int.mul_zero]at e
    have:=Int.mul_eq_zero.mp e.symm;exact zl 0x1737304094cde33ea8b4e609329143f268 rfl g2 q this
   ·subst hb;rw[Int.mul_zero]at e
    have:=Int.mul_eq_zero.mp e;exact zl 0x1711853f088c174c4bb3d4e5ea3be3f268 rfl g1 q this
   ·exact zl 0x4ebe8b2107c34d5547f5e1cf5 rfl q hb hd
  ·rintro⟨rfl,rfl⟩
   rcases a8 (a*b) (a*b)with⟨h,e⟩|⟨h,e⟩|⟨h,e⟩<;>(first|exact zl 215421652 rfl e|exact zl 184864785 rfl h)
theorem cR(x:Num a b)(y:Num c d)(h:K (.j (.int (ag a b c d))) []):FF 14 [.j (nv a b),.j (nv c d)] K X:=by
 refine fE 14 rfl rfl λG H=> ?_;have l:JD≤lJ:=by decide
 refine H.c 3 rfl _ _ _ (fw ?_);rw[x.na];refine H.c 3 rfl _ _ _ (fw ?_);rw[y.na];have S:∀{l r:Int},PyData.eqv (.int l) (.int r)=true→sg l r=0:=λq=>by have:=sI q;subst this;simp[sg]
 have L:∀{l r:Int},PyData.eqv (.int l) (.int r)=false→decide (l<r)=true→sg l r= -1:=λq p=>by have:=zL q;have:=of_decide_eq_true p;unfold sg;rw[if_neg ‹_›,if_pos ‹_›]
 have s:∀{l r:Int},PyData.eqv (.int l) (.int r)=false→decide (l<r)=false→sg l r=1:=λq p=>by have:=zL q;have:=of_decide_eq_false p;unfold sg;rw[if_neg ‹_›,if_neg ‹_›]
 have N:∀{B D},b=B→d=D→¬(b=0∧d=0)→ag a b c d=(if b=0 then sg a 0 else if d=0 then sg 0 c else sg (a*d) (c*b)):=by
  intro B D _ _ n;unfold ag;rw[if_neg n];split
  ·rename_i e;subst e
   have hd:0<d:=by have:=y.nn;exact zl 0x4858233e6b096cbbc rfl n this
   rw[Int.mul_zero];have:∀a:Int,(a*d=0↔a=0)∧(a*d<0↔a<0):=λa=>⟨⟨λz=>by rcases Int.mul_eq_zero.mp z with z|z<;>(first|exact zl 215421652 rfl z|exact zl 22905934854952 rfl hd z),λz=>by rw[z,Int.zero_mul]⟩,⟨λz=>by
    refine Int.not_le.mp λw=> ?_;have:=Int.mul_nonneg w (Int.le_of_lt hd);exact zl 30760824265 rfl z this,λz=>Int.mul_neg_of_neg_of_pos z hd⟩⟩
   unfold sg;simp only[(this a).1,(this a).2]
  ·split
   ·rename_i E e;subst e
    have hb:0<b:=by have:=x.nn;exact zl 673160552643618 rfl E this
    rw[Int.mul_zero];have:∀a:Int,(0=a*b↔0=a)∧(0<a*b↔0<a):=λa=>⟨⟨λz=>by rcases Int.mul_eq_zero.mp z.symm with z|z<;>(first|exact zl 179644372 rfl z|exact zl 22452085406504 rfl hb z),λz=>by rw[←z,Int.zero_mul]⟩,⟨λz=>by
     refine Int.not_le.mp λw=> ?_;have:=Int.mul_nonpos_of_nonpos_of_nonneg w (Int.le_of_lt hb);exact zl 31154361640 rfl z this,λz=>Int.mul_pos z hb⟩⟩
    unfold sg;simp only[(this c).1,(this c).2]
   ·rfl
 have T:¬(b=0∧d=0)→ex G (.cons (.C 2 (.w .mul (.sub (.d 0) (.p 0)) (.sub (.d 1) (.p 1)))) (.cons (.C 3 (.w .mul (.sub (.d 1) (.p 0)) (.sub (.d 0) (.p 1)))) (.cons (.iff (.D (.ag .eq (.sub (.d 0) (.p 1)) (.p 0))) (.cons (.C 2 (.sub (.d 0) (.p 0))) (.cons (.C 3 (.p 0)) .nil)) (.cons (.iff (.D (.ag .eq (.sub (.d 1) (.p 1)) (.p 0))) (.cons (.C 2 (.p 0)) (.cons (.C 3 (.sub (.d 1) (.p 0))) .nil)) .nil) .nil)) .nil)))
  [.j (nv a b),.j (nv c d),.y,.y] (λρ=>ex G (.cons (.iff (.D (.ag .eq (.d 2) (.d 3))) (.cons (.ret (.p 0)) .nil) .nil) (.cons (.ret (.ite (.D (.ag .lt (.d 2) (.d 3))) (.neg (.p 1)) (.p 1))) .nil)) ρ (λρ=>K (Rv.j V.none) (ba [.j (nv a b),.j (nv c d)] ρ)) (λ_=>False) (λr ρ=>K r (ba [.j (nv a b),.j (nv c d)] ρ)) X) (λ_=>False) (λr ρ=>K r (ba [.j (nv a b),.j (nv c d)] ρ)) X:=by
  intro n;rw[N rfl rfl n]at h;refine⟨Nat.lt_of_lt_of_le x.h1 l,Nat.lt_of_lt_of_le y.h2 l,Nat.lt_of_lt_of_le y.h1 l,Nat.lt_of_lt_of_le x.h2 l,?_⟩;refine ai (λ_ h=>h) (λQ=> ?_) λQ=> ?_
  ·rw[if_pos (sI Q)]at h
   refine bM (λ_ h=>h) (bM (λ_ h=>h) (ae (ae (ai (λ_ h=>h) (λq=> ?_) λq=> ?_))))
   ·rw[S q]at h;exact h
   ·refine bx (λ_ h=>h) (λp=> ?_) λp=> ?_
    ·rw[L q p]at h;exact h
    ·rw[s q p]at h;exact h
  ·rw[if_neg (zL Q)]at h
   refine ai (λ_ h=>h) (λR=> ?_) λR=> ?_
   ·rw[if_pos (sI R)]at h
    refine bM (λ_ h=>h) (bM (λ_ h=>h) (ae (ae (ae (ai (λ_ h=>h) (λq=> ?_) λq=> ?_)))))
    ·rw[S q]at h;exact h
    ·refine bx (λ_ h=>h) (λp=> ?_) λp=> ?_
     ·rw[L q p]at h;exact h
     ·rw[s q p]at h;exact h
   ·rw[if_neg (zL R)]at h
    refine ae (ae (ae (ai (λ_ h=>h) (λq=> ?_) λq=> ?_)))
    ·rw[S q]at h;exact h
    ·refine bx (λ_ h=>h) (λp=> ?_) λp=> ?_
     ·rw[L q p]at h;exact h
     ·rw[s q p]at h;exact h
 refine ik (aU (λ_ h=>h) (λQ=> ?_) λQ=> ?_)
 ·have g:=sI Q
  refine bO (λ_ h=>h) (λR=> ?_) λR=> ?_
  ·have j:=sI R
   have C:ag a b c d=sg a c:=by unfold ag;rw[if_pos ⟨g,j⟩]
   rw[C]at h;refine bM (λ_ h=>h) (bM (λ_ h=>h) (ae (ai (λ_ h=>h) (λq=> ?_) λq=> ?_)))
   ·rw[S q]at h;exact h
   ·refine bx (λ_ h=>h) (λp=> ?_) λp=> ?_
    ·rw[L q p]at h;exact h
    ·rw[s q p]at h;exact h
  ·exact T λz=>zL R z.2
 ·exact T λz=>zL Q z.1
theorem nR(a b c d):PyData.eqv (.tuple [.int a,.int b]) (.tuple [.int c,.int d])=decide (a=c∧b=d):=by
 show(decide (a=c)&&(decide (b=d)&&true))=_
 by_cases h1:a=c<;>by_cases h2:b=d<;>simp[h2]
theorem OK(h:PyData.eqv (.tuple [.int a,.int b]) (.tuple [.int c,.int d])=true):a=c∧b=d:=by rw[nR]at h;exact of_decide_eq_true h
theorem M4(h:PyData.eqv (.tuple [.int a,.int b]) (.tuple [.int c,.int d])=false):¬(a=c∧b=d):=by rw[nR]at h;exact of_decide_eq_false h
theorem mN(h:K (.j (.bool (decide (a=0∧b=0)))) []):FF 86 [.j (nv a b)] K X:=by
 refine fE 86 rfl rfl λG H=> ?_;rw[←nR]at h;exact⟨af rfl,h⟩
theorem pw(h:K (.j (.bool true)) []):FF 86 [.j .none] K X:=by
 refine fE 86 rfl rfl λG H=> ?_;exact h
theorem sO(h:K (.j (.bool (decide (a=0∧b=0)))) []):FF 65 [.j (nv a b)] K X:=by
 refine fE 65 rfl rfl λG H=> ?_;exact H.c 4 rfl _ _ _ (Ca h)
theorem wy(h:K (.j (.bool true)) []):FF 65 [.j .none] K X:=by
 refine fE 65 rfl rfl λG H=> ?_;exact h
theorem iv(x:Num a b)(y:Num c d)(h:K (.j (.int (ag a b c d))) []):FF 85 [.j (nv a b),.j (nv c d)] K X:=by
 refine fE 85 rfl rfl λG O=> ?_;have l:JD≤lJ:=by decide
 refine ai (λ_ h=>h) (λq=> ?_) λq=> ?_
 ·rw[(iG x y).mpr (OK q)]at h;exact h
 have N:=mt (iG x y).mp (M4 q);have g:b=0∨d=0→∀l r,l=(if 0<b then 0 else a)→r=(if 0<d then 0 else c)→(l<r→ag a b c d= -1)∧(¬l<r→ag a b c d=1):=by
  intro z l r E R;have Y:(l<r→ag a b c d<0)∧(¬l<r→0≤ag a b c d):=by
   unfold ag;rcases x.ext with⟨hb,_⟩|⟨hb,H⟩<;>rcases y.ext with⟨hd,_⟩|⟨hd,C⟩
   ·exact zl 0x6a5b8e78c48d71b3ed39064bf7509f63138 rfl z hb hd
   ·subst hd
    rw[if_pos hb]at E;rw[if_neg (by exact zm 1298952 rfl)]at R;rw[if_neg (by exact zl 0xdb85f58fb4c28 rfl hb),Int.mul_zero];have:=Int.mul_pos hb hb;rcases C with rfl|rfl
    ·rcases a8 0 (1*b)with h|h|h<;>(first|exact zl 0x9dece9f9218894bb97fc7829c228 rfl hb h.1|exact zl 0x3144c8a7f74b9be012e07c569ded4 rfl E R h.2|exact zl 0x9dece9f9218894bb9858d68e2528 rfl hb h.1)
    ·rcases a8 0 (-1*b)with h|h|h<;>(first|exact zl 0x13bd9d3f2431129772ff925289c228 rfl hb h.1|exact zl 0x13bd9d3f2431129772ff9252848f28 rfl hb h.1|exact zl 0x3144c8a7f74b9be01344b15d69ed4 rfl E R h.2)
   ·subst hb
    rw[if_pos hd]at R;rw[if_neg (by exact zm 1298952 rfl)]at E;rw[if_neg (by exact zl 0xdb6dc36c0d928 rfl hd),Int.mul_zero];rcases H with rfl|rfl
    ·rcases a8 (1*d) 0 with h|h|h<;>(first|exact zl 0x9dece9f9218894bb9858d6935828 rfl hd h.1|exact zl 0x9dece9f9218894bb9858d68e2528 rfl hd h.1|exact zl 0x18a263e616d6cb9b9b29fea9ded4 rfl R E h.2)
    ·rcases a8 (-1*d) 0 with h|h|h<;>(first|exact zl 0x13bd9d3f24311297730b1aee865828 rfl hd h.1|exact zl 0x62898f985b5b2e6e6bdf90add69ed4 rfl R E h.2|exact zl 0x13bd9d3f2431129772ff9252848f28 rfl hd h.1)
   ·subst hb;subst hd
    rw[if_neg (by exact zm 1298952 rfl)]at E R;rw[if_pos ⟨rfl,rfl⟩];rcases a8 a c with h|h|h<;>(first|exact zl 0xd4b71cf30b7b5a0af2d6bc76dcce3d03ac rfl E R h.2 h.1|exact zl 0x1a96e39e616f6b415e5ad6fae6ce5b7d03ac rfl E R h.2 h.1|exact zl 0xd4b71cf30b7b5a0af2c5f2d8487c7d03ac rfl E R h.2 h.1)
  have T:ag a b c d= -1∨ag a b c d=0∨ag a b c d=1:=by
   unfold ag;split
   ·rcases a8 a c with h|h|h<;>(first|exact zl 0x5e1dbf11fb252ed4 rfl h.2|exact zl 0xbc3b7e23f64a6eb24 rfl h.2|exact zl 0x5e1dbf11fb253664 rfl h.2)
   ·rcases a8 (a*d) (c*b)with h|h|h<;>(first|exact zl 0x5e1dbf11fb252ed4 rfl h.2|exact zl 0xbc3b7e23f64a6eb24 rfl h.2|exact zl 0x5e1dbf11fb253664 rfl h.2)
  exact⟨λz=>by have:=Y.1 z;exact zl 0xd054e07d186ac4dc611f613b8fb1 rfl Y.1 T z,λz=>by have:=Y.2 z;exact zl 0x5327d6a333b840bd9a2988312322da9a1222 rfl N Y.2 T z⟩
 have f:b=0∨d=0→ex G (.cons (.C 2 (.ite (.D (.ag .gt (.sub (.d 0) (.p 1)) (.p 0))) (.p 0) (.sub (.d 0) (.p 0)))) (.cons (.C 3 (.ite (.D (.ag .gt (.sub (.d 1) (.p 1)) (.p 0))) (.p 0) (.sub (.d 1) (.p 0)))) (.cons (.ret (.ite (.D (.ag .lt (.d 2) (.d 3))) (.neg (.p 1)) (.p 1))) .nil)))
  [.j (nv a b),.j (nv c d),.y,.y] (λρ=>ex G (.cons (.ret (.ite (.D (.ag .lt (.w .mul (.sub (.d 0) (.p 0)) (.sub (.d 1) (.p 1))) (.w .mul (.sub (.d 1) (.p 0)) (.sub (.d 0) (.p 1))))) (.neg (.p 1)) (.p 1))) .nil) ρ (λρ=>K (Rv.j V.none) (ba [.j (nv a b),.j (nv c d)] ρ)) (λ_=>False) (λr ρ=>K r (ba [.j (nv a b),.j (nv c d)] ρ)) X) (λ_=>False) (λr ρ=>K r (ba [.j (nv a b),.j (nv c d)] ρ)) X:=by
  intro z;have F:∀l r,l=(if 0<b then 0 else a)→r=(if 0<d then 0 else c)→ev G (.ite (.D (.ag .lt (.d 2) (.d 3))) (.neg (.p 1)) (.p 1)) [.j (nv a b),.j (nv c d),vi l,vi r] (λr ρ=>K r (ba [.j (nv a b),.j (nv c d)] ρ)) X:=by
   intro l r E R;have t:=g z l r E R;refine bx (λ_ h=>h) (λp=> ?_) λp=> ?_
   ·rw[t.1 (of_decide_eq_true p)]at h;exact h
   ·rw[t.2 (of_decide_eq_false p)]at h;exact h
  refine bx (λ_ h=>h) (λp1=> ?_) λp1=> ?_
  ·refine bx (λ_ h=>h) (λp2=> ?_) λp2=> ?_
   ·exact F 0 0 (by rw[if_pos (of_decide_eq_true p1)]) (by rw[if_pos (of_decide_eq_true p2)])
   ·exact F 0 c (by rw[if_pos (of_decide_eq_true p1)]) (by rw[if_neg (of_decide_eq_false p2)])
  ·refine bx (λ_ h=>h) (λp2=> ?_) λp2=> ?_
   ·exact F a 0 (by rw[if_neg (of_decide_eq_false p1)]) (by rw[if_pos (of_decide_eq_true p2)])
   ·exact F a c (by rw[if_neg (of_decide_eq_false p1)]) (by rw[if_neg (of_decide_eq_false p2)])
 refine ik (d8 (λ_ h=>h) (λQ=>f (.inl (sI Q))) λQ=>gz (λ_ h=>h) (λB=>f (.inr (sI B))) λB=> ?_);have U:ag a b c d=sg (a*d) (c*b):=by unfold ag;rw[if_neg (by exact zl 0x4ea399e0ca50c22 rfl (zL Q))]
 rw[U]at h N;refine bx (λ_ h=>⟨Nat.lt_of_lt_of_le x.h1 l,Nat.lt_of_lt_of_le y.h2 l,Nat.lt_of_lt_of_le y.h1 l,Nat.lt_of_lt_of_le x.h2 l,h⟩) (λp=> ?_) λp=> ?_
 ·have p:=of_decide_eq_true p
  rcases a8 (a*d) (c*b)with z|z|z
  ·exact(zl 3769763562274 rfl N z.2).elim
  ·rw[z.2]at h;exact h
  ·rename_i Z;exact(zl 5879022177 rfl (dT Z:) z.1).elim
 ·have p:=of_decide_eq_false p
  rcases a8 (a*d) (c*b)with z|z|z
  ·exact absurd z.2 N
  ·rename_i Z;exact(zl 712949639089 rfl (dF Z:) z.1).elim
  ·rw[z.2]at h;exact h
theorem yn:∀{items:List V}(Inv:Nat→R→Prop)(step:∀j v ρ,items[j]? =some v→Inv j ρ→∀t:R→Prop,(∀ρ',Inv (j+1) ρ'→t ρ')→f v t ρ)(a9:∀ρ,Inv items.length ρ→x ρ){ρ},Inv 0 ρ→items.foldr f x ρ
|[],Inv,step,a9,ρ,h=>a9 ρ h
|v::l,Inv,step,a9,ρ,h=>step 0 v ρ rfl h _ λρ' h'=>yn (λj=>Inv (j+1)) (λj v ρ e=>step (j+1) v ρ (by rw[List.getElem?_cons_succ];exact e)) a9 h'
noncomputable def bo(ρ:R)(j:Nat):Prop:=∃s,ρ[j]? =some s∧(∀l,s≠.bl l)∧∀c l,s≠.bi c l
theorem aT(h:bo ρ j)(H:k (ρ.set j s)):bG ρ j s k:=by
 obtain⟨S,e,h1,h2⟩:=h;unfold bG;rw[e];cases S<;>first|exact H|exact absurd rfl (h1 _)|exact absurd rfl (h2 _ _)
theorem Ac(h:bo ρ j):bo (ρ.set j (.j v)) j:=by
 obtain⟨S,e,_⟩:=h;exact⟨.j v,by simp[((List.getElem?_eq_some_iff.mp e).1)],λ_ q=>(by cases q),λ_ _ q=>by cases q⟩
theorem aa(h:ρ[j]? =some .y):bo ρ j:=⟨_,h,λ_ q=>(by cases q),λ_ _ q=>by cases q⟩
theorem C5{Y J:Type}{step:Y→(J→Prop)→J→Prop}{a9:J→Prop}(I:List Y→J→Prop)(H:∀s,I [] s→a9 s){xs:List Y}:(∀a∈xs,∀l s,I (a::l) s→∀m,(∀t,I l t→m t)→step a m s)→∀s,I xs s→xs.foldr step a9 s:=by
 induction xs with
 |nil=>exactλ_ s h=>H s h
 |cons a l i=>exactλS s h=>S a (.head _) l s h _ λt h'=>i (λb hb=>S b (.tail _ hb)) t h'
theorem lT{Y J:Type}{step:Y→(J→R→Prop)→J→R→Prop}{a9:J→R→Prop}(I:List Y→J→R→Prop)(H:∀s ρ,I [] s ρ→a9 s ρ){xs:List Y}:(∀a∈xs,∀l s ρ,I (a::l) s ρ→∀m,(∀t ρ',I l t ρ'→m t ρ')→step a m s ρ)→∀s ρ,I xs s ρ→xs.foldr step a9 s ρ:=by
 induction xs with
 |nil=>exactλ_ s ρ h=>H s ρ h
 |cons a l i=>exactλS s ρ h=>S a (.head _) l s ρ h _ λt ρ' h'=>i (λb hb=>S b (.tail _ hb)) t ρ' h'
noncomputable abbrev AY(ρ:R)(j:Nat)(ρ1:R):Prop:=ρ1=ρ∨∃v,ρ1=ρ.set j (.j v)
theorem kQ(H:bo ρ j)(h1:AY ρ j ρ1)(h:k (ρ.set j x)):bG ρ1 j x k:=by
 rcases h1 with rfl|⟨v,rfl⟩
 ·exact aT H h
 ·exact aT (Ac H) (by rw[List.set_set];exact h)
theorem xp{cond J:E}{k:Rv→R→Prop}(p)(f)(H:bo ρ j){items:List V}(O:∀v∈items,∀k,k (p v) (ρ.set j (.j v))→GV G cond (ρ.set j (.j v)) k (λ_=>False))(d:∀v∈items,p v=true→∀k:Rv→R→Prop,(∀r,r.v=f v→k r (ρ.set j (.j v)))→ev G J (ρ.set j (.j v)) k (λ_=>False))(C)(ρ1)(h1:AY ρ j ρ1)(h:k (.U (C++(items.filter p).map f)) (ρ.set j .y)):
 (items.foldr (λv t C ρ=>bG ρ j (.j v) λρ=>GV G cond ρ (λc ρ=>match c with
  |true=>ev G J ρ (λr ρ=>t (C++[r.v]) ρ) (λ_=>False)
  |false=>t C ρ) (λ_=>False)) (λC ρ=>bG ρ j .y λρ=>k (.U C) ρ)) C ρ1:=by
 refine lT (λl C ρ1=>AY ρ j ρ1∧k (.U (C++(l.filter p).map f)) (ρ.set j .y)) (λC ρ1 h=>kQ H h.1 (append_nil C▸h.2)) (λv u l C ρ1 h t y=>kQ H h.1 (O v u _ ?_)) C ρ1 ⟨h1,h⟩;have h2:=h.2;rw[filter_cons]at h2;cases q:p v with
 |false=>rw[q]at h2;exact y C _ ⟨.inr ⟨v,rfl⟩,h2⟩
 |true=>rw[q]at h2;exact d v u q _ λr e=>y _ _ ⟨.inr ⟨v,rfl⟩,by rw[e,List.append_assoc];exact h2⟩
theorem j6{I cond t:E}(H:∀k,k items ρ→qS G I ρ k X)(L:items.length≤aA)(J:bo ρ j)(p)(f)
 (c:∀v∈items,∀k,k (p v) (ρ.set j (.j v))→GV G cond (ρ.set j (.j v)) k (λ_=>False))(O:∀v∈items,p v=true→∀k:Rv→R→Prop,(∀r,r.v=f v→k r (ρ.set j (.j v)))→ev G t (ρ.set j (.j v)) k (λ_=>False))
 (h:k (.U ((items.filter p).map f)) (ρ.set j .y)):ev G (.comp j I cond t) ρ k X:=H _ ⟨L,xp p f J c O [] ρ (.inl rfl) (by simpa using h)⟩
theorem fC(H:∀k,k items ρ→qS G I ρ k X)(L:items.length≤aA)(J:bo ρ j)(f)
 (O:∀v∈items,∀k:Rv→R→Prop,(∀r,r.v=f v→k r (ρ.set j (.j v)))→ev G t (ρ.set j (.j v)) k (λ_=>False))(h:k (.U (items.map f)) (ρ.set j .y)):ev G (.comp j I .no t) ρ k X:=
 j6 H L J (λ_=>true) f (λv _ k K=>K) (λv V _=>O v V) ((List.filter_eq_self.mpr (λ_ _=>rfl))▸h)
noncomputable abbrev PR:=Int×Int
noncomputable abbrev ah(p:PR):V:=nv p.1 p.2
noncomputable abbrev aM(p:PR):Prop:=Num p.1 p.2
noncomputable abbrev aK(p q:PR):Int:=ag p.1 p.2 q.1 q.2
noncomputable def cA:List PR→PR→List PR
|[],x=>[x]
|y::l,x=>if aK y x≤0 then y::cA l x else x::y::l
noncomputable def aI(xs:List PR):List PR:=xs.foldl cA []
theorem D6{l}{j}(h1:∀i y,i<j→l[i]? =some y→aK y x≤0)(H:j≤l.length)(h2:∀y,l[j]? =some y→¬aK y x≤0):cA l x=l.take j++x::l.drop j:=by
 induction l generalizing j with
 |nil=>cases eq_zero_of_le_zero H;rfl
 |cons y l I=>
  cases j with
  |zero=>exact if_neg (h2 y rfl)
  |succ j=>exact(if_pos (h1 0 y (zm 4416009 rfl _) rfl)).trans (congrArg (y:: ·) (I (λi z M e=>h1 (i+1) z (zl 25949080030594 rfl M) (by rw[List.getElem?_cons_succ];exact e)) (le_of_succ_le_succ H) (λz e=>h2 z (by rw[List.getElem?_cons_succ];exact e))))
theorem aC{j:Nat}(h:l[j]? =some v):cu l j=some v:=by
 have e:bX l.length j=j:=by unfold bX;rw[decide_eq_true (by exact zm 92741 rfl _)]
 unfold cu;rw[e,decide_eq_true (by exact zm 92741 rfl _)];exact h
theorem cm(H:0≤i)(h:l[i.toNat]? =some v):cu l i=some v:=by
 obtain⟨j,rfl⟩:=Int.eq_ofNat_of_zero_le H;exact aC (by simpa using h)
theorem az(h:cu l j=some v)(H:k v):tL (.o l) (.int j) k:=by
 show(match cu l j with|some v=>k v|.none=>False);rw[h];exact H
theorem M6{j:Int}(e:ρ[i]? =some (.U l))(H:0≤j)(h1:j≤l.length)(h2:l.length<aA)(d:k (ρ.set i (.U (l.take j.toNat++v::l.drop j.toNat)))):
 gK ρ i (λl=>match decide (0≤j),decide (j≤l.length),decide (l.length<aA)with|true,true,true=>some (l.take j.toNat++v::l.drop j.toNat)|_,_,_=>.none) k:=by
 unfold gK;rw[e];show(match(match decide (0≤j),decide (j≤l.length),decide (l.length<aA)with|true,true,true=>some (l.take j.toNat++v::l.drop j.toNat)|_,_,_=>.none)with|some l=>k (ρ.set i (gy (.U _) l))|.none=>False);rw[decide_eq_true H,decide_eq_true h1,decide_eq_true h2];exact d
theorem aw(h:∀k,k v ρ1→ev G e ρ k X)(H:bo ρ1 i)(h1:ex G r (ρ1.set i v.s) x C t X):ex G (.cons (.C i e) r) ρ x C t X:=h _ (aT H h1)
theorem cU(H:∀k,k items ρ→qS G I ρ k X)(Inv:Nat→R→Prop)(g:Inv 0 ρ)(step:∀j v ρ,items[j]? =some v→Inv j ρ→bo ρ i∧∀t:R→Prop,(∀ρ',Inv (j+1) ρ'→t ρ')→ex G b (ρ.set i (.j v)) t t Y X)
 (a9:∀ρ,Inv items.length ρ→ex G r ρ x C Y X):ex G (.cons (.bU i I b) r) ρ x C Y X:=H _ (yn Inv (λj v ρ e h t y=>aT (step j v ρ e h).1 ((step j v ρ e h).2 t y)) a9 g)
theorem jG(Inv:R→Prop)(g:R→Nat)(H:Inv ρ)(D:∀ρ,Inv ρ→∀I:R→Prop,(∀ρ',Inv ρ'→g ρ'<g ρ→I ρ')→tr G c ρ (λt ρ=>match t with|true=>ex G b ρ I I Y X|false=>ex G r ρ x C Y X) X):ex G (.cons (.tU c b) r) ρ x C Y X:=vf Inv g D H
noncomputable def fu(s:Mine.Internal.S):Prop:=s=.y∨∃v,s=.j v
theorem aq(e:ρ[j]? =some s)(h:fu s):bo ρ j:=by
 rcases h with rfl|⟨v,rfl⟩
 ·exact aa e
 ·exact⟨_,e,λ_ q=>(by cases q),λ_ _ q=>by cases q⟩
theorem Bb(l):(cA l x).length=l.length+1:=by
 induction l with
 |nil=>rfl
 |cons y l I=>
  show(if aK y x≤0 then y::cA l x else x::y::l).length=_
  by_cases q:aK y x≤0
  ·rw[if_pos q];exact congrArg succ I
  ·rw[if_neg q];rfl
theorem Br(xs l:List PR):(xs.foldl cA l).length=l.length+xs.length:=by
 induction xs generalizing l with
 |nil=>rfl
 |cons x xs I=>rw[foldl_cons,I,Bb,length_cons];exact zm 0xc7b961cf6170 rfl ..
theorem oS{l}(h:y∈cA l x):y=x∨y∈l:=by
 induction l with
 |nil=>exact .inl (mem_singleton.mp h)
 |cons z l I=>
  have h:y∈(if aK z x≤0 then z::cA l x else x::z::l):=h
  by_cases q:aK z x≤0
  ·rw[if_pos q]at h
   rcases mem_cons.mp h with rfl|h
   ·exact .inr (.head _)
   ·exact(I h).imp id (.tail _)
  ·rw[if_neg q]at h
   exact mem_cons.mp h
theorem BX{xs l:List PR}(h:y∈xs.foldl cA l):y∈xs∨y∈l:=by
 induction xs generalizing l with
 |nil=>exact .inr h
 |cons x xs I=>
  rcases I h with h|h
  ·exact .inl (.tail _ h)
  ·rcases oS h with rfl|h
   ·exact .inl (.head _)
   ·exact .inr h
theorem gD(H:∀p∈xs,aM p)(L:xs.length≤1000)(h:K (.j (.o ((aI xs).map ah))) []):FF 87 [.j (.o (xs.map ah))] K X:=by
 refine cX 87 rfl rfl rfl λG g=> ?_;refine aw (λ_ h=>⟨af rfl,h⟩) (aa rfl) ?_;refine cU (λ_ h=>h) (λj ρ=>∃S s,fu S∧fu s∧ρ=[.j (.o (xs.map ah)),.U ((aI (xs.take j)).map ah),S,s]) ⟨.y,.y,.inl rfl,.inl rfl,rfl⟩ ?_ ?_
 ·rintro j v ρ e ⟨S,s,h2,h3,rfl⟩
  refine⟨aq rfl h2,λR F=> ?_⟩;rw[getElem?_map]at e;obtain⟨x,Y,rfl⟩:=Option.map_eq_some_iff.mp e;have T:aI (xs.take (j+1))=cA (aI (xs.take j)) x:=by
   unfold aI;rw[take_add_one,Y,Option.toList_some,foldl_append];rfl
  have m:∀y∈aI (xs.take j),aM y:=λy B=>by
   rcases BX B with h|h
   ·exact H y (mem_of_mem_take h)
   ·cases h
  have n:(aI (xs.take j)).length≤1000:=by unfold aI;rw[Br,length_take,length_nil];exact zl 0x6783efcac8ad115cf rfl L
  generalize aI (xs.take j)=l at T m n;refine aw (λ_ h=>h) (aq rfl h3) ?_;refine jG (λρ=>∃i,i≤l.length∧(∀a y,a<i→l[a]? =some y→aK y x≤0)∧ρ=[.j (.o (xs.map ah)),.U (l.map ah),.j (ah x),vi i]) (λρ=>match ρ with|[_,_,_,.j (.int i)]=>l.length-i.toNat|_=>0) ⟨0,zm 2984 rfl _,λa y h=>(zl 665066 rfl h).elim,rfl⟩ ?_;rintro ρ ⟨i,I,c,rfl⟩ Q Z;have done:(∀y,l[i]? =some y→¬aK y x≤0)→ex G (.cons (.ins 1 (.d 3) (.d 2)) .nil) [.j (.o (xs.map ah)),.U (l.map ah),.j (ah x),vi i] R R (λr ρ=>K r (ba [.j (.o (xs.map ah))] ρ)) X:=by
   intro N;refine M6 (ρ:=[.j (.o (xs.map ah)),.U (l.map ah),.j (ah x),vi i]) (i:=1) rfl (zm 92741 rfl _) (by rw[List.length_map];exact zl 23879377143 rfl I) (by rw[List.length_map];exact Nat.lt_of_le_of_lt n (by decide)) ?_;refine F _ ⟨.j (ah x),vi i,.inr ⟨_,rfl⟩,.inr ⟨_,rfl⟩,?_⟩;rw[T,D6 (x:=x) c I N,map_append,map_cons,map_take,map_drop];rfl
  refine aU (λ_ h=>h) (λq=> ?_) λq=> ?_
  ·have t:i<l.length:=by have:=of_decide_eq_true q;rw[length_map]at this;exact zl 23760048736 rfl this
   have E:l[i]? =some l[i]:=by simp[t]
   refine bO (b:=decide (aK l[i] x≤0)) (λk d=>az (aC (by rw[getElem?_map,E];rfl)) (g.c 85 rfl _ _ _ (iv (m l[i] (getElem_mem t)) (H x (List.mem_of_getElem? Y)) d))) (λp=> ?_) λp=> ?_
   ·refine Z _ ⟨i+1,t,λa y A e=> ?_,rfl⟩ ?_
    ·by_cases q:a=i
     ·subst q;rw[E]at e;cases e;exact of_decide_eq_true p
     ·exact c a y (zl 0x4f1d2d4a6e3dfa rfl A q) e
    ·show l.length-((i:Int)+1).toNat<l.length-(i:Int).toNat
     exact zl 0x53c64c83a79808d702 rfl t
   ·exact done λy e=>by rw[E]at e;cases e;exact of_decide_eq_false p
  ·have u:l.length≤i:=by have:=of_decide_eq_false q;rw[length_map]at this;exact zl 2726871714342 rfl this
   exact done λy e=>by rw[getElem?_eq_none u]at e;cases e
 ·rintro ρ ⟨S,s,h2,h3,rfl⟩
  rw[length_map,take_length];exact h
theorem yA(x y):sg y x= -sg x y:=by
 exact zl 0x3863de6be04c435b6e404ca6eb6fd834edaebac8ebf11f120fea3 rfl (a8 x y) (a8 y x)
theorem bQ(p q):aK q p= -aK p q:=by
 show ag q.1 q.2 p.1 p.2= -ag p.1 p.2 q.1 q.2;unfold ag
 by_cases h:p.2=0∧q.2=0
 ·rw[if_pos h,if_pos ⟨h.2,h.1⟩,yA]
 ·rw[if_neg h,if_neg λz=>h ⟨z.2,z.1⟩,yA]
theorem cF(p):aK p p=0:=by have:=bQ p p;exact zl 1723265572 rfl this
theorem u4:sg x y≤0↔x≤y:=by have h:=a8 x y;exact zl 0x30b2672a67695f5da6bf11f120fea3 rfl h
theorem MB:sg x y<0↔x<y:=by have h:=a8 x y;exact zl 0x30b313eacd59f3de443f11f120fea3 rfl h
theorem vZ(x:Num a b)(y:Num c d):ag a b c d≤0↔(b=0∧a= -1)∨(d=0∧c=1)∨(0<b∧0<d∧a*d≤c*b):=by
 unfold ag;rcases x.ext with⟨hb,_⟩|⟨hb,H⟩<;>rcases y.ext with⟨hd,_⟩|⟨hd,C⟩
 ·rw[if_neg λz=>Int.ne_of_gt hb z.1,u4]
  generalize a*d=X;generalize c*b=Y;exact zl 0x12de7140f313bd052e026950a0339a2748ee97b2f28 rfl hb hd
 ·subst hd
  rw[if_neg λz=>Int.ne_of_gt hb z.1,u4];rcases C with rfl|rfl
  ·exact zl 0x1c4b0ec76e150f923778e7fb94fac9dee6d3542bed7d28 rfl hb
  ·exact zl 0xe25bb3659ddddeff2ede50d6962fa373bdcda6dd28bed7d28 rfl hb
 ·subst hb
  rw[if_neg λz=>Int.ne_of_gt hd z.2,u4];rcases H with rfl|rfl
  ·exact zl 0x1dbb45f88530aba8790bf91523c01fb25853b9a14a5d28 rfl hd
  ·exact zl 0xedda2fe14792f49b0e19064548f00b1e916fa7734467d5d28 rfl hd
 ·subst hb;subst hd
  rw[if_pos ⟨rfl,rfl⟩,u4];exact zl 0x323b42f8e33ecf4973d83fa06e7f488a7eb847e5773e8844a23f268 rfl H C
theorem cT(H:aM p)(Q:aM q)(m:aM r)(h1:aK p q≤0)(h2:aK q r≤0):aK p r≤0:=by
 replace h1:=(vZ H Q).mp h1;replace h2:=(vZ Q m).mp h2;apply (vZ H m).mpr;rcases h1 with h|h|⟨B,D,x⟩
 ·exact .inl h
 ·rcases h2 with h'|h'|⟨D,_⟩
  ·exact absurd (h.2.symm.trans h'.2) (by decide)
  ·exact .inr (.inl h')
  ·exact absurd h.1 (Int.ne_of_gt D)
 ·rcases h2 with h'|h'|⟨_,F,y⟩
  ·exact absurd h'.1 (Int.ne_of_gt D)
  ·exact .inr (.inl h')
  ·refine .inr (.inr ⟨B,F,Int.le_of_mul_le_mul_right ?_ D⟩)
   rw[Int.mul_right_comm p.1 r.2 q.2,Int.mul_right_comm r.1 p.2 q.2];apply Int.le_trans (Int.mul_le_mul_of_nonneg_right x (Int.le_of_lt F));rw[Int.mul_right_comm q.1 p.2 r.2];exact Int.mul_le_mul_of_nonneg_right y (Int.le_of_lt B)
theorem oZ(H:aM p)(Q:aM q)(h1:aK p q≤0)(h2:aK q p≤0):p=q:=by
 rw[bQ]at h2;have:=(iG H Q).mp (by change ag p.1 p.2 q.1 q.2≤0 at h1;change-ag p.1 p.2 q.1 q.2≤0 at h2;exact zl 0xc234fd24c7be rfl h1 h2:ag p.1 p.2 q.1 q.2=0);exact Prod.ext this.1 this.2
noncomputable abbrev dI(l:List PR):Prop:=l.Pairwise λp q=>aK p q≤0
theorem zM(l):(cA l x).Perm (x::l):=by
 induction l with
 |nil=>exact .refl _
 |cons y l I=>
  show(if aK y x≤0 then y::cA l x else x::y::l).Perm _
  by_cases q:aK y x≤0
  ·rw[if_pos q];exact(I.cons y).trans (.swap ..)
  ·rw[if_neg q]
theorem y0(xs l:List PR):(xs.foldl cA l).Perm (l++xs):=by
 induction xs generalizing l with
 |nil=>simp
 |cons x xs I=>
  rw[foldl_cons];refine(I _).trans (((zM l).append_right xs).trans ?_);exact perm_middle.symm
theorem aZ(xs):(aI xs).Perm xs:=y0 xs []
theorem uj(Q:aM x){l}(H:∀p∈l,aM p)(D:dI l):dI (cA l x):=by
 induction l with
 |nil=>exact .cons (λ_ h=>by cases h) .nil
 |cons y l I=>
  obtain⟨h1,h2⟩:=pairwise_cons.mp D;show dI (if aK y x≤0 then y::cA l x else x::y::l)
  by_cases q:aK y x≤0
  ·rw[if_pos q]
   refine .cons (λz Z=> ?_) (I (λp P=>H p (.tail _ P)) h2);rcases oS Z with rfl|Z
   ·exact q
   ·exact h1 z Z
  ·rw[if_neg q]
   have g:aK x y≤0:=by rw[bQ];exact zl 834191057200 rfl q
   refine .cons (λz Z=> ?_) D;rcases mem_cons.mp Z with rfl|Z
   ·exact g
   ·exact cT Q (H y (.head _)) (H z (.tail _ Z)) g (h1 z Z)
theorem ue{xs l:List PR}(H:∀p∈xs,aM p)(L:∀p∈l,aM p)(h:dI l):dI (xs.foldl cA l):=by
 induction xs generalizing l with
 |nil=>exact h
 |cons x xs I=>exact I (λp P=>H p (.tail _ P)) (λp P=>by
  rcases oS P with rfl|P
  ·exact H _ (.head _)
  ·exact L p P) (uj (H x (.head _)) L h)
theorem de(H:∀p∈xs,aM p):dI (aI xs):=ue H (λ_ h=>by cases h) .nil
theorem rm(H:∀p∈xs,aM p)(u:Y.Perm xs)(D:dI Y):Y=aI xs:=
 Perm.eq_of_pairwise (λa b A hb=>oZ (H _ (u.mem_iff.mp A)) (H _ ((aZ xs).mem_iff.mp hb))) D (de H) (u.trans (aZ xs).symm)
set_option genCtorIdx true in
inductive It where
 |na|lH|nu(p:PR)
noncomputable def wv:It→V
|.na=>.none
|.lH=>nv 0 0
|.nu p=>ah p
noncomputable def Sm(p:PR):Prop:=(0<p.2∧Int.gcd p.1 p.2=1∧p.2≤3∧p.1.natAbs≤24)∨(p.2=0∧(p.1=1∨p.1= -1))
theorem Sm.num(h:Sm p):aM p:=by
 rcases h with⟨h1,h2,h3,h4⟩|⟨h1,h2⟩
 ·exact⟨.inl ⟨h1,h2⟩,zl 0x2ecb4648ef1ab68 rfl h4,zl 0x2c3c287101420528 rfl h1 h3⟩
 ·exact⟨.inr ⟨h1,h2⟩,zl 0x587850e1f5343f268 rfl h2,zl 0x5d968c91e7d4 rfl h1⟩
noncomputable def ip(w:Bool):It→Prop
|.nu p=>Sm p∧(w=false→0<p.2)
|_=>w=true
noncomputable abbrev rd(n d:Int):PR:=(rP n d,mw n d)
theorem oW(hd:0<d):Int.gcd (rP n d) (mw n d)=1:=Int.gcd_ediv_gcd_ediv_gcd (by have:=kR (n:=n) hd;exact zl 2958856456 rfl this)
theorem cq(hd:0<d):0<mw n d:=Int.ediv_pos_of_pos_of_dvd hd (Int.le_of_lt (kR hd)) (Int.gcd_dvd_right ..)
theorem pY(hd:0<d):mw n d≤d:=Int.ediv_le_self _ (Int.le_of_lt hd)
theorem LF:rP n d*(Int.gcd n d)=n:=Int.ediv_mul_cancel (Int.gcd_dvd_left ..)
theorem LW:mw n d*(Int.gcd n d)=d:=Int.ediv_mul_cancel (Int.gcd_dvd_right ..)
theorem ou(hd:0<d):(rP n d).natAbs≤n.natAbs:=by
 have e:(rP n d).natAbs*Int.gcd n d=n.natAbs:=by
  have:=congrArg Int.natAbs (LF (n:=n) (d:=d));rw[Int.natAbs_mul,Int.natAbs_natCast]at this;exact this
 exact Nat.le_trans (Nat.le_mul_of_pos_right _ (zl 2958856456 rfl (kR (n:=n) hd))) (Nat.le_of_eq e)
theorem eV(J:ρ[i]? =some (.U L))(h:∀k,k v ρ1→ev G e ρ k X)(g:ρ1[i]? =some (.U l))(H:l.length<aA)(h1:ex G r (ρ1.set i (.U (l++[v.v]))) x C t X):ex G (.cons (.lZ i e) r) ρ x C t X:=by
 show(match(ρ[i]?).bind dk with|some _=>_|.none=>False);rw[J];apply h _;show(match ρ1[i]? with|some s=>_|.none=>False);rw[g];show(match(match decide (l.length<aA)with|true=>some (l++[v.v])|false=>.none)with|some l=>_|.none=>False);rw[decide_eq_true H];exact h1
noncomputable def iV(l:List Int):List V:=l.map V.int
theorem xI:∀l,bK fg (iV l)=some (l.map PyData.int)
|[]=>rfl
|i::l=>by
 show(match fg (.int i),bK fg (iV l)with|some d,some D=>some (d::D)|_,_=>.none)=_;rw[xI l];rfl
theorem bc(h:∀(i:Int)(l':List Int),K (.j (.int i)) [.bl (iV l')]):FF 81 [.bl (iV l)] K X:=by
 refine fE 81 rfl rfl λG g=> ?_;refine bx (c:=decide (l≠[])) (ρ':=[.bl (iV l)]) (λk H=> ?_) (λq=> ?_) λq=> ?_
 ·show(match vF (.o (iV l)) (.o [])with|some b=>k (!b) [.bl (iV l)]|.none=>False)
  have e:vF (.o (iV l)) (.o [])=some (!decide (l≠[])):=by
   show(match(bK fg (iV l)).map PyData.list,Ak (.o [])with|some a,some b=>some (PyData.eqv a b)|_,_=>none)=_;rw[xI];cases l<;>rfl
  rw[e];show k (!!decide (l≠[])) _;rw[Bool.not_not];exact H
 ·obtain⟨l',i,rfl⟩:∃l' i,l=l'++[i]:=by
   rcases eq_nil_or_concat l with rfl|⟨l',i,e⟩
   ·exact absurd rfl (of_decide_eq_true q)
   ·exact⟨l',i,by simpa using e⟩
  have e:iV (l'++[i])=iV l'++[.int i]:=by simp[iV]
  rw[e];show(match(iV l'++[V.int i]).getLast? with|some v=>K (.j v) [.bl (iV l'++[V.int i]).dropLast]|.none=>False);rw[getLast?_concat,dropLast_concat];exact h i l'
 ·exact h 0 l
theorem bS{n d:Int}(hd:0<d)(H:d<lJ)(h:K (.j (ah (rd n d))) []):FF 83 [vi n,vi d] K X:=by
 refine cX 83 rfl rfl rfl λG g=> ?_;refine aw (λ_ h=>h) (aa rfl) (aw (λ_ h=>h) (aa rfl) ?_);refine jG (λρ=>∃x y,ρ=[vi n,vi d,vi x,vi y]∧0≤x∧0≤y∧Int.gcd x y=Int.gcd n d) (λρ=>match ρ with|[_,_,_,.j (.int y)]=>y.toNat|_=>0) ⟨n.natAbs,d,rfl,zm 5871173 rfl _,zl 179569704 rfl hd,by rw[Int.gcd,Int.gcd,Int.natAbs_natCast]⟩ ?_;rintro ρ ⟨x,y,rfl,Q,Y,e⟩ I i;refine AW (λ_ h=>h) (λq=> ?_) λq=> ?_
 ·have S:=of_decide_eq_true q
  have j:Int.gcd y (x.fmod y)=Int.gcd x y:=by
   rw[Int.fmod_eq_emod_of_nonneg _ Y];obtain⟨m,rfl⟩:=Int.eq_ofNat_of_zero_le Q;obtain⟨k,rfl⟩:=Int.eq_ofNat_of_zero_le Y;show Nat.gcd k (m%k)=Nat.gcd m k;rw[gcd_comm k,←gcd_rec,gcd_comm]
  exact⟨zl 31155043112 rfl S,i _ ⟨y,x.fmod y,rfl,zl 179569693 rfl Y,Int.fmod_nonneg_of_pos _ S,j.trans e⟩ (by
   have:=Int.fmod_lt_of_pos x S;have:=Int.fmod_nonneg_of_pos x S;exact zl 0x515d9263774e1 rfl ‹_› this)⟩
 ·have S:y=0:=by have:=of_decide_eq_false q;exact zl 807472675673373 rfl Y this
  subst S;have E:x=(Int.gcd n d):=by rw[←e,Int.gcd_zero_right];exact zl 45465149725 rfl Q
  have g0:=kR (n:=n) hd;have g1:=qO (n:=n) hd;refine⟨zl 0x6e9c48d8ba74c94 rfl E g0,zl 0xe9c7417c3a0a1396cc89 rfl H E g1,zl 0x6e9c48d8ba74c94 rfl E g0,zl 0xe9c7417c3a0a1396cc89 rfl H E g1,af rfl,?_⟩;subst E;rw[Int.fdiv_eq_ediv_of_nonneg _ (by exact zm 92741 rfl _),Int.fdiv_eq_ediv_of_nonneg _ (by exact zm 92741 rfl _)];exact h
theorem fm(h:0<m)(i:Int):0≤i.fmod m∧i.fmod m<m:=⟨Int.fmod_nonneg_of_pos _ h,Int.fmod_lt_of_pos _ h⟩
theorem rU(h:∀(I:It)(l':List Int),ip w I→K (.j (wv I)) [.bl (iV l')]):FF 84 [.bl (iV l),.j (.bool w)] K X:=by
 refine fE 84 rfl rfl λG H=> ?_;refine H.c 81 rfl _ _ _ (bc λi E=> ?_);refine⟨by decide,?_⟩;have f:=fm (m:=9) (by decide) i;generalize i.fmod 9=y at f;have R:(y=8→w=false)→ex G (.cons (.iff (.D (.ag .gt (.d 2) (.p 5))) (.cons (.ret (.call 83 (.cons (.w .sub (.w .fmod (.P 81 0 .nil) (.p 37)) (.p 12)) (.cons (.w .add (.p 2) (.w .fmod (.d 2) (.p 2))) .nil)))) .nil) .nil) (.cons (.ret (.L (.cons (.w .sub (.w .fmod (.P 81 0 .nil) (.p 13)) (.p 4)) (.cons (.p 1) .nil)))) .nil)) [.bl (iV E),.j (.bool w),vi y]
  (λρ=>K (.j .none) (ba [.bl (iV l),.j (.bool w)] ρ)) (λ_=>False) (λr ρ=>K r (ba [.bl (iV l),.j (.bool w)] ρ)) X:=by
  intro _;refine ai (λ_ h=>h) (λq=> ?_) λq=> ?_
  ·refine H.c 81 rfl _ _ _ (bc λj L=> ?_)
   refine⟨by decide,by decide,?_⟩;have f1:=fm (m:=37) (by decide) j;have F:=fm (m:=2) (by decide) y;have e:(lJ:Int)=2^200:=rfl;have hd:0<2+y.fmod 2:=zl 185289202973 rfl F.1;refine H.c 83 rfl _ _ _ (bS hd (zl 0x1cebd361cff13e9 rfl F.2) ?_);refine h (.nu (rd _ _)) L ⟨.inl ⟨cq hd,oW hd,?_,?_⟩,λ_=>cq hd⟩
   ·have:=pY (n:=j.fmod 37-12) hd
    exact zl 5993026352711657 rfl F.2 this
   ·have:=ou (n:=j.fmod 37-12) hd
    exact zl 0x137db542321a1b3db7a13f3249 rfl f1.2 f1.1 this
  ·refine H.c 81 rfl _ _ _ (bc λj L=> ?_)
   refine⟨by decide,af rfl,?_⟩;have f1:=fm (m:=13) (by decide) j;refine h (.nu (j.fmod 13-4,1)) L ⟨.inl ⟨(by decide:(0:Int)<1),Int.gcd_one_right _,(by decide:(1:Int)≤3),?_⟩,λ_=>(by decide:(0:Int)<1)⟩;exact zl 0x2efef3b115c0b3da49 rfl f1.2 f1.1
 refine ik (aU (λ_ h=>h) (λq=>bO (λ_ h=>h) (λQ=> ?_) λQ=> ?_) λq=> ?_)
 ·subst Q
  refine⟨af rfl,af rfl,af rfl,af rfl,?_⟩;refine H.c 81 rfl _ _ _ (bc λj L=> ?_);refine⟨by decide,?_⟩;have f1:=fm (m:=4) (by decide) j;generalize j.fmod 4=z at f1;obtain rfl|rfl|rfl|rfl:z=0∨z=1∨z=2∨z=3:=zl 0xb08397f761bc68e0530c09 rfl f1.2 f1.1
  ·exact h .na L rfl
  ·exact h .lH L rfl
  ·exact h (.nu (1,0)) L ⟨.inr ⟨rfl,.inl rfl⟩,λq=>by cases q⟩
  ·exact h (.nu (-1,0)) L ⟨.inr ⟨rfl,.inr rfl⟩,λq=>by cases q⟩
 ·exact ae (R λ_=>Q)
 ·exact ae (R λz=>absurd z (zL q))
theorem Aj(h:∀l':List Int,K (.U (iV l')) []):FF 82 [.j (.o (iV l))] K X:=by
 refine cX 82 rfl rfl rfl λG g=> ?_;have B:997<lJ:=by decide
 have L:aA=1000000:=rfl;have F:∃m:Nat,m≤40∧((iV l).take (ay (iV l).length 40)).drop 0=iV (l.take m):=⟨ay (iV l).length 40,by
  unfold ay bX;rw[decide_eq_true (by decide)];exact zm 0x482e05551a2370 rfl _,by rw[drop_zero];unfold iV;rw[map_take]⟩
 obtain⟨m,M,E⟩:=F;refine aw (λ_ h=>⟨af rfl,h⟩) (aa rfl) ?_;refine cU (items:=iV (l.take m)) (λ_ h=>by rw[←E]at h;exact h) (λj ρ=>∃is Q s S,fu Q∧fu s∧fu S∧is.length≤31*j∧ρ=[.j (.o (iV l)),.U (iV is),Q,s,S]) ⟨[],.y,.y,.y,.inl rfl,.inl rfl,.inl rfl,by simp,rfl⟩ ?_ ?_
 ·rintro j v ρ e ⟨is,Q,s,S,h2,h3,h4,H,rfl⟩
  refine⟨aq rfl h2,λt R=> ?_⟩;unfold iV at e;rw[getElem?_map]at e;obtain⟨x,Y,rfl⟩:=Option.map_eq_some_iff.mp e;have J:j<40:=by have:=(List.getElem?_eq_some_iff.mp Y).1;rw[length_take]at this;exact zl 0x8614b561998e5d5f rfl M this
  have o:∀y,ex G (.cons (.lZ 1 (.w .fmod (.d 3) (.p 997))) (.cons (.C 3 (.w .fdiv (.d 3) (.p 997))) (.cons (.bU 4 (.eX (.cons (.p 30) .nil)) (.cons (.iff (.D (.ag .gt (.d 3) (.p 0))) (.cons (.lZ 1 (.w .fmod (.d 3) (.p 997))) (.cons (.C 3 (.w .fdiv (.d 3) (.p 997))) .nil)) .nil) .nil)) .nil)))
   [.j (.o (iV l)),.U (iV is),vi x,vi y,S] t t (λr ρ=>K r (ba [.j (.o (iV l))] ρ)) X:=by
   intro y;have I:∀(is:List Int)(z:Int),iV is++[V.int z]=iV (is++[z]):=λis z=>by simp[iV]
   refine eV rfl (λ_ h=>⟨by decide,h⟩) rfl (by unfold iV;rw[length_map];exact zl 0xf24cf7683c18d10fb19419da55 rfl L H J) ?_;show ex G _ [.j (.o (iV l)),.U (iV is++[V.int (y.fmod 997)]),vi x,vi y,S] _ _ _ _;rw[I];refine aw (λ_ h=>⟨by decide,B,h⟩) (aq rfl (.inr ⟨_,rfl⟩)) ?_;refine cU (λ_ h=>h) (λi ρ=>∃is y S,fu S∧is.length≤31*j+1+i∧ρ=[.j (.o (iV l)),.U (iV is),vi x,vi y,S]) ⟨_,_,S,h4,by simp;exact zl 0x166bde7a2339a0f rfl H,rfl⟩ ?_ ?_
   ·rintro i v ρ e ⟨is,y,S,h4,H,rfl⟩
    refine⟨aq rfl h4,λt R=> ?_⟩;have N:i<30:=by have:=(List.getElem?_eq_some_iff.mp e).1;simpa[ao]using this
    refine ai (λ_ h=>h) (λq=> ?_) λq=> ?_
    ·refine eV rfl (λ_ h=>⟨by decide,h⟩) rfl (by unfold iV;rw[length_map];exact zl 0x57fddbc4be8a9b96aab0cb060167bd9419da55 rfl L J H N) ?_
     show ex G _ [.j (.o (iV l)),.U (iV is++[V.int (y.fmod 997)]),vi x,vi y,.j v] _ _ _ _;rw[I];refine aw (λ_ h=>⟨by decide,B,h⟩) (aq rfl (.inr ⟨_,rfl⟩)) ?_;exact R _ ⟨_,_,.j v,.inr ⟨_,rfl⟩,by simp;exact zl 0x466f2418b79e54ac9e2aece681cef rfl H,rfl⟩
    ·exact R _ ⟨is,y,.j v,.inr ⟨_,rfl⟩,zl 0x119bc9062de793e47aece681cef rfl H,rfl⟩
   ·rintro ρ ⟨is,y,S,h4,H,rfl⟩
    exact R _ ⟨is,_,_,_,.inr ⟨_,rfl⟩,.inr ⟨_,rfl⟩,h4,by simp[ao]at H;exact zl 0x1799bc5f9e9d950ece681cef rfl H,rfl⟩
  refine aw (v:=.j (.int (if 0≤x then x else 5-x))) (ρ1:=[.j (.o (iV l)),.U (iV is),vi x,s,S]) (λk d=>bx (λ_ h=>h) (λq=> ?_) λq=> ?_) (aq rfl h3) (o _)
  ·rw[if_pos (of_decide_eq_true q)]at d;exact d
  ·rw[if_neg (of_decide_eq_false q)]at d;exact d
 ·rintro ρ ⟨is,Q,s,S,h2,h3,h4,H,rfl⟩
  refine aw (λ_ h=>h) (aq rfl (.inr ⟨_,rfl⟩)) ?_;show K (.U (List.reverse _)) [];have e:(drop 0 ((iV is).take (ay (iV is).length 150))).reverse=iV ((is.take (ay (iV is).length 150)).reverse):=by
   rw[drop_zero];unfold iV;rw[map_reverse,map_take]
  rw[e];exact h _
theorem tw{Y:Type}{f:V→Option PyData}{g:Y→V}{h:Y→PyData}{l:List Y}(H:∀x∈l,f (g x)=some (h x)):bK f (l.map g)=some (l.map h):=by
 induction l with
 |nil=>rfl
 |cons a l I=>
  show(match f (g a),bK f (l.map g)with|some d,some D=>some (d::D)|_,_=>.none)=_;rw[H a (.head _),I λx X=>H x (.tail _ X)];rfl
noncomputable def pd(p:PR):PyData:=.tuple [.int p.1,.int p.2]
theorem BL(l:List PR):bK fg (l.map ah)=some (l.map pd):=tw λ_ _=>rfl
theorem wj(p q):PyData.eqv (pd p) (pd q)=decide (p=q):=by
 unfold pd;rw[nR];obtain⟨a,b⟩:=p;obtain⟨c,d⟩:=q;simp
theorem ra:∀(l r:List PR),PyData.eqvAll (l.map pd) (r.map pd)=decide (l=r)
|[],[]=>rfl
|[],b::r=>rfl
|a::l,[]=>rfl
|a::l,b::r=>by
 show(PyData.eqv (pd a) (pd b)&&PyData.eqvAll (l.map pd) (r.map pd))=_;rw[wj,ra l r];simp
theorem rF(h1:bK fg a=some D)(h2:bK fg b=some d):vF (.o a) (.o b)=some (PyData.eqvAll D d):=by
 show(match(bK fg a).map PyData.list,(bK fg b).map PyData.list with|some a,some b=>some (PyData.eqv a b)|_,_=>.none)=_;rw[h1,h2];rfl
theorem Bq(l r:List PR):vF (.o (l.map ah)) (.o (r.map ah))=some (decide (l=r)):=by
 rw[rF (BL l) (BL r),ra]
noncomputable def Sc(v:V):Prop:=v=.none∨(∃i,v=.int i)∨∃s,v=.str s∧PyData.strOk s=true
theorem uw{l}(h:∀v∈l,Sc v):∃D,bK fg l=some D∧PyData.eqvAll D D=true:=by
 induction l with
 |nil=>exact⟨[],rfl,rfl⟩
 |cons v l I=>
  obtain⟨D,h1,h2⟩:=I λv H=>h v (.tail _ H);have:∃d,fg v=some d∧PyData.eqv d d=true:=by
   rcases h v (.head _)with rfl|⟨i,rfl⟩|⟨s,rfl,S⟩
   ·exact⟨_,rfl,rfl⟩
   ·exact⟨_,rfl,by rw[FG];exact decide_eq_true rfl⟩
   ·refine⟨PyData.str s,?_,by rw[yI];exact decide_eq_true rfl⟩
    show(match PyData.strOk s with|true=>some (PyData.str s)|false=>.none)=_;rw[S]
  obtain⟨d,h3,h4⟩:=this;refine⟨d::D,?_,?_⟩
  ·show(match fg v,bK fg l with|some d,some D=>some (d::D)|_,_=>.none)=_
   rw[h3,h1]
  ·show(PyData.eqv d d&&PyData.eqvAll D D)=true
   rw[h4,h2];rfl
theorem dX(h:∀v∈l,Sc v):vF (.o l) (.o l)=some true:=by
 obtain⟨D,h1,h2⟩:=uw h;rw[rF h1 h1,h2]
noncomputable def mS:Str:=⟨#[105,110,118,97,108,105,100,32,115,112,101,99,105,102,105,99,97,116,105,111,110,32,111,102,32,39,98,114,101,97,107,115,39]⟩
noncomputable def mI:Str:=⟨#[105,110,118,97,108,105,100,32,110,117,109,98,101,114,32,111,102,32,105,110,116,101,114,118,97,108,115]⟩
noncomputable def mF:Str:=⟨#[39,120,39,32,104,97,115,32,110,111,32,102,105,110,105,116,101,32,118,97,108,117,101,115,32,116,111,32,99,117,116]⟩
noncomputable def mU:Str:=⟨#[39,98,114,101,97,107,115,39,32,97,114,101,32,110,111,116,32,117,110,105,113,117,101]⟩
noncomputable def oh:It→Option PR
|.nu p=>if 0<p.2 then some p else none
|_=>none
noncomputable def dq(xs:List It):List PR:=xs.filterMap oh
noncomputable def Pq(low:PR)(n m:Int):List PR:=
 let st:=rd (low.1*low.2*1000-n*low.2) (low.2*low.2*1000)
 (range (m+1).toNat).map λ(i:Nat)=>rd (st.1*(low.2*1000)*m+(0+1*i)*(2*n)*st.2) (st.2*(low.2*1000)*m)
noncomputable def B9(low top:PR)(n d m:Int):List PR:=
 (((range (m+1).toNat).map λ(i:Nat)=>rd (low.1*d*m+(0+1*i)*n*low.2) (low.2*d*m)).set 0 (rd (low.1*d*1000-n*low.2) (low.2*d*1000))).set m.toNat (rd (top.1*d*1000+n*top.2) (top.2*d*1000))
noncomputable def fe(low top:PR)(m:Int):List PR:=
 if top.1*low.2-low.1*top.2=0 then Pq low (if low.1≠0 then low.1.natAbs else 1) m else B9 low top (top.1*low.2-low.1*top.2) (top.2*low.2) m
theorem ml{a b:Int}(h1:a.natAbs<2^i)(h2:b.natAbs<2^j):(a*b).natAbs<2^(i+j):=tD h1 h2 (by rw[Nat.pow_add];exact Nat.le_refl _)
theorem Ae{a b:Int}(h1:a.natAbs<2^i)(h2:b.natAbs<2^i):(a+b).natAbs<2^(i+1):=by rw[Nat.pow_succ];exact zl 0x1d0025b0e8e0e67ce73 rfl h1 h2
theorem x9{a b:Int}(h1:a.natAbs<2^i)(h2:b.natAbs<2^i):(a-b).natAbs<2^(i+1):=by rw[Nat.pow_succ];exact zl 0x1d0025b35dfbe67ce73 rfl h1 h2
theorem iE{a:Int}(h1:a.natAbs<2^i)(h:i≤j):a.natAbs<2^j:=Nat.lt_of_lt_of_le h1 (Nat.pow_le_pow_right (by decide) h)
theorem bg{a:Int}(h1:a.natAbs<2^i)(h:i≤200):a.natAbs<lJ:=iE h1 h
theorem cY(h:vF x y=some b)(H:k b):qn .eq x y k:=by
 show(match vF x y with|some b=>k b|.none=>False);rw[h];exact H
theorem gE(h:vF x y=some b)(H:k (!b)):qn .ne x y k:=by
 show(match vF x y with|some b=>k (!b)|.none=>False);rw[h];exact H
theorem gM(h:l.getLast? =some v):cu l (-1)=some v:=by
 have H:l.length≠0:=by cases l<;>simp at h⊢
 have e:bX l.length (-1)=l.length-1:=by
  unfold bX;rw[decide_eq_false (by decide)];exact zm 37060747032685 rfl _
 unfold cu;rw[e,decide_eq_true (by exact zl 529889643013517 rfl H)];rw[getLast?_eq_getElem?]at h;have:((l.length:Int)-1).toNat=l.length-1:=zm 1157819611250 rfl _;rw[this];exact h
theorem eA{j:Nat}(h:j<l.length):eM l j v=some (l.set j v):=by
 have e:bX l.length j=j:=by unfold bX;rw[decide_eq_true (by exact zm 92741 rfl _)]
 unfold eM;rw[e,decide_eq_true (by exact zm 92741 rfl _),decide_eq_true (by exact zl 23879384898 rfl h)];rfl
theorem OT(e:ρ[i]? =some (.U l))(h:eM l j v=some l')(H:k (ρ.set i (.U l'))):gK ρ i (λl=>eM l j v) k:=by
 unfold gK;rw[e];show(match eM l j v with|some l=>k (ρ.set i (gy (.U _) l))|.none=>False);rw[h];exact H
theorem iJ(h:ev G e ρ t X):ex G (.cons (.ret e) r) ρ x C t X:=h
theorem gv(h:ev G e ρ (λr ρ=>k (.j r.v) ρ) X):ev G (.Y e) ρ k X:=h
theorem iy(h:∀k,k v ρ1→ev G e ρ k X)(H:wH I ρ1=some (.int j))(g:ρ1[i]? =some (.U l))(h2:eM l j v.v=some l')(h1:ex G r (ρ1.set i (.U l')) x C t X):ex G (.cons (.dB (.v i) I e) r) ρ x C t X:=by
 apply h _;show(match wH I ρ1 with|some j=>_|.none=>False);rw[H];exact OT (k:=λρ=>ex G r ρ x C t X) g h2 h1
noncomputable def F3(xs:List It)(m:Int):Str⊕List PR:=if m<2 then .inl mI else match aI (dq xs)with
 |[]=>.inl mF
 |low::r=>.inr (fe low ((low::r).getLast (cons_ne_nil _ _)) m)
noncomputable def Fp(K:Rv→List Mine.Internal.S→Prop):Str⊕List PR→Prop
|.inl s=>K (.j (.str s)) []
|.inr l=>K (.j (.o (l.map ah))) []
theorem cH(h:p∈dq xs):.nu p∈xs∧0<p.2:=by
 obtain⟨I,h1,h2⟩:=mem_filterMap.mp h;cases I with
 |nu p=>
  by_cases q:0<p.2
  ·have:=Option.some.inj ((if_pos q).symm.trans h2);subst this;exact⟨h1,q⟩
  ·cases(if_neg q).symm.trans h2
 |na=>cases h2
 |lH=>cases h2
noncomputable def t8:V→Bool
|.L [_,.int b]=>decide (0<b)
|_=>false
theorem D9(xs):(((xs.map wv).filter t8).map λv=>v)=(dq xs).map ah:=by
 induction xs with
 |nil=>rfl
 |cons t xs I=>
  rw[map_cons,filter_cons];unfold dq;rw[filterMap_cons];cases t with
  |na=>exact I
  |lH=>exact I
  |nu p=>
   by_cases q:0<p.2
   ·rw[show oh (.nu p)=some p from if_pos q,if_pos (show t8 (wv (.nu p))=true from decide_eq_true q)];exact congrArg _ I
   ·rw[show oh (.nu p)=none from if_neg q,if_neg (show¬t8 (wv (.nu p))=true fromλz=>q (of_decide_eq_true z))];exact I
theorem Io{l:List PR}:(l.map ah).set j (ah p)=(l.set j p).map ah:=by rw[map_set]
theorem kM{l:List PR}(H:0≤m)(h:m.toNat<l.length):eM (l.map ah) m (ah p)=some ((l.set m.toNat p).map ah):=by
 obtain⟨j,rfl⟩:=Int.eq_ofNat_of_zero_le H;rw[eA (by rw[List.length_map];exact h),Io];rfl
theorem iR(H:0≤m)(h1:m≤100):dG [.int m]=some (ao 0 m.toNat 1):=by
 show(match vc 0 m with|true=>some (ao 0 m.toNat 1)|false=>.none)=_;have e:vc 0 m=true:=by
  unfold vc;rw[decide_eq_true (by decide)];exact decide_eq_true (zl 0xafb614438566fb451d rfl H h1)
 rw[e]
theorem hZ(h:∀k,k (.j (.int m)) ρ1→ev G e ρ k X)(H:0≤m)(h1:m≤100)(d:k (ao 0 m.toNat 1) ρ1):qS G (.eX (.cons e .nil)) ρ k X:=by
 apply h _;show(match dG [.int m]with|some l=>k l ρ1|.none=>False);rw[iR H h1];exact d
theorem Dw(g:Sub 88 G)(L:Sm low)(t:Sm top)(C:0<low.2)(u:0<top.2)(m2:2≤m)(M:m≤40)(h:∀a b ρ,Y (.j (.o ((fe low top m).map ah))) (a::b::ρ)):
 ex G (.cons (.C 5 (.w .sub (.w .mul (.sub (.d 4) (.p 0)) (.sub (.d 3) (.p 1))) (.w .mul (.sub (.d 3) (.p 0)) (.sub (.d 4) (.p 1))))) (.cons (.C 6 (.w .mul (.sub (.d 4) (.p 1)) (.sub (.d 3) (.p 1)))) (.cons (.iff (.D (.ag .eq (.d 5) (.p 0))) (.cons (.C 5 (.ite (.D (.ag .ne (.sub (.d 3) (.p 0)) (.p 0))) (.b1 .abs (.sub (.d 3) (.p 0))) (.p 1))) (.cons (.C 6 (.sub (.d 3) (.p 1))) (.cons (.C 7 (.call 83 (.cons (.w .sub (.w .mul (.w .mul (.sub (.d 3) (.p 0)) (.d 6)) (.p 1000)) (.w .mul (.d 5) (.sub (.d 3) (.p 1)))) (.cons (.w .mul (.w .mul (.sub (.d 3) (.p 1)) (.d 6)) (.p 1000)) .nil)))) (.cons (.C 5 (.w .mul (.p 2) (.d 5))) (.cons (.C 6 (.w .mul (.d 6) (.p 1000))) (.cons (.ret (.Y (.comp 10 (.eX (.cons (.w .add (.d 1) (.p 1)) .nil)) .no (.call 83 (.cons (.w .add (.w .mul (.w .mul (.sub (.d 7) (.p 0)) (.d 6)) (.d 1)) (.w .mul (.w .mul (.d 10) (.d 5)) (.sub (.d 7) (.p 1)))) (.cons (.w .mul (.w .mul (.sub (.d 7) (.p 1)) (.d 6)) (.d 1)) .nil)))))) .nil)))))) .nil) (.cons (.C 8 (.comp 11 (.eX (.cons (.w .add (.d 1) (.p 1)) .nil)) .no (.call 83 (.cons (.w .add (.w .mul (.w .mul (.sub (.d 3) (.p 0)) (.d 6)) (.d 1)) (.w .mul (.w .mul (.d 11) (.d 5)) (.sub (.d 3) (.p 1)))) (.cons (.w .mul (.w .mul (.sub (.d 3) (.p 1)) (.d 6)) (.d 1)) .nil))))) (.cons (.dB (.v 8) (.p 0) (.call 83 (.cons (.w .sub (.w .mul (.w .mul (.sub (.d 3) (.p 0)) (.d 6)) (.p 1000)) (.w .mul (.d 5) (.sub (.d 3) (.p 1)))) (.cons (.w .mul (.w .mul (.sub (.d 3) (.p 1)) (.d 6)) (.p 1000)) .nil)))) (.cons (.dB (.v 8) (.d 1) (.call 83 (.cons (.w .add (.w .mul (.w .mul (.sub (.d 4) (.p 0)) (.d 6)) (.p 1000)) (.w .mul (.d 5) (.sub (.d 4) (.p 1)))) (.cons (.w .mul (.w .mul (.sub (.d 4) (.p 1)) (.d 6)) (.p 1000)) .nil)))) (.cons (.ret (.d 8)) .nil)))))))
  [.j J,vi m,.j H,.j (ah low),.j (ah top),.y,.y,.y,.y,.y,.y,.y] D c Y X:=by
 have b1:low.1.natAbs<2^5:=by rcases L with h|h<;>(first|exact zl 920200751983464 rfl h.2.2.2|exact zl 379053015251752 rfl C h.1)
 have b2:low.2.natAbs<2^2:=by rcases L with h|h<;>(first|exact zl 0xd5e355420528 rfl h.1 h.2.2.1|exact zl 0x674d8b933b28 rfl C h.1)
 have P:top.1.natAbs<2^5:=by rcases t with h|h<;>(first|exact zl 920200751983464 rfl h.2.2.2|exact zl 379053015251752 rfl u h.1)
 have N:top.2.natAbs<2^2:=by rcases t with h|h<;>(first|exact zl 0xd5e355420528 rfl h.1 h.2.2.1|exact zl 0x674d8b933b28 rfl u h.1)
 have y:m.natAbs<2^6:=zl 0xa242cccd94d25701 rfl m2 M;have B:(1000:Int).natAbs<2^10:=by decide
 have o:(2:Int).natAbs<2^2:=by decide
 have e:(lJ:Int)=2^200:=rfl;have W:∀{x:Int}{i:Nat},x.natAbs<2^i→i≤100→x<lJ:=λ{x i}h1 h2=>by
  have:=iE h1 h2;exact zl 0x39d7a6c26822cc773 rfl this
 repeat(refine And.intro (by first|decide|exact bg (by repeat' first|assumption|apply ml|apply Ae|apply x9) (by decide)) ?_)
 unfold fe at h;refine ai (ρ:=[.j J,vi m,.j H,.j (ah low),.j (ah top),vi (top.1*low.2-low.1*top.2),vi (top.2*low.2),.y,.y,.y,.y,.y]) (λ_ h=>h) (λq=> ?_) λq=> ?_
 ·rw[if_pos (sI q)]at h
  generalize E:(if low.1≠0 then(low.1.natAbs:Int)else 1)=n at h;have Z:n.natAbs<2^5:=by subst E;split<;>(first|exact zl 30037915692659 rfl b1|exact zm 11889607 rfl)
  refine aw (v:=.j (.int n)) (ρ1:=[.j J,vi m,.j H,.j (ah low),.j (ah top),vi (top.1*low.2-low.1*top.2),vi (top.2*low.2),.y,.y,.y,.y,.y]) (λk K=>bx (λ_ h=>h) (λq=> ?_) λq=> ?_) (aq rfl (.inr ⟨_,rfl⟩)) ?_
  ·rw[if_pos (by intro z;rw[z]at q;cases q)]at E;subst E;exact K
  ·rw[if_neg (by intro z;exact z (sI (by simpa using q)))]at E;subst E;exact K
  refine aw (λ_ h=>h) (aq rfl (.inr ⟨_,rfl⟩)) ?_;repeat(refine And.intro (by first|decide|exact bg (by repeat' first|assumption|apply ml|apply Ae|apply x9) (by decide)) ?_)
  have S:0<low.2*low.2*1000:=by have:=Int.mul_pos C C;exact zl 0xf7afbc6e5d28 rfl this
  refine g.c 83 rfl _ _ _ (bS S (W (ml (ml b2 b2) B) (by decide)) ?_);have T:=Nat.lt_of_le_of_lt (ou S) (x9 (ml (ml b1 b2) B) (iE (ml Z b2) (by decide)));have c2:(rd (low.1*low.2*1000-n*low.2) (low.2*low.2*1000)).2.natAbs<2^14:=by
   have h1:=pY (n:=low.1*low.2*1000-n*low.2) S;have h2:=cq (n:=low.1*low.2*1000-n*low.2) S;have h3:(low.2*low.2*1000).natAbs<2^14:=ml (ml b2 b2) B;exact zl 0x145500f7c30a165e8157916acee rfl h1 h2 h3
  have c3:=cq (n:=low.1*low.2*1000-n*low.2) S;change∀a b ρ,Y (.j (.o ((List.map (λ(i:Nat)=>rd (rP (low.1*low.2*1000-n*low.2) (low.2*low.2*1000)*(low.2*1000)*m+(0+1*(i:Int))*(2*n)*mw (low.1*low.2*1000-n*low.2) (low.2*low.2*1000)) (mw (low.1*low.2*1000-n*low.2) (low.2*low.2*1000)*(low.2*1000)*m)) _).map ah))) (a::b::ρ)at h;change(rP _ _).natAbs<_ at T;change(mw _ _).natAbs<_ at c2;show bG [.j J,vi m,.j H,.j (ah low),.j (ah top),vi n,vi low.2,.y,.y,.y,.y,.y] 7 (.j (ah (rP (low.1*low.2*1000-n*low.2) (low.2*low.2*1000),mw (low.1*low.2*1000-n*low.2) (low.2*low.2*1000)))) _;generalize rP (low.1*low.2*1000-n*low.2) (low.2*low.2*1000)=V at T h;generalize mw (low.1*low.2*1000-n*low.2) (low.2*low.2*1000)=s at c2 c3 h;refine aT (aa rfl) ?_;repeat(refine And.intro (by first|decide|exact bg (by repeat' first|assumption|apply ml|apply Ae|apply x9) (by decide)) ?_)
  refine gv ?_;refine fC (ρ:=[.j J,vi m,.j H,.j (ah low),.j (ah top),vi (2*n),vi (low.2*1000),.j (ah (V,s)),.y,.y,.y,.y]) (items:=ao 0 (m+1).toNat 1) (f:=λv=>match v with|.int i=>ah (rd (V*(low.2*1000)*m+i*(2*n)*s) (s*(low.2*1000)*m))|v=>v) ?_ (by have:aA=1000000:=rfl;simp[ao];exact zl 0x19f29f916a5c00e29371d3e rfl M this) (aa rfl) ?_ ?_
  ·intro k K
   refine hZ (G:=G) (X:=X) (e:=.w .add (.d 1) (.p 1)) (m:=m+1) ?_ (zl 226112071169 rfl m2) (zl 0x2ba4b852201d3e rfl M) K;exactλ_ h=>h
  ·intro v R k K
   obtain⟨i,I,rfl⟩:=List.mem_map.mp R;have I:=List.mem_range.mp I;have F:(0+1*(i:Int)).natAbs<2^6:=zl 0x638b44bdb0fa5cc3d9cf825d3e rfl M I;generalize(0+1*(i:Int))=U at F K;have Q:=Int.mul_pos (Int.mul_pos c3 (zl 0xf7afbc6e5d28 rfl C)) (zl 179601153 rfl m2);repeat(refine And.intro (by first|decide|exact bg (by repeat' first|assumption|apply ml|apply Ae|apply x9) (by decide)) ?_)
   exact g.c 83 rfl _ _ _ (bS Q (W (ml (ml c2 (ml b2 B)) y) (by decide)) (K _ rfl))
  ·have:=h (.j J) (vi m) [.j H,.j (ah low),.j (ah top),vi (2*n),vi (low.2*1000),.j (ah (V,s)),.y,.y,.y,.y]
   rw[List.map_map]at this;unfold ao;rw[List.map_map];exact this
 ·rw[if_neg (zL q)]at h
  generalize O:top.1*low.2-low.1*top.2=n at h;generalize hd:top.2*low.2=d at h;have Z:n.natAbs<2^8:=by subst O;exact x9 (ml P b2) (ml b1 N)
  have F:d.natAbs<2^4:=by subst hd;exact ml N b2
  have A:0<d:=by subst hd;exact Int.mul_pos u C
  refine ae ?_;refine aw (v:=.U (((List.range (m+1).toNat).map λ(i:Nat)=>rd (low.1*d*m+(0+1*(i:Int))*n*low.2) (low.2*d*m)).map ah)) (ρ1:=[.j J,vi m,.j H,.j (ah low),.j (ah top),vi n,vi d,.y,.y,.y,.y,.y]) (λk K=> ?_) (aa rfl) ?_
  ·refine fC (ρ:=[.j J,vi m,.j H,.j (ah low),.j (ah top),vi n,vi d,.y,.y,.y,.y,.y]) (items:=ao 0 (m+1).toNat 1) (f:=λv=>match v with|.int i=>ah (rd (low.1*d*m+i*n*low.2) (low.2*d*m))|v=>v) ?_ (by have:aA=1000000:=rfl;simp[ao];exact zl 0x19f29f916a5c00e29371d3e rfl M this) (aa rfl) ?_ ?_
   ·intro k K
    refine hZ (G:=G) (X:=X) (e:=.w .add (.d 1) (.p 1)) (m:=m+1) ?_ (zl 226112071169 rfl m2) (zl 0x2ba4b852201d3e rfl M) K;exactλ_ h=>h
   ·intro v R k K
    obtain⟨i,I,rfl⟩:=List.mem_map.mp R;have I:=List.mem_range.mp I;have r:(0+1*(i:Int)).natAbs<2^6:=zl 0x638b44bdb0fa5cc3d9cf825d3e rfl M I;generalize(0+1*(i:Int))=U at r K;have Q:0<low.2*d*m:=Int.mul_pos (Int.mul_pos C A) (zl 179601153 rfl m2);repeat(refine And.intro (by first|decide|exact bg (by repeat' first|assumption|apply ml|apply Ae|apply x9) (by decide)) ?_)
    exact g.c 83 rfl _ _ _ (bS Q (W (ml (ml b2 F) y) (by decide)) (K _ rfl))
   ·rw[List.map_map]at K
    unfold ao;rw[List.map_map];exact K
  have w:0<low.2*d*1000:=Int.mul_pos (Int.mul_pos C A) (zm 11274374 rfl);have p:0<top.2*d*1000:=Int.mul_pos (Int.mul_pos u A) (zm 11274374 rfl);unfold B9 at h;have len:((List.range (m+1).toNat).map λ(i:Nat)=>rd (low.1*d*m+(0+1*(i:Int))*n*low.2) (low.2*d*m)).length=(m+1).toNat:=by simp
  generalize((List.range (m+1).toNat).map λ(i:Nat)=>rd (low.1*d*m+(0+1*(i:Int))*n*low.2) (low.2*d*m))=l at h len;refine iy (ρ1:=[.j J,vi m,.j H,.j (ah low),.j (ah top),vi n,vi d,.y,.U (l.map ah),.y,.y,.y]) (l:=l.map ah) (v:=.j (ah (rd (low.1*d*1000-n*low.2) (low.2*d*1000)))) (j:=0) (l':=(l.set 0 (rd (low.1*d*1000-n*low.2) (low.2*d*1000))).map ah) (λk K=> ?_) rfl rfl (kM (m:=0) (by decide) (by rw[len];exact zl 7235504212481 rfl m2)) ?_
  ·repeat(refine And.intro (by first|decide|exact bg (by repeat' first|assumption|apply ml|apply Ae|apply x9) (by decide)) ?_)
   exact g.c 83 rfl _ _ _ (bS w (W (ml (ml b2 F) B) (by decide)) K)
  refine iy (ρ1:=[.j J,vi m,.j H,.j (ah low),.j (ah top),vi n,vi d,.y,.U ((l.set 0 (rd (low.1*d*1000-n*low.2) (low.2*d*1000))).map ah),.y,.y,.y]) (l:=(l.set 0 (rd (low.1*d*1000-n*low.2) (low.2*d*1000))).map ah) (v:=.j (ah (rd (top.1*d*1000+n*top.2) (top.2*d*1000)))) (j:=m) (λk K=> ?_) rfl rfl (kM (zl 179570177 rfl m2) (by rw[List.length_set,len];exact zl 57883994313217 rfl m2)) ?_
  ·repeat(refine And.intro (by first|decide|exact bg (by repeat' first|assumption|apply ml|apply Ae|apply x9) (by decide)) ?_)
   exact g.c 83 rfl _ _ _ (bS p (W (ml (ml N F) B) (by decide)) K)
  exact h _ _ _
theorem Cj(b)(bs:List Bool):0≤Spec.countIn (.bool b) (bs.map PyData.bool)∧(Spec.countIn (.bool b) (bs.map PyData.bool)≠0↔b∈bs):=by
 induction bs with
 |nil=>exact⟨Int.le_refl _,⟨λh=>absurd rfl h,λh=>by cases h⟩⟩
 |cons c bs I=>
  have e:Spec.countIn (.bool b) ((c::bs).map PyData.bool)=(if Spec.same (.bool c) (.bool b)then 1 else 0)+Spec.countIn (.bool b) (bs.map PyData.bool):=rfl;rw[e];cases b<;>cases c
  ·have:Spec.same (.bool false) (.bool false)=true:=by simp[Spec.same]
   rw[this];simp;exact zl 0x36dbf57e11cf87551d rfl I.1
  ·have:Spec.same (.bool true) (.bool false)=false:=by simp[Spec.same]
   rw[this];simp;simpa using I
  ·have:Spec.same (.bool false) (.bool true)=false:=by simp[Spec.same]
   rw[this];simp;simpa using I
  ·have:Spec.same (.bool true) (.bool true)=true:=by simp[Spec.same]
   rw[this];simp;exact zl 0x36dbf57e11cf87551d rfl I.1
theorem uu(b)(bs:List Bool):x6 (.bool b) (bs.map V.bool)=some (decide (b∈bs)):=by
 show(match fg (.bool b),bK fg (bs.map V.bool)with|some d,some D=>(match D.all (λy=>SeqAt.noMix y d)with|true=>some (decide (Spec.countIn d D≠0))|false=>.none)|_,_=>.none)=_;rw[(tw λ_ _=>rfl)];show(match(bs.map PyData.bool).all (λy=>SeqAt.noMix y (.bool b))with|true=>some (decide (Spec.countIn (.bool b) (bs.map PyData.bool)≠0))|false=>.none)=_;have E:(bs.map PyData.bool).all (λy=>SeqAt.noMix y (.bool b))=true:=by
  rw[all_eq_true];intro y H;obtain⟨c,_,rfl⟩:=mem_map.mp H;simp[SeqAt.noMix]
 rw[E];rw[decide_eq_decide.mpr (Cj b bs).2]
theorem HF(h:x6 x l=some b)(H:k b):qn .nr x (.o l) k:=by
 show(match x6 x l with|some b=>k b|.none=>False);rw[h];exact H
theorem Fu(h:x6 x l=some b)(H:k (!b)):qn .eQ x (.o l) k:=by
 show(match x6 x l with|some b=>k (!b)|.none=>False);rw[h];exact H
noncomputable def hK:It→Bool
|.nu _=>false
|_=>true
noncomputable def DA(xs:List It):List PR:=xs.filterMap λI=>match I with|.nu p=>some p|_=>none
theorem n4:(∀I∈xs,hK I=false)→xs=(DA xs).map .nu:=by
 induction xs with
 |nil=>exactλ_=>rfl
 |cons x xs H=>
  intro h;have y:=h _ (.head _);cases x with
  |nu p=>exact congrArg (It.nu p:: ·) (H λI i=>h I (.tail _ i))
  |_=>cases y
noncomputable def Dj:List PR→Bool
|a::b::r=>decide (b=a)||Dj (b::r)
|_=>false
theorem kZ:Dj l=true↔∃i a,l[i]? =some a∧l[i+1]? =some a:=by
 induction l with
 |nil=>exact⟨λh=>absurd h Bool.false_ne_true,λ⟨i,a,h,_⟩=>by rw[getElem?_nil]at h;cases h⟩
 |cons a l I=>
  cases l with
  |nil=>exact⟨λh=>absurd h Bool.false_ne_true,λ⟨i,c,_,h⟩=>by rw[getElem?_cons_succ,getElem?_nil]at h;cases h⟩
  |cons b r=>
   show(decide (b=a)||Dj (b::r))=true↔_;rw[Bool.or_eq_true,decide_eq_true_iff,I];constructor
   ·rintro(rfl|⟨i,c,h1,h2⟩)
    ·exact⟨0,b,rfl,rfl⟩
    ·exact⟨i+1,c,h1,h2⟩
   ·rintro⟨i,c,h1,h2⟩
    cases i with
    |zero=>exact .inl ((Option.some.inj h2).trans (Option.some.inj h1).symm)
    |succ i=>exact .inr ⟨i,c,h1,h2⟩
noncomputable def brk(xs cut:List It):Str⊕List PR:=if cut=[]∨true∈cut.map hK then .inl mS else match DA cut with
 |[p]=>F3 xs p.1
 |ps=>if Dj (aI ps)=true then .inl mU else .inr (aI ps)
structure iW(cut:List It):Prop where
 ok:∀it∈cut,ip true it
 len:cut.length≤100
 vP:∀p,cut=[.nu p]→p.2=1∧p.1≤40
theorem I4(h:∀k,k (.j (.int m)) ρ1→ev G e ρ k X)(H:0≤m)(h1:m≤1000)(d:k (ao 1 (m-1).toNat 1) ρ1):qS G (.eX (.cons (.p 1) (.cons e .nil))) ρ k X:=by
 apply h _;show(match dG [.int 1,.int m]with|some l=>k l ρ1|.none=>False);have e:dG [.int 1,.int m]=some (ao 1 (m-1).toNat 1):=by
  show(match vc 1 m with|true=>some (ao 1 (m-1).toNat 1)|false=>.none)=_;have e:vc 1 m=true:=by
   unfold vc;rw[decide_eq_true (by decide)];exact decide_eq_true (zl 0xafb614444e773f451d rfl H h1)
  rw[e]
 rw[e];exact d
theorem Fy(h:ev G (.comp j I c L) ρ (λr ρ=>G f [.j r.v] (λr _=>k r ρ) X) X):ev G (.call f (.cons (.comp j I c L) .nil)) ρ k X:=h
theorem Mu(h:ev G (.comp j I c L) ρ (λy ρ=>qn .nr (.bool b) y.v λc=>k c ρ) X):tr G (.D (.ag .nr (.cB b) (.comp j I c L))) ρ k X:=h
theorem He(h:ev G (.comp j I c L) ρ (λy ρ=>qn .eQ (.bool b) y.v λc=>k c ρ) X):tr G (.D (.ag .eQ (.cB b) (.comp j I c L))) ρ k X:=h
theorem vQ(h:ev G (.comp j I c L) ρ (λx ρ=>zJ x.v λv=>k (.j v) ρ) X):ev G (.b1 .len (.comp j I c L)) ρ k X:=h
theorem lC(H:Sub n G)(f:Nat.blt 86 n=true)(i:ip true I)(h:K (.j (.bool (hK I))) []):G 86 [.j (wv I)] K X:=by
 apply H.c 86 f _ _ _;cases I with
 |na=>exact pw h
 |lH=>exact mN h
 |nu p=>exact mN (i.1.num.na▸h)
theorem tn(H:∀I∈xs,ip true I)(L:xs.length≤1000)(M:m≤40)(h:Fp K (F3 xs m)):FF 88 [.j (.o (xs.map wv)),vi m] K X:=by
 refine cX 88 rfl rfl rfl λG g=> ?_;unfold F3 at h;refine ai (λ_ h=>h) (λq=> ?_) λq=> ?_
 ·rw[if_pos (of_decide_eq_true q)]at h;exact h
 rw[if_neg (of_decide_eq_false q)]at h;apply ae;refine aw (v:=.j (.o ((aI (dq xs)).map ah))) (ρ1:=[.j (.o (xs.map wv)),vi m,.y,.y,.y,.y,.y,.y,.y,.y,.y,.y]) (λk d=> ?_) (aa rfl) ?_
 ·refine Fy (j6 (ρ:=[.j (.o (xs.map wv)),vi m,.y,.y,.y,.y,.y,.y,.y,.y,.y,.y]) (λ_ h=>h) (by rw[length_map];exact zl 0x29d4ecdc00e2941515cf rfl L rfl) (aa rfl) t8 (λv=>v) ?_ (λv _ _ k d=>d _ rfl) ?_)
  ·intro v V k d
   obtain⟨I,i,rfl⟩:=mem_map.mp V;refine aU (λk d=>lC g rfl (H I i) d) (λq=> ?_) λq=> ?_
   ·cases I with
    |na=>cases q
    |lH=>cases q
    |nu p=>exact bO (λ_ h=>h) (λq=>by rw[show t8 (wv (.nu p))=true from q]at d;exact d) (λq=>by rw[show t8 (wv (.nu p))=false from q]at d;exact d)
   ·cases I with
    |na=>exact d
    |lH=>exact d
    |nu p=>cases q
  ·rw[D9]
   exact g.c 87 rfl _ _ _ (gD (λp P=>(H _ (cH P).1).1.num) (zl 0x30ed6130561d15cf rfl L (List.length_filterMap_le _ _)) d)
 have s:∀p∈aI (dq xs),Sm p∧0<p.2:=λp P=>by
  have:=(aZ (dq xs)).mem_iff.mp P;exact⟨(H _ (cH this).1).1,(cH this).2⟩
 generalize aI (dq xs)=l at h s;refine ai (λk d=>⟨af rfl,cY (Bq l []) d⟩) (λq=> ?_) λq=> ?_
 ·rw[of_decide_eq_true q]at h;exact h
 have q:=of_decide_eq_false q;cases l with
 |nil=>exact absurd rfl q
 |cons low r=>
  change Fp K (.inr (fe low ((low::r).getLast (cons_ne_nil _ _)) m))at h;generalize E:(low::r).getLast (cons_ne_nil _ _)=top at h;have Q:(low::r).getLast? =some top:=E▸List.getLast?_eq_some_getLast _;have h1:=s low (.head _);have h2:=s top (E▸List.getLast_mem _);refine ae (aw (λ_ h=>h) (aa rfl) ?_);refine aw (λk d=>az (gM (by rw[List.getLast?_map,Q];rfl)) d) (aa rfl) ?_;exact Dw g h1.1 h2.1 h1.2 h2.2 (by rename_i Z _;exact zl 21896238601 rfl (dF Z:)) M λa b ρ=>h
theorem ki(x:∀I∈xs,ip true I)(L:xs.length≤1000)(H:iW cut)(h:Fp K (brk xs cut)):FF 89 [.j (.o (xs.map wv)),.j (.o (cut.map wv))] K X:=by
 refine fE 89 rfl rfl λG g=> ?_;have Q:aA=1000000:=rfl;have C:=H.len;unfold brk at h;have T:∀{k:Bool→R→Prop}{ρ},k (decide (cut=[])) ρ→qn .eq (.o (cut.map wv)) (.o []) λc=>k c ρ:=by
  intro k ρ B;have hd:∀v∈cut,∃d,fg (wv v)=some d:=λv _=>by cases v<;>exact⟨_,rfl⟩
  have:∃D,bK fg (cut.map wv)=some D∧PyData.eqvAll D []=decide (cut=[]):=by
   clear H h C B;cases cut with
   |nil=>exact⟨[],rfl,rfl⟩
   |cons a l=>
    have:∃D,bK fg (l.map wv)=some D:=by
     clear hd;induction l with
     |nil=>exact⟨[],rfl⟩
     |cons b l W=>
      obtain⟨D,e⟩:=W;have J:∃d,fg (wv b)=some d:=by cases b<;>exact⟨_,rfl⟩
      obtain⟨d,J⟩:=J;exact⟨d::D,by show(match fg (wv b),bK fg (l.map wv)with|some d,some D=>some (d::D)|_,_=>.none)=_;rw[e,J]⟩
    obtain⟨D,e⟩:=this;obtain⟨d,J⟩:=hd a (.head _);refine⟨d::D,by show(match fg (wv a),bK fg (l.map wv)with|some d,some D=>some (d::D)|_,_=>.none)=_;rw[e,J],rfl⟩
  obtain⟨D,E,f⟩:=this;exact cY (rF E rfl) (by rw[f];exact B)
 have t:cut≠[]→true∉cut.map hK→∀S,ex G (.cons (.iff (.D (.ag .eq (.b1 .len (.d 1)) (.p 1))) (.cons (.ret (.call 88 (.cons (.d 0) (.cons (.w .fdiv (.sub (.sub (.d 1) (.p 0)) (.p 0)) (.sub (.sub (.d 1) (.p 0)) (.p 1))) .nil)))) .nil) .nil) (.cons (.C 2 (.call 87 (.cons (.d 1) .nil))) (.cons (.bU 3 (.eX (.cons (.p 1) (.cons (.b1 .len (.d 2)) .nil))) (.cons (.iff (.D (.ag .eq (.sub (.d 2) (.d 3)) (.sub (.d 2) (.w .sub (.d 3) (.p 1))))) (.cons (.ret (.M ⟨#[39,98,114,101,97,107,115,39,32,97,114,101,32,110,111,116,32,117,110,105,113,117,101]⟩)) .nil) .nil) .nil)) (.cons (.ret (.d 2)) .nil))))
  [.j (.o (xs.map wv)),.j (.o (cut.map wv)),.y,.y,S] (λρ=>K (.j .none) (ba [.j (.o (xs.map wv)),.j (.o (cut.map wv))] ρ)) (λ_=>False) (λr ρ=>K r (ba [.j (.o (xs.map wv)),.j (.o (cut.map wv))] ρ)) X:=by
  intro y u S;rw[if_neg (by rintro(z|z)<;>first|exact y z|exact u z)]at h;have P:=n4 λI M=>by
   cases q:hK I with
   |false=>rfl
   |true=>exact absurd (mem_map.mpr ⟨I,M,q⟩) u
  have vP:=H.vP;have O:=λp A=>(H.ok (.nu p) (by rw[P];exact List.mem_map.mpr ⟨p,A,rfl⟩)).1.num;have n:(DA cut).length≤100:=by rw[P,length_map]at C;exact C
  generalize DA cut=ps at P h O n;subst P;have U:(ps.map It.nu).map wv=ps.map ah:=by rw[map_map];rfl
  rw[U];refine ai (λ_ h=>h) (λq=> ?_) λq=> ?_
  ·have q:=sI q
   rw[length_map]at q;cases ps with
   |nil=>cases q
   |cons p r=>
   cases r with
   |nil=>
    obtain⟨E,f⟩:=vP p rfl;obtain⟨a,b⟩:=p;change b=1 at E;subst E;refine⟨(by decide:(1:Int)≠0),(by decide:(1:Int).natAbs<lJ),?_⟩;have Y:a.fdiv 1=a:=Int.fdiv_one a;rw[Y];exact g.c 88 rfl _ _ _ (tn x L f h)
   |cons b r=>exact absurd (Int.ofNat_inj.mp q) (λz=>nomatch Nat.succ.inj z)
  ·have q:=zL q
   rw[length_map]at q;have hb:Fp K (if Dj (aI ps)=true then .inl mU else .inr (aI ps)):=by
    cases ps with
    |nil=>exact h
    |cons p r=>
    cases r with
    |nil=>exact absurd rfl q
    |cons b r=>exact h
   refine ae (aw (λk B=>g.c 87 rfl _ _ _ (gD O (zl 0xa47fbebbb1cf rfl n) B)) (aa rfl) ?_);have sl:(aI ps).length≤100:=by rw[(aZ ps).length_eq];exact n
   generalize aI ps=l at hb sl;refine cU (items:=ao 1 ((l.length:Int)-1).toNat 1) (λk B=> ?_) (λj ρ=>(∃s,fu s∧ρ=[.j (.o (xs.map wv)),.j (.o (ps.map ah)),.j (.o (l.map ah)),s,S])∧∀i a,i<j→l[i]? =some a→l[i+1]? =some a→False) ⟨⟨.y,.inl rfl,rfl⟩,λi a h=>(zl 665066 rfl h).elim⟩ ?_ ?_
   ·refine I4 (m:=((l.map ah).length:Int)) ?_ (zm 92741 rfl _) (by rw[List.length_map];exact zl 5787793469190607 rfl sl) (by rw[List.length_map];exact B)
    exactλ_ h=>h
   ·rintro j v ρ e ⟨⟨s,h3,rfl⟩,N⟩
    refine⟨aq rfl h3,λt o=> ?_⟩;obtain⟨Z,rfl⟩:j<l.length-1∧v=.int (1+1*(j:Int)):=by
     unfold ao at e;rw[getElem?_map]at e;obtain⟨j',E,rfl⟩:=Option.map_eq_some_iff.mp e;obtain⟨h1,h2⟩:=List.getElem?_eq_some_iff.mp E;simp at h1 h2;subst h2;exact⟨zl 25950140843402 rfl h1,rfl⟩
    have F:l[j]? =some l[j]:=by simp[show j<l.length from zl 23762126218 rfl Z]
    have E:l[j+1]? =some l[j+1]:=by simp[show j+1<l.length from zl 24675297543562 rfl Z]
    generalize l[j]=a at F;generalize l[j+1]=b at E;refine ai (b:=decide (b=a)) (ρ':=[.j (.o (xs.map wv)),.j (.o (ps.map ah)),.j (.o (l.map ah)),vi (1+1*(j:Int)),S]) (λk B=> ?_) (λq=> ?_) λq=> ?_
    ·refine az (cm (zm 97271049733 rfl _) (by rw[show(1+1*(j:Int)).toNat=j+1 from zm 0x43616a5ce6db2 rfl _,getElem?_map,E];rfl)) ?_
     refine az (cm (zm 0x86d4b9cdb0c5 rfl _) (by rw[show(1+1*(j:Int)-1).toNat=j from zm 825547371163762 rfl _,getElem?_map,F];rfl)) ?_;exact cY (congrArg some (wj b a)) B
    ·have q:=of_decide_eq_true q
     subst q;rw[if_pos (kZ.mpr ⟨j,b,F,E⟩)]at hb;exact hb
    ·have q:=of_decide_eq_false q
     refine ae (ae (o _ ⟨⟨_,.inr ⟨_,rfl⟩,rfl⟩,λi c M h1 h2=> ?_⟩))
     by_cases z:i=j
     ·subst z;rw[F]at h1;rw[E]at h2;cases h1;cases h2;exact q rfl
     ·exact N i c (zl 0x4f1d2d4a6e3dfa rfl M z) h1 h2
   ·rintro ρ ⟨⟨s,h3,rfl⟩,N⟩
    rw[if_neg]at hb
    ·exact hb
    ·intro z
     obtain⟨i,a,h1,h2⟩:=kZ.mp z;have:=(List.getElem?_eq_some_iff.mp h2).1;refine N i a ?_ h1 h2;simp[ao];exact zl 25950139074987 rfl this
 refine ik (d8 (λk B=>⟨af rfl,T B⟩) (λq=> ?_) λq=> ?_)
 ·rw[if_pos (.inl (of_decide_eq_true q))]at h;exact h
 refine gz (b:=decide (true∈cut.map hK)) (ρ':=[.j (.o (xs.map wv)),.j (.o (cut.map wv)),.y,.y,.y]) (λk B=> ?_) (λq=> ?_) λq=> ?_
 ·refine Mu (fC (λ_ h=>h) (by rw[length_map];exact zl 0x27ab66bdf6b19419da55 rfl Q C) (aa rfl) (λv=>.bool (match v with|.none=>true|.L [.int a,.int b]=>decide (a=0∧b=0)|_=>false)) ?_ ?_)
  ·intro v w k B
   obtain⟨I,M,rfl⟩:=mem_map.mp w;refine lC g rfl (H.ok I M) (B _ ?_);cases I with
   |na=>rfl
   |lH=>rfl
   |nu p=>exact congrArg V.bool (H.ok _ M).1.num.na.symm
  ·have e:(cut.map wv).map (λv=>V.bool (match v with|.none=>true|.L [.int a,.int b]=>decide (a=0∧b=0)|_=>false))=(cut.map hK).map V.bool:=by
    rw[map_map,map_map];refine map_congr_left λI M=> ?_;cases I with
    |na=>rfl
    |lH=>rfl
    |nu p=>exact congrArg V.bool (H.ok _ M).1.num.na
   rw[e];exact HF (uu true _) B
 ·rw[if_pos (.inr (of_decide_eq_true q))]at h;exact h
 ·exact ae (t (of_decide_eq_false ‹_›) (of_decide_eq_false q) _)
structure Tx(n:Nat)(s:Str):Prop where
 len:s.cps.toList.length≤n
 ok:∀c∈s.cps.toList,c<0x110000
theorem Tx.strOk(h:Tx n s):PyData.strOk s=true:=by
 show s.cps.all (·<0x110000)=true;rw[←Array.all_toList,all_eq_true];exactλc H=>decide_eq_true (h.ok c H)
theorem Tx.size(h:Tx n s):s.length≤n:=by
 have:=h.len;rw[Array.length_toList]at this;exact this
theorem Tx.le(h:Tx n s)(l:n≤m):Tx m s:=⟨Nat.le_trans h.len l,h.ok⟩
theorem cV(a b:Str):(a++b).cps.toList=a.cps.toList++b.cps.toList:=by
 show(a.cps++b.cps).toList=_;rw[Array.toList_append]
theorem Tx.add(h1:Tx n a)(h2:Tx m b):Tx (n+m) (a++b):=by
 constructor
 ·rw[cV,List.length_append];have:=h1.len;have:=h2.len;exact zl 0x6375a0833ffc5077 rfl ‹_› this
 ·intro c H
  rw[cV]at H;rcases mem_append.mp H with h|h
  ·exact h1.ok c h
  ·exact h2.ok c h
theorem Bv(s):(ofString s).cps.toList=s.toList.map Char.toNat:=by rw[ofString_eq_toList]
theorem FD(c:Char):c.toNat<0x110000:=by
 have h:=c.valid;have e:c.toNat=c.val.toNat:=rfl;rcases h with h|⟨_,h⟩<;>(first|exact zl 0x591512f5af1acd670f6decd rfl e h|exact zl 0xb22a25eb5e11dc1138741ecd rfl e h)
theorem jT(H:0<k)(h:n.natAbs<10^k):Tx (k+1) (aG n):=by
 constructor
 ·show(ofString (toString n)).cps.toList.length≤_
  rw[Bv,length_map];exact int_text_length_le10 H h
 ·intro c C
  change c∈(ofString (toString n)).cps.toList at C;rw[Bv]at C;obtain⟨K,_,rfl⟩:=mem_map.mp C;exact FD K
noncomputable def Lx:Str:=⟨#[73,110,102]⟩
noncomputable def F4:Str:=⟨#[45,73,110,102]⟩
noncomputable def a5(p:PR):Str:=if p.2=0 then(if 0<p.1 then Lx else F4)else aG p.1
theorem oH(h:aM p):Tx 30 (a5 p):=by
 unfold a5;split
 ·split
  ·exact⟨by decide,by decide⟩
  ·exact⟨by decide,by decide⟩
 ·have e:JD=2^64:=rfl
  have:=h.h1;exact(jT (by decide) (zl 0xc068978e6a0cc773 rfl this)).le (by decide)
theorem mM(H:aM p)(h:K (.j (.str (a5 p))) []):FF 91 [.j (ah p)] K X:=by
 refine fE 91 rfl rfl λG g=> ?_;unfold a5 at h;refine ai (λ_ h=>h) (λq=> ?_) λq=> ?_
 ·rw[if_pos (sI q)]at h
  refine iJ (bx (λ_ h=>h) (λq=> ?_) λq=> ?_)
  ·rw[if_pos (of_decide_eq_true q)]at h;exact h
  ·rw[if_neg (of_decide_eq_false q)]at h;exact h
 ·rw[if_neg (zL q)]at h
  have l:JD≤lJ:=by decide
  exact⟨Nat.lt_of_lt_of_le H.h1 l,h⟩
noncomputable def nk(right closed:Bool)(m:Nat)(i:Nat)(a b:Str):Str:=
 (if right=true∧¬(closed=true∧i=0)then⟨#[40]⟩else⟨#[91]⟩)++a++⟨#[44]⟩++b++(if right=true∨(closed=true∧i+2=m)then⟨#[93]⟩else⟨#[41]⟩)
noncomputable def bH(right closed:Bool)(ts:List Str):List Str:=(range (ts.length-1)).map λi=>nk right closed ts.length i (ts.getD i ⟨#[]⟩) (ts.getD (i+1) ⟨#[]⟩)
theorem bu(c)(h:c<0x110000):Tx 1 ⟨#[c]⟩:=⟨Nat.le_refl _,λx H=>by
 have:x=c:=by simpa using H
 exact zl 0xb22a25eb67adffba400a534a rfl h this⟩
theorem Jf(h1:Tx n a)(h2:Tx n b):Tx (2*n+3) (nk right closed m i a b):=by
 unfold nk;have:=((((show Tx 1 (if right=true∧¬(closed=true∧i=0)then⟨#[40]⟩else⟨#[91]⟩)by split<;>exact bu _ (by decide)).add h1).add (bu 44 (by decide))).add h2).add (show Tx 1 (if right=true∨(closed=true∧i+2=m)then⟨#[93]⟩else⟨#[41]⟩)by split<;>exact bu _ (by decide));exact this.le (zm 0x123e95e1bbbbb5ad6e rfl _)
theorem sU(h1:Tx n a)(h2:Tx m b)(h:Nat.ble (n+m) 100000=true):a.length+b.length≤aA:=Nat.le_trans (add_le_add h1.size h2.size) (Nat.le_trans (le_of_ble_eq_true h) (by decide))
theorem sJ{bs:List PR}(hb:∀p∈bs,aM p)(H:bs.length≤100)(h:K (.j (.o ((bH right closed (bs.map a5)).map V.str))) []):FF 92 [.j (.o (bs.map ah)),.j (.bool right),.j (.bool closed)] K X:=by
 refine cX 92 rfl rfl rfl λG g=> ?_;have P:aA=1000000:=rfl
 by_cases Z:bs=[]
 ·subst Z
  exact⟨af rfl,h⟩
 have Q:0<bs.length:=List.length_pos_iff.mpr Z;refine aw (λ_ h=>⟨af rfl,h⟩) (aa rfl) ?_;refine cU (items:=ao 0 ((bs.length:Int)-1).toNat 1) (λk d=> ?_) (λj ρ=>∃B s S,fu B∧fu s∧fu S∧ρ=[.j (.o (bs.map ah)),.j (.bool right),.j (.bool closed),.U (((bH right closed (bs.map a5)).take j).map V.str),B,s,S]) ⟨.y,.y,.y,.inl rfl,.inl rfl,.inl rfl,rfl⟩ ?_ ?_
 ·refine hZ (m:=((bs.map ah).length:Int)-1) ?_ (by rw[length_map];exact zl 4379253220425 rfl Q) (by rw[List.length_map];exact zl 0x2db170b3f113b1cf rfl H) (by rw[List.length_map];exact d)
  exactλ_ h=>h
 ·rintro j v ρ e ⟨B,s,S,h4,h5,h6,rfl⟩
  refine⟨aq rfl h4,λf r=> ?_⟩;obtain⟨J,rfl⟩:j+1<bs.length∧v=.int (0+1*j):=by
   unfold ao at e;rw[getElem?_map]at e;obtain⟨N,E,rfl⟩:=Option.map_eq_some_iff.mp e;obtain⟨h1,h2⟩:=List.getElem?_eq_some_iff.mp E;simp at h1 h2;subst h2;exact⟨zl 24675297543562 rfl h1,rfl⟩
  have F:bs[j]? =some bs[j]:=by simp[show j<bs.length from zl 23760357803 rfl J]
  have E:bs[j+1]? =some bs[j+1]:=by simp[J]
  have m0:=hb _ (mem_of_getElem? F);have m1:=hb _ (mem_of_getElem? E);generalize bs[j]=a at F m0;generalize bs[j+1]=b at E m1;have W:(bH right closed (bs.map a5))[j]? =some (nk right closed bs.length j (a5 a) (a5 b)):=by
   unfold bH;rw[getElem?_map,length_map,getElem?_range (by exact zl 25950139074987 rfl J)];simp[F,E,List.getD_eq_getElem?_getD]
  have R:map V.str ((bH right closed (bs.map a5)).take (j+1))=map V.str ((bH right closed (bs.map a5)).take j)++[.str (nk right closed bs.length j (a5 a) (a5 b))]:=by
   rw[take_add_one,W,map_append];rfl
  have lt:(map V.str ((bH right closed (bs.map a5)).take j)).length<aA:=by
   rw[length_map,length_take];exact zl 0x5da4368ac44037c5c00e2926bb1cf rfl H P J
  generalize map V.str ((bH right closed (bs.map a5)).take j)=tk at R lt;rw[R]at r;generalize y:(0+1*(j:Int))=N at r;have I:N=(j:Int):=zl 0x922b4f58fed775 rfl y;subst I;unfold nk at r;refine aw (v:=.j (.str (if right=true∧¬(closed=true∧j=0)then⟨#[40]⟩else⟨#[91]⟩:Str))) (ρ1:=[.j (.o (bs.map ah)),.j (.bool right),.j (.bool closed),.U tk,vi j,s,S]) (λk d=> ?_) (aq rfl h5) ?_
  ·refine bx (c:=decide (right=true∧¬(closed=true∧j=0))) (ρ':=[.j (.o (bs.map ah)),.j (.bool right),.j (.bool closed),.U tk,vi j,s,S]) (λk d=> ?_) (λq=> ?_) λq=> ?_
   ·refine aU (λ_ h=>h) (λq=> ?_) λq=> ?_
    ·subst q
     refine bO (b:= !(decide (closed=true∧j=0))) (ρ':=[.j (.o (bs.map ah)),.j (.bool true),.j (.bool closed),.U tk,vi j,s,S]) (λk d=> ?_) (λq=> ?_) λq=> ?_
     ·refine aU (λ_ h=>h) (λq=> ?_) λq=> ?_
      ·subst q
       refine bO (λ_ h=>h) (λq=> ?_) λq=> ?_
       ·have:j=0:=by have:=of_decide_eq_true q;exact zl 4105157227 rfl (dT q:)
        subst this;exact d
       ·have:j≠0:=by have:=of_decide_eq_false q;exact zl 79768832344735 rfl (dF q:)
        simp[this]at d;exact d
      ·subst q;exact d
     ·have:=of_decide_eq_false ((Bool.not_eq_true' _).mp q)
      rw[decide_eq_true ⟨rfl,this⟩]at d;exact d
     ·have:=of_decide_eq_true ((Bool.not_eq_false' _).mp q)
      rw[decide_eq_false (λz=>z.2 this)]at d;exact d
    ·subst q
     rw[decide_eq_false (λz=>by cases z.1)]at d;exact d
   ·rw[if_pos (of_decide_eq_true q)]at d;exact d
   ·rw[if_neg (of_decide_eq_false q)]at d;exact d
  refine aw (v:=.j (.str (if right=true∨(closed=true∧j+2=bs.length)then⟨#[93]⟩else⟨#[41]⟩:Str))) (ρ1:=[.j (.o (bs.map ah)),.j (.bool right),.j (.bool closed),.U tk,vi j,.j (.str (if right=true∧¬(closed=true∧j=0)then⟨#[40]⟩else⟨#[91]⟩:Str)),S]) (λk d=> ?_) (aq rfl h6) ?_
  ·refine bx (c:=decide (right=true∨(closed=true∧j+2=bs.length))) (ρ':=[.j (.o (bs.map ah)),.j (.bool right),.j (.bool closed),.U tk,vi j,.j (.str (if right=true∧¬(closed=true∧j=0)then⟨#[40]⟩else⟨#[91]⟩:Str)),S]) (λk d=> ?_) (λq=> ?_) λq=> ?_
   ·refine d8 (λ_ h=>h) (λq=> ?_) λq=> ?_
    ·subst q
     rw[decide_eq_true (.inl rfl)]at d;exact d
    ·subst q
     refine aU (λ_ h=>h) (λq=> ?_) λq=> ?_
     ·subst q
      refine bO (λ_ h=>h) (λq=> ?_) λq=> ?_
      ·have:j+2=bs.length:=by have:=of_decide_eq_true q;rw[length_map]at this;exact zl 0x59ee4363934e6b rfl this
       rw[decide_eq_true (.inr ⟨rfl,this⟩)]at d;exact d
      ·have:j+2≠bs.length:=by have:=of_decide_eq_false q;rw[length_map]at this;exact zl 0x16f1f1d0abd7545e9f rfl this
       rw[decide_eq_false (by rintro(z|z);cases z;exact this z.2)]at d;exact d
     ·subst q
      rw[decide_eq_false (by rintro(z|z);cases z;cases z.1)]at d;exact d
   ·rw[if_pos (of_decide_eq_true q)]at d;exact d
   ·rw[if_neg (of_decide_eq_false q)]at d;exact d
  have T:Tx 1 (if right=true∧¬(closed=true∧j=0)then⟨#[40]⟩else⟨#[91]⟩:Str):=by split<;>exact bu _ (by decide)
  have t:Tx 1 (if right=true∨(closed=true∧j+2=bs.length)then⟨#[93]⟩else⟨#[41]⟩:Str):=by split<;>exact bu _ (by decide)
  generalize(if right=true∧¬(closed=true∧j=0)then⟨#[40]⟩else⟨#[91]⟩:Str)=hd at T r;generalize(if right=true∨(closed=true∧j+2=bs.length)then⟨#[93]⟩else⟨#[41]⟩:Str)=tl at t r;have x:=oH m0;have L:=oH m1;refine eV (ρ1:=[.j (.o (bs.map ah)),.j (.bool right),.j (.bool closed),.U tk,vi j,.j (.str hd),.j (.str tl)]) (v:=.j (.str (hd++a5 a++⟨#[44]⟩++a5 b++tl))) rfl (λk d=> ?_) rfl lt ?_
  ·refine az (aC (by rw[getElem?_map,F];rfl)) (g.c 91 rfl _ _ _ (mM m0 ?_))
   refine⟨sU T x rfl,?_⟩;refine⟨sU (T.add x) (bu 44 (by decide)) rfl,?_⟩;refine az (cm (zm 141374981 rfl _) (by rw[show((j:Int)+1).toNat=j+1 from zm 1157635061170 rfl _,getElem?_map,E];rfl)) (g.c 91 rfl _ _ _ (mM m1 ?_));refine⟨sU ((T.add x).add (bu 44 (by decide))) L rfl,?_⟩;exact⟨sU (((T.add x).add (bu 44 (by decide))).add L) t rfl,d⟩
  ·exact r _ ⟨_,_,_,.inr ⟨_,rfl⟩,.inr ⟨_,rfl⟩,.inr ⟨_,rfl⟩,rfl⟩
 ·rintro ρ ⟨B,s,S,h4,h5,h6,rfl⟩
  have e:(bH right closed (bs.map a5)).take (ao 0 ((bs.length:Int)-1).toNat 1).length=bH right closed (bs.map a5):=by
   refine take_of_length_le ?_;unfold bH ao;simp
  rw[e];exact h
noncomputable abbrev ed(l:List PR):Prop:=l.Pairwise λp q=>aK p q<0
theorem AP{bs:List PR}(h:bs.Pairwise (λa b=>P b=true→P a=true)):∀i b,bs[i]? =some b→(P b=true↔i<(bs.filter P).length):=by
 induction bs with
 |nil=>intro i b e;simp at e
 |cons a l I=>
  intro i b e;obtain⟨h1,h2⟩:=pairwise_cons.mp h;rw[filter_cons];cases q:P a with
  |true=>
   rw[if_pos rfl,length_cons];cases i with
   |zero=>
    have:a=b:=by simpa using e
    subst this;exact⟨λ_=>succ_pos _,λ_=>q⟩
   |succ i=>
    have:=I h2 i b (by simpa using e);rw[this];exact zm 25949080030597 rfl ..
  |false=>
   have no:∀c∈a::l,P c=false:=λc H=>by
    rcases mem_cons.mp H with rfl|H
    ·exact q
    ·cases z:P c with
     |false=>rfl
     |true=>rw[h1 c H z]at q;cases q
   rw[if_neg (by decide)];have E:l.filter P=[]:=List.filter_eq_nil_iff.mpr λc H=>by rw[no c (.tail _ H)];decide
   rw[E,no b (mem_of_getElem? e)];simp
noncomputable def under(right:Bool)(x:PR)(b:PR):Bool:=decide (aK b x<(if right=true then 0 else 1))
noncomputable def DF(bs:List PR)(right closed:Bool)(x:PR):V:=if closed=true∧right=true∧bs.head? =some x then .int 1 else if closed=true∧right=false∧bs.getLast? =some x then .int (bs.length-1)else
 if 1≤(bs.filter (under right x)).length∧(bs.filter (under right x)).length<bs.length then .int ((bs.filter (under right x)).length)else .none
noncomputable def iD(bs:List PR)(right closed:Bool):It→V
|.nu x=>DF bs right closed x
|_=>.none
theorem PZ(H:∀k,k (.j (.int i)) ρ→ev G a ρ k X)(hb:∀k,k (.j (.int j)) ρ→ev G b ρ k X)(C:∀k,k (.j (.int n)) ρ→ev G c ρ k X)(h:k (decide (i≤j)&&decide (j<n)) ρ):tr G (.D (.ny .le .lt a b c)) ρ k X:=by
 refine H _ (hb _ ?_);cases q:decide (i≤j)with
 |false=>
  rw[q]at h;show(match decide (i≤j)with|true=>_|false=>k false ρ);rw[q];exact h
 |true=>
  rw[q]at h;show(match decide (i≤j)with|true=>_|false=>k false ρ);rw[q];exact C _ h
theorem CZ(p q):vF (ah p) (ah q)=some (decide (p=q)):=congrArg some (wj p q)
theorem vR(H:ip true I)(hb:∀p∈bs,aM p)(L:bs.length≤100)(h1:bs≠[])(h:K (.j (iD bs right closed I)) []):FF 90 [.j (wv I),.j (.o (bs.map ah)),.j (.bool right),.j (.bool closed)] K X:=by
 refine fE 90 rfl rfl λG g=> ?_;have P:aA=1000000:=rfl;refine ai (λk d=>lC g rfl H d) (λq=> ?_) λq=> ?_
 ·cases I with
  |nu p=>cases q
  |na=>exact h
  |lH=>exact h
 cases I with
 |na=>cases q
 |lH=>cases q
 |nu x=>
  change K (.j (DF bs right closed x)) []at h;unfold DF at h;have p3:¬(closed=true∧right=true∧bs.head? =some x)→¬(closed=true∧right=false∧bs.getLast? =some x)→∀S,fu S→ex G (.cons (.C 4 (.b1 .len (.comp 5 (.D (.d 1)) (.D (.D (.ag .lt (.call 85 (.cons (.d 5) (.cons (.d 0) .nil))) (.ite (.D (.d 2)) (.p 0) (.p 1))))) (.d 5)))) (.cons (.ret (.ite (.D (.ny .le .lt (.p 1) (.d 4) (.b1 .len (.d 1)))) (.d 4) .X)) .nil))
   [.j (ah x),.j (.o (bs.map ah)),.j (.bool right),.j (.bool closed),.y,S] (λρ=>K (.j .none) (ba [.j (ah x),.j (.o (bs.map ah)),.j (.bool right),.j (.bool closed)] ρ)) (λ_=>False) (λr ρ=>K r (ba [.j (ah x),.j (.o (bs.map ah)),.j (.bool right),.j (.bool closed)] ρ)) X:=by
   intro N n S h5;rw[if_neg N,if_neg n]at h;refine aw (v:=.j (.int (bs.filter (under right x)).length)) (ρ1:=[.j (ah x),.j (.o (bs.map ah)),.j (.bool right),.j (.bool closed),.y,.y]) (λk d=> ?_) (aa rfl) ?_
   ·refine vQ (j6 (λ_ h=>h) (by rw[length_map];exact zl 0x29d4ecdc00e2926bb1cf rfl L P) (aq rfl h5) (λv=>match v with|.L [.int a,.int b]=>under right x (a,b)|_=>false) (λv=>v) ?_ (λv _ _ k d=>d _ rfl) ?_)
    ·intro v R k d
     obtain⟨b,m,rfl⟩:=mem_map.mp R;refine g.c 85 rfl _ _ _ (iv (hb b m) H.1.num ?_);refine bx (λ_ h=>h) (λq=> ?_) λq=> ?_
     ·subst q;exact d
     ·subst q;exact d
    ·have e:(((bs.map ah).filter λv=>match v with|.L [.int a,.int b]=>under right x (a,b)|_=>false).map λv=>v).length=(bs.filter (under right x)).length:=by
      rw[length_map,filter_map,length_map];rfl
     show k (.j (.int (((_:List V).length:Nat):Int))) _;rw[e];exact d
   ·generalize(bs.filter (under right x)).length=u at h
    refine iJ (bx (λk=>PZ (λ_ h=>h) (λ_ h=>h) (λ_ h=>h)) (λq=> ?_) λq=> ?_)
    ·rw[Bool.and_eq_true]at q
     have A:=of_decide_eq_true q.2;rw[length_map]at A;rw[if_pos ⟨zl 2979672559 rfl (dT q.1:),zl 23760048736 rfl A⟩]at h;exact h
    ·rw[if_neg]at h
     ·exact h
     ·intro z
      rw[Bool.and_eq_false_iff]at q;rcases q with q|q
      ·have:=of_decide_eq_false q;exact zl 81407309282096 rfl z.1 (dF q:)
      ·have:=of_decide_eq_false q;rw[length_map]at this;exact zl 408187517994306 rfl z.2 this
  obtain⟨B,t,W⟩:∃B t,bs=B::t:=by cases bs with|nil=>exact absurd rfl h1|cons a l=>exact⟨a,l,rfl⟩
  have M:bs.head? =some B:=by rw[W];rfl
  have T:(bs.map ah)[0]? =some (ah B):=by rw[W];rfl
  obtain⟨bl,E⟩:∃bl,bs.getLast? =some bl:=⟨_,getLast?_eq_some_getLast h1⟩;have J:(bs.map ah).getLast? =some (ah bl):=by rw[getLast?_map,E];rfl
  have p2:¬(closed=true∧right=true∧bs.head? =some x)→ex G (.cons (.iff (.Q (.cons (.D (.d 3)) (.cons (.fL (.D (.d 2))) (.cons (.D (.ag .eq (.d 0) (.sub (.d 1) (.neg (.p 1))))) .nil)))) (.cons (.ret (.w .sub (.b1 .len (.d 1)) (.p 1))) .nil) .nil) (.cons (.C 4 (.b1 .len (.comp 5 (.D (.d 1)) (.D (.D (.ag .lt (.call 85 (.cons (.d 5) (.cons (.d 0) .nil))) (.ite (.D (.d 2)) (.p 0) (.p 1))))) (.d 5)))) (.cons (.ret (.ite (.D (.ny .le .lt (.p 1) (.d 4) (.b1 .len (.d 1)))) (.d 4) .X)) .nil)))
   [.j (ah x),.j (.o (bs.map ah)),.j (.bool right),.j (.bool closed),.y,.y] (λρ=>K (.j .none) (ba [.j (ah x),.j (.o (bs.map ah)),.j (.bool right),.j (.bool closed)] ρ)) (λ_=>False) (λr ρ=>K r (ba [.j (ah x),.j (.o (bs.map ah)),.j (.bool right),.j (.bool closed)] ρ)) X:=by
   intro N;refine ik (aU (λ_ h=>h) (λq=> ?_) λq=>ae (p3 N (by rintro⟨z,_⟩;rw[q]at z;cases z) _ (.inl rfl)));refine aU (λ_ h=>h) (λQ=> ?_) λQ=>ae (p3 N (by rintro⟨_,z,_⟩;rw[z]at Q;cases Q) _ (.inl rfl));refine bO (λk d=>az (gM J) (cY (CZ x bl) d)) (λC=> ?_) λC=>ae (p3 N (by rintro⟨_,_,z⟩;rw[E]at z;cases z;exact of_decide_eq_false C rfl) _ (.inl rfl));rw[if_neg N,if_pos ⟨q,by simpa using Q,by rw[E,of_decide_eq_true C]⟩]at h;show K (.j (.int (((bs.map ah).length:Nat)-1))) _;rw[length_map];exact h
  refine ae (ik (aU (λ_ h=>h) (λq=> ?_) λq=>ae (p2 (by rintro⟨z,_⟩;rw[q]at z;cases z))));refine aU (λ_ h=>h) (λQ=> ?_) λQ=>ae (p2 (by rintro⟨_,z,_⟩;rw[Q]at z;cases z));refine bO (λk d=>az (aC T) (cY (CZ x B) d)) (λC=> ?_) λC=>ae (p2 (by rintro⟨_,_,z⟩;rw[M]at z;cases z;exact of_decide_eq_false C rfl));rw[if_pos ⟨q,Q,by rw[M,of_decide_eq_true C]⟩]at h;exact h
theorem lg(h1:∀k,k b1 ρ→tr G e ρ k X)(h2:b1=true→∀k,k b2 ρ→tr G (.Q es) ρ k X):∀k,k (b1&&b2) ρ→tr G (.Q (.cons e es)) ρ k X:=λk H=>aU h1 (λq=>h2 q k (by rw[q]at H;exact H)) λq=>by rw[q]at H;exact H
theorem pG(h1:∀k,k b1 ρ→tr G e ρ k X):∀k,k b1 ρ→tr G (.Q (.cons e .nil)) ρ k X:=λk H=>bO h1 (λq=>by rw[q]at H;exact H) λq=>by rw[q]at H;exact H
theorem D2(h1:∀k,k b1 ρ→tr G e ρ k X)(h2:b1=false→∀k,k b2 ρ→tr G (.cD es) ρ k X):∀k,k (b1||b2) ρ→tr G (.cD (.cons e es)) ρ k X:=λk H=>d8 h1 (λq=>by rw[q]at H;exact H) λq=>h2 q k (by rw[q]at H;exact H)
theorem yZ(h1:∀k,k b1 ρ→tr G e ρ k X):∀k,k b1 ρ→tr G (.cD (.cons e .nil)) ρ k X:=λk H=>gz h1 (λq=>by rw[q]at H;exact H) λq=>by rw[q]at H;exact H
theorem lF(H:aM p)(Q:aM q)(y:aM r)(h1:aK p q<0)(h2:aK q r≤0):aK p r<0:=by
 by_cases z:aK p r=0
 ·have:=(iG H y).mp z
  have e:=Prod.ext this.1 this.2;subst e;rw[bQ]at h2;exact zl 732959217076169 rfl h1 h2
 ·exact zl 807360907463358 rfl (cT H Q y (zl 215359689 rfl h1) h2) z
noncomputable def ic(right closed:Bool)(n j:Nat)(lo H:Int):Prop:=(right=true∧(0<lo∨(closed=true∧j=0∧lo=0))∧H≤0)∨(right=false∧0≤lo∧(H<0∨(closed=true∧j+2=n∧H=0)))
theorem f9(hb:∀p∈bs,aM p)(H:ed bs){i j:Nat}(h:i<j)(g:bs[i]? =some a)(f:bs[j]? =some b):aK a b<0:=by
 obtain⟨h1,rfl⟩:=List.getElem?_eq_some_iff.mp g;obtain⟨h2,rfl⟩:=List.getElem?_eq_some_iff.mp f;exact pairwise_iff_getElem.mp H i j h1 h2 h
theorem jh(H:aM x)(hb:∀p∈bs,aM p)(D:ed bs)(e:bs[i]? =some b):(aK b x<(if right=true then 0 else 1)↔i<(bs.filter (under right x)).length):=by
 rw[←AP ?_ i b e]
 ·exact(decide_eq_true_iff).symm
 ·refine Pairwise.imp_of_mem ?_ D
  intro p q P Q h z;have z:=of_decide_eq_true z;apply decide_eq_true;have:=cT (hb p P) (hb q Q) H (zl 215359689 rfl h)
  by_cases r:right=true
  ·rw[if_pos r]at z⊢;exact lF (hb p P) (hb q Q) H h (zl 215359689 rfl z)
  ·rw[if_neg r]at z⊢;have:=this (zl 215361625 rfl z);exact zl 0x9eb40665190f059 rfl z ‹_›
theorem zf(H:aM x)(hb:∀p∈bs,aM p)(D:ed bs)(g:bs[j]? =some a)(f:bs[j+1]? =some b)(h:ic right closed bs.length j (aK x a) (aK x b)):DF bs right closed x=.int (j+1):=by
 have u1:=jh (right:=right) H hb D g;have U:=jh (right:=right) H hb D f;have s:=bQ x a;have S:=bQ x b;have L:=(List.getElem?_eq_some_iff.mp f).1;unfold DF;rcases h with⟨rfl,h1,h2⟩|⟨rfl,h1,h2⟩
 ·rw[if_pos rfl]at u1 U
  rcases h1 with h1|⟨rfl,rfl,h1⟩
  ·have E:(bs.filter (under true x)).length=j+1:=zl 0xb15b59972780d861563667995c9cb844bb8f3b7a2f5424 rfl s S u1 U h2 h1
   rw[if_neg,if_neg,E,if_pos ⟨zm 4416030 rfl _,L⟩]
   ·rfl
   ·rintro⟨_,z,_⟩;cases z
   ·rintro⟨_,_,z⟩
    have z:bs[0]? =some x:=List.head?_eq_getElem? ▸z
    by_cases q:j=0
    ·subst q;rw[g]at z;cases z;rw[cF]at h1;exact zl 1298952 rfl h1
    ·have:=f9 hb D (zl 11191634317 rfl q) z g;exact zl 31154702376 rfl h1 this
  ·have:x=a:=by
    have:=(iG H (hb a (mem_of_getElem? g))).mp h1;exact Prod.ext this.1 this.2
   subst this;rw[if_pos ⟨rfl,rfl,List.head?_eq_getElem? ▸g⟩];rfl
 ·rw[if_neg (by decide)]at u1 U
  rw[if_neg (by rintro⟨_,z,_⟩;cases z)];have G:bs.getLast? =bs[bs.length-1]? :=getLast?_eq_getElem?;rcases h2 with h2|⟨rfl,h3,h2⟩
  ·have E:(bs.filter (under false x)).length=j+1:=zl 0xb15b59972e9dfecd49734bf8ad40857786ba73da2f5424 rfl s S u1 U h1 h2
   rw[if_neg,E,if_pos ⟨zm 4416030 rfl _,L⟩]
   ·rfl
   ·rintro⟨_,_,z⟩
    rw[G]at z
    by_cases q:j+1=bs.length-1
    ·rw[q]at f;rw[f]at z;cases z;rw[cF]at h2;exact zl 1298952 rfl h2
    ·have:=f9 hb D (zl 0x545d23fb19cf6beca03e49ab rfl L q) f z;exact zl 0x532e7b66142c24 rfl S h2 this
  ·have:x=b:=by
    have:=(iG H (hb b (mem_of_getElem? f))).mp h2;exact Prod.ext this.1 this.2
   subst this;rw[if_pos ⟨rfl,rfl,by rw[G,show bs.length-1=j+1 from zl 0x5e3d6021dd3bb6 rfl h3];exact f⟩];congr 1;exact zl 0x17903d28695523bb6 rfl h3
theorem Ct(Q:aM x)(hb:∀p∈bs,aM p)(H:ed bs)(h2:2≤bs.length)(h:∀j a b,bs[j]? =some a→bs[j+1]? =some b→¬ic right closed bs.length j (aK x a) (aK x b)):DF bs right closed x=.none:=by
 have gt:∀{i:Nat},i<bs.length→∃a,bs[i]? =some a:=λ{i}I=>⟨bs[i],by simp[I]⟩;unfold DF;rw[if_neg,if_neg,if_neg]
 ·rintro⟨Z,B⟩
  obtain⟨a,E⟩:=gt (i:=(bs.filter (under right x)).length-1) (zl 24097138434 rfl B);obtain⟨b,f⟩:=gt (i:=(bs.filter (under right x)).length-1+1) (zl 0xa9cc7fd2caa7a30 rfl Z B);have u1:=jh (right:=right) Q hb H E;have U:=jh (right:=right) Q hb H f;have S:=bQ x a;have s:=bQ x b;apply h _ a b E f;cases right
  ·rw[if_neg (by decide)]at u1 U
   exact .inr ⟨rfl,zl 0x4c05444de46627e28a9424 rfl S Z u1,.inl (zl 0x2899aa410283754b26424 rfl s U)⟩
  ·rw[if_pos rfl]at u1 U
   exact .inl ⟨rfl,.inl (zl 0x4c05aa84bed97b010a9424 rfl S Z u1),zl 0x28997430b08361a24e424 rfl s U⟩
 ·rintro⟨rfl,rfl,z⟩
  rw[getLast?_eq_getElem?]at z;obtain⟨a,E⟩:=gt (i:=bs.length-2) (zl 23988962850 rfl h2);have:=f9 hb H (zl 35024216426018 rfl h2) E z;refine h (bs.length-2) a x E ((show bs.length-2+1=bs.length-1 from zl 0x7f6aba671ab922 rfl h2)▸z) (.inr ⟨rfl,zl 0xa3585d2d3cc9 rfl this (bQ x a),.inr ⟨rfl,zl 24616590031138 rfl h2,cF x⟩⟩)
 ·rintro⟨rfl,rfl,z⟩
  rw[head?_eq_getElem?]at z;obtain⟨b,f⟩:=gt (i:=1) (zl 93147170 rfl h2);have:=f9 hb H (zm 6153 rfl) z f;exact h 0 x b z f (.inl ⟨rfl,.inr ⟨rfl,rfl,cF x⟩,zl 215359689 rfl this⟩)
noncomputable def KI:V→It
|.L [.int a,.int b]=>if a=0∧b=0 then .lH else .nu (a,b)
|_=>.na
theorem tM(h:ip true I):KI (wv I)=I:=by
 cases I with
 |na=>rfl
 |lH=>show(if 0=0∧0=0 then It.lH else .nu (0,0))=_;rw[if_pos ⟨rfl,rfl⟩]
 |nu p=>
  show(if p.1=0∧p.2=0 then It.lH else .nu (p.1,p.2))=_;rw[if_neg (of_decide_eq_false h.1.num.na)]
theorem wg{Y:Type}{xs:List It}(H:∀I∈xs,ip true I)(f:It→Y):(xs.map wv).map (λv=>f (KI v))=xs.map f:=by
 rw[List.map_map];exact List.map_congr_left λI i=>congrArg f (tM (H I i))
theorem ji(H:Sub n G)(f:Nat.blt 65 n=true)(i:ip true I)(h:K (.j (.bool (hK I))) []):G 65 [.j (wv I)] K X:=by
 apply H.c 65 f _ _ _;cases I with
 |na=>exact wy h
 |lH=>exact sO h
 |nu p=>exact sO (i.1.num.na▸h)
theorem mZ(H:ip true I)(hb:∀p∈bs,aM p)(D:ed bs)(L:bs.length≤100)(h2:2≤bs.length)(h:K (.j (iD bs right closed I)) []):FF 69 [.j (wv I),.j (.o (bs.map ah)),.j (.bool right),.j (.bool closed)] K X:=by
 refine cX 69 rfl rfl rfl λG g=> ?_;have C:aA=1000000:=rfl;refine ai (λk R=>ji g rfl H R) (λq=> ?_) λq=> ?_
 ·cases I with
  |nu p=>cases q
  |na=>exact h
  |lH=>exact h
 cases I with
 |na=>cases q
 |lH=>cases q
 |nu x=>
  have V:=H.1.num;change K (.j (DF bs right closed x)) []at h;refine ae (aw (λ_ h=>h) (aa rfl) ?_);refine cU (items:=ao 0 ((bs.length:Int)-1).toNat 1) (λk R=> ?_) (λj ρ=>∃S s W,fu S∧fu s∧fu W∧ρ=[.j (ah x),.j (.o (bs.map ah)),.j (.bool right),.j (.bool closed),vi (((bs.map ah).length:Nat)-1),S,s,W]∧∀i a b,i<j→bs[i]? =some a→bs[i+1]? =some b→¬ic right closed bs.length i (aK x a) (aK x b)) ⟨.y,.y,.y,.inl rfl,.inl rfl,.inl rfl,rfl,λi a b h=>(zl 665066 rfl h).elim⟩ ?_ ?_
  ·refine hZ (m:=((bs.map ah).length:Int)-1) ?_ (by rw[List.length_map];exact zl 4379253220898 rfl h2) (by rw[List.length_map];exact zl 0x2db170b3f113b1cf rfl L) (by rw[List.length_map];exact R)
   exactλ_ h=>h
  ·rintro j v ρ e ⟨S,s,W,h5,h6,t,rfl,n⟩
   refine⟨aq rfl h5,λB r=> ?_⟩;obtain⟨N,rfl⟩:j+1<bs.length∧v=.int (0+1*(j:Int)):=by
    unfold ao at e;rw[getElem?_map]at e;obtain⟨u,E,rfl⟩:=Option.map_eq_some_iff.mp e;obtain⟨h1,h2⟩:=List.getElem?_eq_some_iff.mp E;simp at h1 h2;subst h2;exact⟨zl 24675297543562 rfl h1,rfl⟩
   have J:bs[j]? =some bs[j]:=by simp[show j<bs.length from zl 23760357803 rfl N]
   have E:bs[j+1]? =some bs[j+1]:=by simp[N]
   have m0:=hb _ (mem_of_getElem? J);have m1:=hb _ (mem_of_getElem? E);generalize bs[j]=a at J m0;generalize bs[j+1]=b at E m1;generalize y:(0+1*(j:Int))=u at r;have U:u=(j:Int):=zl 0x922b4f58fed775 rfl y;subst U;have Y:=λz=>by
    rw[zf V hb D J E z]at h;exact h
   have no:¬ic right closed bs.length j (aK x a) (aK x b)→B [.j (ah x),.j (.o (bs.map ah)),.j (.bool right),.j (.bool closed),vi (((bs.map ah).length:Nat)-1),vi j,vi (aK x a),vi (aK x b)]:=λz=>r _ ⟨_,_,_,.inr ⟨_,rfl⟩,.inr ⟨_,rfl⟩,.inr ⟨_,rfl⟩,rfl,λi c d H h1 h2=>by
    by_cases q:i=j
    ·subst q;rw[J]at h1;rw[E]at h2;cases h1;cases h2;exact z
    ·exact n i c d (zl 0x4f1d2d4a6e3dfa rfl H q) h1 h2⟩
   refine aw (v:=.j (.int (aK x a))) (λk R=>az (aC (by rw[getElem?_map,J];rfl)) (g.c 14 rfl _ _ _ (cR V m0 R))) (aq rfl h6) ?_;refine aw (v:=.j (.int (aK x b))) (λk R=>az (cm (zm 141374981 rfl _) (by rw[show((j:Int)+1).toNat=j+1 from zm 1157635061170 rfl _,getElem?_map,E];rfl)) (g.c 14 rfl _ _ _ (cR V m1 R))) (aq rfl t) ?_;generalize aK x a=lo at Y no;generalize aK x b=O at Y no;have M:((bs.map ah).length:Int)=bs.length:=by rw[length_map]
   unfold ic at Y no;refine ai (b:=right&&((decide (0<lo)||(closed&&(decide ((j:Int)=0)&&decide (lo=0))))&&decide (O≤0))) (lg (λ_ h=>h) λ_=>lg (D2 (λ_ h=>h) λ_=>yZ (lg (λ_ h=>h) λ_=>lg (λ_ h=>h) λ_=>pG (λ_ h=>h))) λ_=>pG (λ_ h=>h)) (λq=> ?_) λq=> ?_
   ·refine Y (.inl ?_)
    simp only[Bool.and_eq_true,Bool.or_eq_true,decide_eq_true_iff]at q;refine⟨q.1,?_,q.2.2⟩;rcases q.2.1 with z|⟨P,Z,F⟩
    ·exact .inl z
    ·exact .inr ⟨P,zl 4105157227 rfl Z,F⟩
   ·apply ae
    refine ai (b:=(!right)&&(decide (0≤lo)&&(decide (O<0)||(closed&&(decide ((j:Int)=((bs.map ah).length:Nat)-1-1)&&decide (O=0)))))) (lg (λ_ h=>h) λ_=>lg (λ_ h=>h) λ_=>pG (D2 (λ_ h=>h) λ_=>yZ (lg (λ_ h=>h) λ_=>lg (λ_ h=>h) λ_=>pG (λ_ h=>h)))) (λQ=> ?_) λQ=> ?_
    ·refine Y (.inr ?_)
     simp only[Bool.and_eq_true,Bool.or_eq_true,decide_eq_true_iff,Bool.not_eq_true']at Q;refine⟨Q.1,Q.2.1,?_⟩;rcases Q.2.2 with z|⟨P,Z,F⟩
     ·exact .inl z
     ·exact .inr ⟨P,zl 0x20bf9500e57db982934926b rfl M Z,F⟩
    ·refine ae (ae (no ?_))
     rintro(⟨P,Z,F⟩|⟨P,Z,F⟩)
     ·rw[P,decide_eq_true F]at q
      rcases Z with Z|⟨Z,T,A⟩
      ·rw[decide_eq_true Z]at q;cases q
      ·rw[Z,decide_eq_true (show(j:Int)=0 from zl 4102197237 rfl T),decide_eq_true A]at q
       simp at q
     ·rw[P,decide_eq_true Z]at Q
      rcases F with F|⟨F,T,A⟩
      ·rw[decide_eq_true F]at Q;cases Q
      ·rw[F,decide_eq_true (show(j:Int)=((bs.map ah).length:Nat)-1-1 from zl 0x214b0b66f89b746d1a7926b rfl M T),decide_eq_true A]at Q
       simp at Q
  ·rintro ρ ⟨S,s,W,h5,h6,t,rfl,n⟩
   rw[Ct V hb D h2 λj a b E f=>n j a b (by
    have:=(List.getElem?_eq_some_iff.mp f).1;simp[ao];exact zl 25950139074987 rfl this) E f]at h
   exact h
theorem uI{xs:List It}(H:∀I∈xs,ip true I)(d:xs.length≤1000)(hb:∀p∈bs,aM p)(D:ed bs)(L:bs.length≤100)(h2:2≤bs.length)(h:K (.j (.o (xs.map (iD bs right closed)))) []):FF 70 [.j (.o (xs.map wv)),.j (.o (bs.map ah)),.j (.bool right),.j (.bool closed)] K X:=by
 refine cX 70 rfl rfl rfl λG g=> ?_;have S:aA=1000000:=rfl;refine iJ (gv (fC (λ_ h=>h) (by rw[length_map];exact zl 0x29d4ecdc00e2941515cf rfl d S) (aa rfl) (λv=>iD bs right closed (KI v)) ?_ ?_))
 ·intro v V k R
  obtain⟨I,i,rfl⟩:=mem_map.mp V;refine g.c 69 rfl _ _ _ (mZ (H I i) hb D L h2 (R _ ?_));rw[tM (H I i)];rfl
 ·rw[wg H]
  exact h
noncomputable def yP:List Nat→Bool
|[]=>true
|c::r=>match blt c 0x110000 with
 |true=>yP r
 |false=>false
noncomputable def k8(s:Str):Bool:=yP s.cps.toList
theorem BC{l}(h:yP l=true):∀c∈l,c<0x110000:=by
 induction l with
 |nil=>exactλc H=>by cases H
 |cons d r I=>
  intro c H;have h':(match Nat.blt d 0x110000 with|true=>yP r|false=>false)=true:=h;cases q:blt d 0x110000 with
  |false=>rw[q]at h';cases h'
  |true=>
   rw[q]at h';rcases mem_cons.mp H with rfl|H
   ·exact le_of_ble_eq_true q
   ·exact I h' c H
theorem fb(h:k8 s=true):PyData.strOk s=true:=Tx.strOk ⟨Nat.le_refl _,BC h⟩
theorem nQ(H:PyData.strOk a=true)(hb:PyData.strOk b=true):vF (.str a) (.str b)=some (ax a b):=by
 show(match(match PyData.strOk a with|true=>some (PyData.str a)|false=>.none),(match PyData.strOk b with|true=>some (PyData.str b)|false=>.none)with|some a,some b=>some (PyData.eqv a b)|_,_=>.none)=_;rw[H,hb];show some (PyData.eqv (.str a) (.str b))=_;rw[yI];congr 1;cases q:ax a b with
 |true=>exact decide_eq_true (aD.mp q)
 |false=>exact decide_eq_false λz=>by rw[aD.mpr z]at q;cases q
theorem CR(H:k8 a=true)(hb:k8 b=true)(d:k (ax a b)):qn .eq (.str a) (.str b) k:=cY (nQ (fb H) (fb hb)) d
theorem QW(H:k8 a=true)(hb:k8 b=true)(d:k (!ax a b)):qn .ne (.str a) (.str b) k:=gE (nQ (fb H) (fb hb)) d
theorem uH(g:k8 a=true)(f:k8 b=true)(h1:∀k,k (.j (.str a)) ρ→ev G C ρ k X)(h2:∀k,k (.j (.str b)) ρ→ev G H ρ k X)(d:k (!ax a b) ρ):tr G (.D (.ag .ne C H)) ρ k X:=h1 _ (h2 _ (QW g f d))
theorem kH(g:k8 a=true)(f:k8 b=true)(h1:∀k,k (.j (.str a)) ρ→ev G C ρ k X)(h2:∀k,k (.j (.str b)) ρ→ev G H ρ k X)(d:k (ax a b) ρ):tr G (.D (.ag .eq C H)) ρ k X:=h1 _ (h2 _ (CR g f d))
theorem E1(s)(ss:List Str):0≤Spec.countIn (.str s) (ss.map PyData.str)∧(Spec.countIn (.str s) (ss.map PyData.str)≠0↔ss.any (ax s)=true):=by
 induction ss with
 |nil=>exact⟨Int.le_refl _,⟨λh=>absurd rfl h,λh=>by cases h⟩⟩
 |cons c bs I=>
  have e:Spec.countIn (.str s) ((c::bs).map PyData.str)=(if Spec.same (.str c) (.str s)then 1 else 0)+Spec.countIn (.str s) (bs.map PyData.str):=rfl;have E:Spec.same (.str c) (.str s)=ax s c:=by
   simp only[Spec.same];cases q:ax s c with
   |true=>have:=aD.mp q;subst this;simp
   |false=>
    have:c≠s:=λz=>by rw[z,aD.mpr rfl]at q;cases q
    simp[this]
  rw[e,E,any_cons];cases q:ax s c with
  |true=>simp;exact zl 0x36dbf57e11cf87551d rfl I.1
  |false=>simp;simpa using I
theorem xw{ss:List Str}(H:PyData.strOk s=true)(I:∀x∈ss,PyData.strOk x=true):x6 (.str s) (ss.map V.str)=some (ss.any (ax s)):=by
 have E:∀{x:Str},PyData.strOk x=true→fg (.str x)=some (.str x):=λ{x}h=>by
  show(match PyData.strOk x with|true=>some (PyData.str x)|false=>.none)=_;rw[h]
 show(match fg (.str s),bK fg (ss.map V.str)with|some d,some D=>(match D.all (λy=>SeqAt.noMix y d)with|true=>some (decide (Spec.countIn d D≠0))|false=>.none)|_,_=>.none)=_;rw[(tw λx X=>E (I x X)),E H];show(match(ss.map PyData.str).all (λy=>SeqAt.noMix y (.str s))with|true=>some (decide (Spec.countIn (.str s) (ss.map PyData.str)≠0))|false=>.none)=_;have j:(ss.map PyData.str).all (λy=>SeqAt.noMix y (.str s))=true:=by
  rw[all_eq_true];intro y Y;obtain⟨c,_,rfl⟩:=mem_map.mp Y;simp[SeqAt.noMix]
 rw[j];apply congrArg some;rw[Bool.eq_iff_iff,decide_eq_true_iff];exact(E1 s ss).2
theorem GQ{ss:List Str}(H:k8 s=true)(I:ss.all k8=true)(d:k (ss.any (ax s))):qn .nr (.str s) (.L (ss.map V.str)) k:=by
 show(match x6 (.str s) (ss.map V.str)with|some b=>k b|.none=>False);rw[xw (fb H) λx X=>fb (all_eq_true.mp I x X)];exact d
theorem Cz{ss:List Str}(H:k8 s=true)(I:ss.all k8=true)(d:k (!ss.any (ax s))):qn .eQ (.str s) (.L (ss.map V.str)) k:=by
 show(match x6 (.str s) (ss.map V.str)with|some b=>k (!b)|.none=>False);rw[xw (fb H) λx X=>fb (all_eq_true.mp I x X)];exact d
noncomputable def aS:Str:=⟨#[105,110,116,101,103,101,114]⟩
noncomputable def aW:Str:=⟨#[100,111,117,98,108,101]⟩
noncomputable def bJ:Str:=⟨#[99,104,97,114,97,99,116,101,114]⟩
noncomputable def eZ:Str:=⟨#[108,111,103,105,99,97,108]⟩
noncomputable def xS:Str:=⟨#[108,101,118,101,108,115]⟩
noncomputable def Jh:Str:=⟨#[99,108,97,115,115]⟩
noncomputable def G9(s:Str)(i a:V):List (Nat×FK):=[(0,.j (.str s)),(1,.j i),(2,.j a),(3,.j (.bool false)),(4,.j (.bool false))]
noncomputable def gP(s:Str)(i a:V):V:=.dn 0 [(0,.str s),(1,i),(2,a),(3,.bool false),(4,.bool false)]
theorem dm(h:K (.j .none) [.bi 0 (G9 s i a)]):FF 27 [.bi 0 [],.j (.str s),.j i,.j a] K X:=by
 refine fE 27 rfl rfl λG H=> ?_;exact h
theorem Hu(H:n≤1000000)(h:K (.j (.int n)) []):FF 28 [vi n] K X:=by
 refine fE 28 rfl rfl λG g=> ?_;exact ai (λ_ h=>h) (λq=>absurd (of_decide_eq_true q) (zl 0x72cf15801c2c9d9419da1e rfl H)) λ_=>h
theorem jd(h:K (.oi 0 (G9 aS (.o l) .none)) []):FF 29 [.j (.o l)] K X:=by
 refine fE 29 rfl rfl λG H=> ?_;exact H.c 27 rfl _ _ _ (dm h)
theorem Ba(h:K (.j (gP aW (.o l) .none)) []):FF 30 [.j (.o l)] K X:=by
 refine fE 30 rfl rfl λG H=> ?_;exact H.c 27 rfl _ _ _ (dm h)
theorem iO(h:K (.j (gP bJ (.o l) .none)) []):FF 31 [.j (.o l)] K X:=by
 refine fE 31 rfl rfl λG H=> ?_;exact H.c 27 rfl _ _ _ (dm h)
noncomputable def OC(b:Bool):Int:=match b with
 |true=>1
 |false=>0
noncomputable abbrev bf(b:Bool):V:=gP eZ (.o [.int (OC b)]) .none
theorem pN(h:K (.j (bf b)) []):FF 32 [.j (.bool b)] K X:=by
 refine cX 32 rfl rfl rfl λG H=> ?_;refine ai (b:=false) (λ_ h=>h) (λq=>by cases q) λ_=> ?_;cases b
 ·exact⟨af rfl,H.c 27 rfl _ _ _ (dm h)⟩
 ·exact⟨af rfl,H.c 27 rfl _ _ _ (dm h)⟩
theorem kJ(H:k8 s=true)(f:ax s ⟨#[78,85,76,76]⟩=false)(h:K (.j (.int l.length)) []):FF 33 [.j (gP s (.o l) a)] K X:=by
 refine cX 33 rfl rfl rfl λG g=> ?_;refine aw (λ_ h=>h) (aa rfl) ?_;refine ai (λ_ h=>CR H rfl h) (λq=>by rw[f]at q;cases q) λ_=> ?_;exact h
theorem dU(H:k8 s=true)(f:[eZ,aS,aW,bJ].any (ax s)=true)(h:K (.j (.bool true)) []):FF 34 [.j (gP s i a)] K X:=by
 refine fE 34 rfl rfl λG g=> ?_;exact⟨af rfl,GQ (ss:=[eZ,aS,aW,bJ]) H rfl (f▸h)⟩
theorem kg(h:K (.j .none) []):FF 35 [.j (gP s i .none),.j (.str n)] K X:=by
 refine fE 35 rfl rfl λG H=> ?_;exact h
theorem tB(h:K (.j ((a4 n d).getD .none)) []):FF 35 [.j (gP s i (.lI d)),.j (.str n)] K X:=by
 refine fE 35 rfl rfl λG H=> ?_;exact h
theorem sM(h:K (.j (.str t)) []):FF 36 [.j (.str bJ),.j (.str t)] K X:=by
 refine fE 36 rfl rfl λG H=> ?_;exact CR rfl rfl h
theorem jB{ts:List Str}(H:ts.length≤1000)(h:K (.j (.o (ts.map V.str))) []):FF 37 [.j (gP bJ (.o (ts.map V.str)) .none)] K X:=by
 refine cX 37 rfl rfl rfl λG g=> ?_;have L:aA=1000000:=rfl;refine aw (λ_ h=>g.c 35 rfl _ _ _ (kg h)) (aa rfl) ?_;refine ai (λ_ h=>h) (λq=>by cases q) λ_=>ae (iJ (gv ?_));refine fC (ρ:=[.j (gP bJ (.o (ts.map V.str)) .none),.j .none,.y,.y]) (λ_ h=>h) (by rw[length_map];exact zl 0x29d4ecdc00e2941515cf rfl H L) (aa rfl) (λv=>v) ?_ ?_
 ·intro v R k d
  obtain⟨t,_,rfl⟩:=mem_map.mp R;exact g.c 36 rfl _ _ _ (sM (d _ rfl))
 ·rw[map_id'];exact h
theorem CM(h:K (.j .none) []):FF 38 [.j (gP s i .none)] K X:=by
 refine fE 38 rfl rfl λG H=> ?_;exact H.c 35 rfl _ _ _ (kg h)
theorem v8(h:K (.j .none) []):FF 39 [.j (gP aW i .none)] K X:=by
 refine cX 39 rfl rfl rfl λG H=> ?_;apply CR rfl rfl;apply CR rfl rfl;refine H.c 38 rfl _ _ _ (CM ?_);exact H.c 35 rfl _ _ _ (kg h)
theorem sF(h:K (.j (.int (OC b))) []):FF 40 [.j (.str eZ),vi (OC b)] K X:=by
 refine cX 40 rfl rfl rfl λG H=> ?_;apply CR rfl rfl;apply CR rfl rfl;cases b<;>exact h
theorem sd(h:K (.j v) []):FF 41 [.j v,.j .none] K X:=by
 refine fE 41 rfl rfl λG H=> ?_;exact h
theorem gh(h:K (.j (gP aW (.o l) .none)) []):FF 42 [.j (gP aW (.o l) .none),.j (.str aW),.j n] K X:=by
 refine cX 42 rfl rfl rfl λG H=> ?_;refine ai (b:=false) (λ_ h=>h) (λq=>by cases q) λ_=>ae (aw (λ_ h=>h) (aa rfl) ?_);refine ai (b:=false) (λk d=>uH rfl rfl (λ_ h=>h) (λ_ h=>h) d) (λq=>by cases q) λ_=>ae ?_;refine H.c 27 rfl _ _ _ (dm ?_);refine H.c 39 rfl _ _ _ (v8 ?_);exact H.c 41 rfl _ _ _ (sd h)
theorem va(h:K (.j (.bool b)) []):FF 43 [.j (bf b)] K X:=by
 refine cX 43 rfl rfl rfl λG H=> ?_;refine H.c 33 rfl _ _ _ (kJ rfl rfl ?_);refine H.c 34 rfl _ _ _ (dU rfl rfl ?_);refine H.c 40 rfl _ _ _ (sF ?_);cases b<;>exact h
theorem tF(h:K (.j d) []):FF 44 [.j .none,.j d] K X:=by
 refine fE 44 rfl rfl λG H=> ?_;exact h
theorem rE(h:K (.j (.bool b)) []):FF 44 [.j (bf b),.j d] K X:=by
 refine fE 44 rfl rfl λG H=> ?_;exact H.c 43 rfl _ _ _ (va h)
theorem uZ(h:K (.j (gP s i a)) []):FF 53 [.j (gP s i a),.j (.str n)] K X:=by
 refine fE 53 rfl rfl λG H=> ?_;exact h
noncomputable def eU{Y J:Type}(p:Y→Bool)(step:J→Y→Option J):List Y→J→Option J
|[],s=>some s
|a::r,s=>match p a with
 |true=>some s
 |false=>match step s a with
  |some t=>eU p step r t
  |.none=>.none
theorem DJ{p:Y→Bool}{step:J→Y→Option J}{L:J→R→Prop}{U:J}
 (xs)(m)(ρ)(H:∀s a d ρ,a∈xs→p a=false→step s a=some d→L s ρ→bo ρ i∧∀t:R→Prop,(∀ρ',L d ρ'→t ρ')→ex G b (ρ.set i (.j (g a))) t t f X)
  (j:∀a ρ,p a=true→L U ρ→bo ρ i∧∀t:R→Prop,ex G b (ρ.set i (.j (g a))) t t f X)(a9:∀ρ,L U ρ→x ρ)(I:L m ρ)(y:eU p step xs m=some U):
  (xs.map g).foldr (λv t ρ=>bG ρ i (.j v) λρ=>ex G b ρ t t f X) x ρ:=by
 rw[foldr_map];refine C5 (λl ρ=>∃s,L s ρ∧eU p step l s=some U) (λρ⟨s,h,e⟩=>a9 ρ (Option.some.inj e▸h)) (λa A l ρ⟨s,h,e⟩t r=> ?_) ρ ⟨m,I,y⟩;change(match p a with|true=>some s|false=>match step s a with|some d=>eU p step l d|.none=>.none)=some U at e;cases q:p a with
 |true=>
  rw[q]at e;have h':=j a ρ q (Option.some.inj e▸h);exact aT h'.1 (h'.2 _)
 |false=>
  rw[q]at e;change(match step s a with|some d=>eU p step l d|.none=>.none)=some U at e;cases Q:step s a with
  |none=>rw[Q]at e;cases e
  |some d=>
   rw[Q]at e;have h':=H s a d ρ A q Q h;exact aT h'.1 (h'.2 _ λρ' z=>r ρ' ⟨d,z,e⟩)
theorem su(I:∀k,k (xs.map g) ρ→qS G y ρ k X)(p:Y→Bool)(step)(L:J→R→Prop)(j:eU p step xs d=some U)(O:L d ρ)
 (D:∀s a H ρ,a∈xs→p a=false→step s a=some H→L s ρ→bo ρ i∧∀t:R→Prop,(∀ρ',L H ρ'→t ρ')→ex G b (ρ.set i (.j (g a))) t t f X)
 (m:∀a ρ,p a=true→L U ρ→bo ρ i∧∀t:R→Prop,ex G b (ρ.set i (.j (g a))) t t f X)
 (a9:∀ρ,L U ρ→ex G r ρ x C f X):ex G (.cons (.bU i y b) r) ρ x C f X:=I _ (DJ xs d ρ D m a9 O j)
noncomputable def jW:Str:=⟨#[46,46,46]⟩
noncomputable def mY:Option Str→V
|some s=>.str s
|.none=>.none
noncomputable def MS(o:List Str)(g:List (Option Str))(U:List Int)(d:List (Str×V)):List (Nat×FK):=[(5,.j (.o (o.map V.str))),(6,.j (.o (g.map mY))),(7,.U (iV U)),(8,.od d)]
noncomputable def xC:Option Str→Str→Bool
|some t,name=>ax t name
|.none,_=>false
noncomputable abbrev Jy:=List Int×List (Str×V)
noncomputable def xd(g:List (Option Str))(name:Str)(st:Jy)(p:Nat):Option Jy:=match g[p]? with
 |.none=>.none
 |some t=>match xC t name with
  |false=>some st
  |true=>match st.1[p]? with
   |.none=>.none
   |some i=>match decide (i=0)with
    |false=>some st
    |true=>match(a4 name st.2).isSome,blt st.2.length 1000 with
     |false,true=>some (st.1.set p 2,fJ name (.int p) st.2)
     |_,_=>.none
noncomputable def sz(g:List (Option Str))(st:Jy)(name:Str):Option Jy:=match ax name jW with
 |true=>some st
 |false=>eU (λ_=>false) (xd g name) (range g.length) st
noncomputable def um:Option Str→Bool
|some s=>k8 s
|.none=>true
theorem zA:ao 0 n 1=(range n).map λ(j:Nat)=>V.int j:=by
 unfold ao;refine map_congr_left λj _=> ?_;exact congrArg V.int (by show 0+1*(j:Int)=j;exact zm 776670703789 rfl _)
theorem tf(s):PyData.eqv .none (.str s)=false:=by simp[PyData.eqv]
theorem yr(C:um t=true)(H:k8 n=true):vF (mY t) (.str n)=some (xC t n):=by
 cases t with
 |some s=>exact nQ (fb C) (fb H)
 |none=>
  show(match some PyData.none,(match PyData.strOk n with|true=>some (PyData.str n)|false=>.none)with|some a,some b=>some (PyData.eqv a b)|_,_=>.none)=_;rw[fb H];exact congrArg some (tf n)
theorem Cu(d:ρ[0]? =some (.bi 1 (MS o g U D)))(L:g.length≤100)(H:k ((List.range g.length).map λ(j:Nat)=>V.int (j:Int)) ρ):qS G (.eX (.cons (.j5 (.f 0 6)) .nil)) ρ k X:=by
 refine hZ (m:=((g.map mY).length:Nat)) (λk H=> ?_) (zm 92741 rfl _) (by rw[List.length_map];exact zl 0xb6c51adc3b1cf rfl L) (by rw[length_map,Int.toNat_natCast,zA];exact H);show(match(ρ[0]?).bind d4 with|some F=>_|.none=>False);rw[d];exact H
theorem Fj(H:g.length≤100)(C:g.all um=true)(O:o.all k8=true)(x:eU (λ_=>false) (sz g) o (U,d)=some (us',fd'))(h:K (.j .none) [.bi 1 (MS o g us' fd')]):FF 46 [.bi 1 (MS o g U d)] K X:=by
 refine fE 46 rfl rfl λG Y=> ?_;refine su (λ_ h=>h) (λ_=>false) (sz g) (λst ρ=>∃s S,fu s∧fu S∧ρ=[.bi 1 (MS o g st.1 st.2),s,S]) x ⟨.y,.y,.inl rfl,.inl rfl,rfl⟩ ?_ (λa ρ q=>by cases q) ?_
 ·rintro⟨u,f⟩ name ⟨V,F⟩ ρ m _ st ⟨s,S,h1,h2,rfl⟩
  refine⟨aq rfl h1,λT r=> ?_⟩;have n:=all_eq_true.mp O name m;have P:(match ax name jW with|true=>some (u,f)|false=>eU (λ_=>false) (xd g name) (List.range g.length) (u,f))=some (V,F):=st;refine ai (λk R=>uH (b:=jW) n rfl (λ_ h=>h) (λ_ h=>h) R) (λq=> ?_) λq=> ?_
  ·rw[(Bool.not_eq_true' _).mp q]at P
   refine su (λk=>Cu rfl H) (λ_=>false) (xd g name) (λst ρ=>∃S,fu S∧ρ=[.bi 1 (MS o g st.1 st.2),.j (.str name),S]) P ⟨S,h2,rfl⟩ ?_ (λa ρ q=>by cases q) ?_
   ·rintro⟨u,f⟩ p ⟨V,F⟩ ρ M _ st ⟨S,h2,rfl⟩
    refine⟨aq rfl h2,λT r=> ?_⟩;have M:=mem_range.mp M;have J:g[p]? =some g[p]:=by simp[M]
    have W:=all_eq_true.mp C _ (getElem_mem M);have st:(match g[p]? with|.none=>.none|some t=>match xC t name with|false=>some (u,f)|true=>match u[p]? with|.none=>.none|some i=>match decide (i=0)with|false=>some (u,f)|true=>match(a4 name f).isSome,Nat.blt f.length 1000 with|false,true=>some (u.set p 2,fJ name (.int p) f)|_,_=>.none)=some (V,F):=st;rw[J]at st;generalize g[p]=t at J W st;change(match xC t name with|false=>some (u,f)|true=>match u[p]? with|.none=>.none|some i=>match decide (i=0)with|false=>some (u,f)|true=>match(a4 name f).isSome,blt f.length 1000 with|false,true=>some (u.set p 2,fJ name (.int p) f)|_,_=>.none)=some (V,F)at st;refine ik (aU (λk R=>az (aC (by rw[getElem?_map,J];rfl)) (cY (yr W n) R)) (λq=> ?_) λq=> ?_)
    ·rw[q]at st
     change(match u[p]? with|.none=>.none|some i=>match decide (i=0)with|false=>some (u,f)|true=>match(a4 name f).isSome,blt f.length 1000 with|false,true=>some (u.set p 2,fJ name (.int p) f)|_,_=>.none)=some (V,F)at st;cases E:u[p]? with
     |none=>rw[E]at st;cases st
     |some i=>
      rw[E]at st;change(match decide (i=0)with|false=>some (u,f)|true=>match(a4 name f).isSome,blt f.length 1000 with|false,true=>some (u.set p 2,fJ name (.int p) f)|_,_=>.none)=some (V,F)at st;refine bO (b:=decide (i=0)) (λk R=>az (v:=.int i) (aC (by unfold iV;rw[getElem?_map,E];rfl)) R) (λq=> ?_) λq=> ?_
      ·rw[q]at st
       change(match(a4 name f).isSome,blt f.length 1000 with|false,true=>some (u.set p 2,fJ name (.int p) f)|_,_=>.none)=some (V,F)at st;cases j:(a4 name f).isSome with
       |true=>rw[j]at st;cases st
       |false=>
        cases N:blt f.length 1000 with
        |false=>rw[j,N]at st;cases st
        |true=>
         rw[j,N]at st;cases st;refine ai (λ_ h=>h) (λq=>by rw[j]at q;cases q) λ_=>ae ?_;show(match decide (f.length<aA)with|true=>_|false=>False);rw[decide_eq_true (Nat.lt_of_lt_of_le (Nat.le_of_ble_eq_true N) (by decide))];show(match eM (iV u) (p:Int) (.int 2)with|some l'=>_|.none=>False);have L:p<(iV u).length:=by unfold iV;rw[length_map];exact(List.getElem?_eq_some_iff.mp E).1
         rw[eA L];have D:(iV u).set p (.int 2)=iV (u.set p 2):=by unfold iV;rw[map_set]
         rw[D];exact r _ ⟨_,.inr ⟨_,rfl⟩,rfl⟩
      ·rw[q]at st
       cases st;exact ae (ae (r _ ⟨_,.inr ⟨_,rfl⟩,rfl⟩))
    ·rw[q]at st
     cases st;exact ae (ae (r _ ⟨_,.inr ⟨_,rfl⟩,rfl⟩))
   ·rintro ρ ⟨S,h2,rfl⟩
    exact ae (r _ ⟨_,_,.inr ⟨_,rfl⟩,h2,rfl⟩)
  ·rw[(Bool.not_eq_false' _).mp q]at P
   cases P;exact ae (ae (r _ ⟨_,_,.inr ⟨_,rfl⟩,h2,rfl⟩))
 ·rintro ρ ⟨s,S,h1,h2,rfl⟩
  exact h
noncomputable def uh:Option Str→Bool
|some s=>ax s ⟨#[]⟩
|.none=>true
noncomputable def xF(g:List (Option Str))(U:List Int):Bool:=(range g.length).all λp=>match g[p]?,U[p]? with
 |some t,some i=>decide (i=2)||uh t
 |_,_=>false
noncomputable def l9(g:List (Option Str))(U:List Int)(p:Nat):Bool:=match g[p]?,U[p]? with
 |some t,some i=>decide (i=0)&&uh t
 |_,_=>false
noncomputable def qJ(g:List (Option Str))(U:List Int):Nat→Nat→Nat
|0,p=>p
|k+1,p=>match blt p g.length&& !l9 g U p with
 |true=>qJ g U k (p+1)
 |false=>p
noncomputable def n6(g:List (Option Str))(st:Nat×Jy)(name:Str):Option (Nat×Jy):=match(a4 name st.2.2).isSome with
 |true=>some st
 |false=>match blt (qJ g st.2.1 g.length st.1) g.length with
  |false=>some (qJ g st.2.1 g.length st.1,st.2)
  |true=>match blt st.2.2.length 1000 with
   |true=>some (qJ g st.2.1 g.length st.1,st.2.1.set (qJ g st.2.1 g.length st.1) 2,fJ name (.int (qJ g st.2.1 g.length st.1)) st.2.2)
   |false=>.none
noncomputable def tV(U:List Int)(p:Nat):Bool:=match U[p]? with
 |some i=>decide (i=0)
 |.none=>false
noncomputable def yl(g:List (Option Str))(U:List Int):List Nat:=(range g.length).filter (tV U)
noncomputable def Dl(as:List (Option Str×V))(d:List (Str×V))(vals:List V)(name:Str):Option (List V):=match blt vals.length 1000 with
 |false=>.none
 |true=>match ax name jW with
  |true=>some (vals++[.o []])
  |false=>match a4 name d with
   |.none=>some (vals++[.none])
   |some (.int p)=>match decide (0≤p),as[p.toNat]? with
    |true,some a=>some (vals++[a.2])
    |_,_=>.none
   |some _=>.none
noncomputable abbrev aX(a:Option Str×V):V:=.L [mY a.1,a.2]
theorem Jo(h:ev G e ρ k X):ev G (.Q (.cons e .nil)) ρ k X:=h
theorem sW{g:List (Option Str)}{p:Nat}(e:g[p]? =some t)(h:k (mY t)):tL (.o (g.map mY)) (.int p) k:=az (aC (by rw[getElem?_map,e];rfl)) h
theorem BF{p:Nat}(e:U[p]? =some i)(h:k (.int i)):tL (.o (iV U)) (.int p) k:=az (aC (by unfold iV;rw[getElem?_map,e];rfl)) h
theorem sq(H:g.length≤100)(C:g.all um=true)(u:xF g U=true)(h:K (.j .none) [.bi 1 (MS o g U d)]):FF 47 [.bi 1 (MS o g U d),.j nm] K X:=by
 refine fE 47 rfl rfl λG O=> ?_;refine cU (λk=>Cu rfl H) (λj ρ=>∃S Q,fu S∧fu Q∧ρ=[.bi 1 (MS o g U d),.j nm,S,Q]) ⟨.y,.y,.inl rfl,.inl rfl,rfl⟩ ?_ ?_
 ·rintro j v ρ e ⟨S,Q,h2,h3,rfl⟩
  refine⟨aq rfl h2,λT r=> ?_⟩;rw[getElem?_map]at e;obtain⟨p,Y,rfl⟩:=Option.map_eq_some_iff.mp e;have M:=all_eq_true.mp u p (mem_of_getElem? Y);cases E:g[p]? with
  |none=>rw[E]at M;cases M
  |some t=>
   cases N:U[p]? with
   |none=>rw[E,N]at M;cases M
   |some i=>
    rw[E,N]at M;change(decide (i=2)||uh t)=true at M;refine aw (λk R=>sW E R) (aq rfl h3) ?_;refine ik (aU (b:= !decide (i=2)) (λk R=>BF N R) (λq=> ?_) λq=> ?_)
    ·rw[(Bool.not_eq_true' _).mp q]at M
     cases t with
     |none=>exact aU (λ_ h=>h) (λq=>by cases q) λ_=>ae (ae (r _ ⟨_,_,.inr ⟨_,rfl⟩,.inr ⟨_,rfl⟩,rfl⟩))
     |some s=>
      refine aU (λ_ h=>h) (λ_=> ?_) (λq=>by cases q);refine aU (λk R=>uH (List.all_eq_true.mp C _ (List.mem_of_getElem? E)) rfl (λ_ h=>h) (λ_ h=>h) R) (λq=> ?_) λq=> ?_
      ·have z:ax s ⟨#[]⟩=true:=M
       rw[z]at q;cases q
      ·exact ae (ae (r _ ⟨_,_,.inr ⟨_,rfl⟩,.inr ⟨_,rfl⟩,rfl⟩))
    ·exact ae (ae (r _ ⟨_,_,.inr ⟨_,rfl⟩,.inr ⟨_,rfl⟩,rfl⟩))
 ·rintro ρ ⟨S,Q,h2,h3,rfl⟩
  exact h
theorem zI(H:g.length≤100)(t:g.all um=true)(O:o.all k8=true)(p:xF g U=true)(h:K (.j .none) [.bi 1 (MS o g U d)]):FF 48 [.bi 1 (MS o g U d)] K X:=by
 refine fE 48 rfl rfl λG T=> ?_;refine cU (λ_ h=>h) (λj ρ=>∃S,fu S∧ρ=[.bi 1 (MS o g U d),S]) ⟨.y,.inl rfl,rfl⟩ ?_ ?_
 ·rintro j v ρ e ⟨S,h1,rfl⟩
  refine⟨aq rfl h1,λV r=> ?_⟩;rw[getElem?_map]at e;obtain⟨name,E,rfl⟩:=Option.map_eq_some_iff.mp e;refine ai (λk R=>kH (List.all_eq_true.mp O name (List.mem_of_getElem? E)) rfl (λ_ h=>h) (λ_ h=>h) R) (λq=>h) λq=> ?_;refine ae (ai (λ_ h=>h) (λq=> ?_) λq=> ?_)
  ·exact T.c 47 rfl _ _ _ (sq H t p (r _ ⟨_,.inr ⟨_,rfl⟩,rfl⟩))
  ·exact ae (ae (r _ ⟨_,.inr ⟨_,rfl⟩,rfl⟩))
 ·rintro ρ ⟨S,h1,rfl⟩
  exact h
theorem y9{p:Nat}(g:f[p]? =some t)(j:U[p]? =some i)(H:um t=true)(h:K (.j (.bool (decide (i=0)&&uh t))) [.bi 1 (MS o f U d)]):FF 49 [.bi 1 (MS o f U d),vi p] K X:=by
 refine fE 49 rfl rfl λG O=> ?_;refine xB (b:=decide (i=0)) (λk R=>BF j R) (λq=> ?_) λq=> ?_
 ·rw[q]at h
  cases t with
  |none=>exact sW g h
  |some s=>
   refine Jo (NV (b:=false) (ρ':=[.bi 1 (MS o f U d),vi p]) (λk R=>sW g R) (λq=>by cases q) λ_=> ?_);exact sW g (cY (yr H rfl) h)
 ·rw[q]at h;exact h
theorem tN(L:g.length≤100)(H:U.length=g.length)(C:g.all um=true)(O:o.all k8=true)(x:eU (λname=>ax name jW) (n6 g) o (0,U,d)=some (pe,us',fd'))(h:us'.length=g.length→K (.j .none) [.bi 1 (MS o g us' fd')]):FF 50 [.bi 1 (MS o g U d)] K X:=by
 refine fE 50 rfl rfl λG N=> ?_;refine aw (λ_ h=>h) (aa rfl) ?_;refine su (λ_ h=>h) (λname=>ax name jW) (n6 g) (λst ρ=>st.2.1.length=g.length∧∃S,fu S∧ρ=[.bi 1 (MS o g st.2.1 st.2.2),vi (st.1:Nat),S]) x ⟨H,.y,.inl rfl,rfl⟩ ?_ ?_ ?_
 ·rintro⟨p,u,f⟩ name ⟨P,V,Z⟩ ρ A hd st ⟨F,S,h2,rfl⟩
  refine⟨aq rfl h2,λT m=> ?_⟩;change u.length=g.length at F;have n:=all_eq_true.mp O name A;have st:(match(a4 name f).isSome with|true=>some (p,u,f)|false=>match Nat.blt (qJ g u g.length p) g.length with|false=>some (qJ g u g.length p,u,f)|true=>match Nat.blt f.length 1000 with|true=>some (qJ g u g.length p,u.set (qJ g u g.length p) 2,fJ name (.int (qJ g u g.length p)) f)|false=>.none)=some (P,V,Z):=st;refine ai (λk B=>kH (b:=jW) n rfl (λ_ h=>h) (λ_ h=>h) B) (λq=>by rw[hd]at q;cases q) λ_=> ?_;refine ae (ai (λ_ h=>h) (λq=> ?_) λq=> ?_)
  ·rw[(Bool.not_eq_true' _).mp q]at st
   change(match blt (qJ g u g.length p) g.length with|false=>some (qJ g u g.length p,u,f)|true=>match blt f.length 1000 with|true=>some (qJ g u g.length p,u.set (qJ g u g.length p) 2,fJ name (.int (qJ g u g.length p)) f)|false=>.none)=some (P,V,Z)at st;generalize w:qJ g u g.length p=a at st;refine jG (λρ=>∃k c,g.length≤k+c∧qJ g u k c=a∧ρ=[.bi 1 (MS o g u f),vi (c:Nat),.j (.str name)]) (λρ=>match ρ with|[_,.j (.int c),_]=>g.length-c.toNat|_=>0) ⟨g.length,p,zm 766043 rfl _ _,w,rfl⟩ ?_;rintro ρ ⟨k,c,B,e,rfl⟩ ih v;have D:∀{k:Bool→R→Prop}{ρ:R},k (decide ((c:Int)<g.length)) ρ→k (decide ((c:Int)<((g.map mY).length:Nat))) ρ:=λh=>by rw[List.length_map];exact h
   have done:a=c→ex G (.cons (.iff (.D (.ag .lt (.d 1) (.j5 (.f 0 6)))) (.cons (.dB (.f 0 8) (.d 2) (.d 1)) (.cons (.dB (.f 0 7) (.d 1) (.p 2)) .nil)) .nil) .nil) [.bi 1 (MS o g u f),vi (c:Nat),.j (.str name)] (λρ=>ex G .nil ρ T T (λr ρ=>K r (ba [.bi 1 (MS o g U d)] ρ)) X) T (λr ρ=>K r (ba [.bi 1 (MS o g U d)] ρ)) X:=by
    intro eq;rw[eq]at st;refine ai (λk B=>D B) (λz=> ?_) λz=> ?_
    ·have z:=of_decide_eq_true z
     have zb:Nat.blt c g.length=true:=ble_eq_true_of_le (Int.ofNat_lt.mp z);rw[zb]at st;change(match blt f.length 1000 with|true=>some (c,u.set c 2,fJ name (.int c) f)|false=>.none)=some (P,V,Z)at st;cases E:blt f.length 1000 with
     |false=>rw[E]at st;cases st
     |true=>
      rw[E]at st;have W:=Prod.mk.inj (Option.some.inj st);have I:=Prod.mk.inj W.2;rw[←W.1,←I.1,←I.2]at m;have lt:f.length<aA:=Nat.lt_of_lt_of_le (Nat.le_of_ble_eq_true E) (by decide);show(match decide (f.length<aA)with|true=>_|false=>False);rw[decide_eq_true lt];show(match eM (iV u) (c:Int) (.int 2)with|some l'=>_|.none=>False);have l:c<(iV u).length:=by unfold iV;rw[length_map];exact zl 564978162728909 rfl F z
      rw[eA l];have s:(iV u).set c (.int 2)=iV (u.set c 2):=by unfold iV;rw[map_set]
      rw[s];exact m _ ⟨by rw[List.length_set];exact F,_,.inr ⟨_,rfl⟩,rfl⟩
    ·have z:=of_decide_eq_false z
     have zb:blt c g.length=false:=by
      cases y:blt c g.length with
      |false=>rfl
      |true=>exact absurd (Int.ofNat_lt.mpr (le_of_ble_eq_true y)) z
     rw[zb]at st;cases st;exact ae (ae (ae (m _ ⟨F,_,.inr ⟨_,rfl⟩,rfl⟩)))
   refine aU (λk B=>D B) (λz=> ?_) λz=> ?_
   ·have z:=of_decide_eq_true z
    have Q:c<g.length:=zl 23760048736 rfl z;have J:g[c]? =some g[c]:=by simp[Q]
    have Y:u[c]? =some u[c]:=by simp[show c<u.length from zl 564978162728909 rfl F z]
    have M:=all_eq_true.mp C _ (getElem_mem Q);generalize g[c]=t at J M;generalize u[c]=i at Y;have j:l9 g u c=(decide (i=0)&&uh t):=by unfold l9;rw[J,Y]
    refine bO (λk B=>N.c 49 rfl _ _ _ (y9 J Y M B)) (λy=> ?_) λy=> ?_
    ·cases k with
     |zero=>exact(zl 0xc13b22d7a9260 rfl z B).elim
     |succ k=>
      have e:(match Nat.blt c g.length&& !l9 g u c with|true=>qJ g u k (c+1)|false=>c)=a:=e;rw[j,y,show blt c g.length=true from ble_eq_true_of_le Q]at e;exact v _ ⟨k,c+1,zl 0x466f182947a7bcef rfl B,e,rfl⟩ (by show g.length-((c:Int)+1).toNat<g.length-(c:Int).toNat;exact zl 0x14f19320e9e60235e9260 rfl z)
    ·apply done
     cases k with
     |zero=>exact e.symm
     |succ k=>
      have e:(match Nat.blt c g.length&& !l9 g u c with|true=>qJ g u k (c+1)|false=>c)=a:=e;rw[j,y,Bool.and_false]at e;exact e.symm
   ·have z:=of_decide_eq_false z
    apply done;cases k with
    |zero=>exact e.symm
    |succ k=>
     have e:(match Nat.blt c g.length&& !l9 g u c with|true=>qJ g u k (c+1)|false=>c)=a:=e;have zb:blt c g.length=false:=by
      cases y:blt c g.length with
      |false=>rfl
      |true=>exact absurd (Int.ofNat_lt.mpr (le_of_ble_eq_true y)) z
     rw[zb,Bool.false_and]at e;exact e.symm
  ·rw[(Bool.not_eq_false' _).mp q]at st
   cases st;exact ae (ae (m _ ⟨F,_,.inr ⟨_,rfl⟩,rfl⟩))
 ·rintro name ρ hd ⟨F,S,h2,rfl⟩
  refine⟨aq rfl h2,λT=> ?_⟩;have n:k8 name=true:=by rw[aD.mp hd];rfl
  exact ai (λk B=>kH (b:=jW) n rfl (λ_ h=>h) (λ_ h=>h) B) (λ_=>h F) λq=>by rw[hd]at q;cases q
 ·rintro ρ ⟨F,S,h2,rfl⟩
  exact h F
theorem I3{ρ ρ1:R}{X:Str→Prop}{a I C L:E}{v:Rv}(h:ev G (.comp j I C L) ρ1 (λy ρ=>G f (.bi c []::[.j v.v,.j y.v]) (λr ss=>match r,ss with|.j .none,[.bi U d]=>(match Nat.beq c U with|true=>k (.oi c d) ρ|false=>False)|_,_=>False) X) X)(H:∀k,k v ρ1→ev G a ρ k X):ev G (.new c f (.cons a (.cons (.comp j I C L) .nil))) ρ k X:=H _ h
theorem Js(H:g.length≤100)(u:U.length=g.length)(z:yl g U=[])(h:K (.j (.o [])) [.bi 1 (MS o g U d)]):FF 51 [.bi 1 (MS o g U d)] K X:=by
 refine fE 51 rfl rfl λG O=> ?_;have L:aA=1000000:=rfl;refine iJ (gv (j6 (λk=>Cu rfl H) (by simp;exact zl 0x29d4ecdc00e2926bb1cf rfl H L) (aa rfl) (λv=>match v with|.int i=>tV U i.toNat|_=>false) (λv=>v) ?_ (λv _ _ k R=>R _ rfl) ?_))
 ·intro v M k R
  obtain⟨p,P,rfl⟩:=mem_map.mp M;have P:=List.mem_range.mp P;have E:U[p]? =some U[p]:=by simp[show p<U.length from zl 551738860877 rfl u P]
  generalize U[p]=i at E;have f:tV U p=decide (i=0):=by unfold tV;rw[E]
  apply BF E;change k (tV U p) _ at R;rw[f]at R;exact R
 ·have e:((((range g.length).map λ(j:Nat)=>V.int j).filter λv=>match v with|.int i=>tV U i.toNat|_=>false).map λv=>v)=[]:=by
   rw[map_id',filter_map];unfold yl at z;have:((λv=>match v with|V.int i=>tV U i.toNat|_=>false)∘λ(j:Nat)=>V.int j)=tV U:=by
    funext j;show tV U (j:Int).toNat=_;rw[Int.toNat_natCast]
   rw[this,z];rfl
  rw[e];exact h
theorem Et(H:g.length≤100)(h:K (.j .none) [.bi 1 (MS o g (List.replicate g.length 0) [])]):FF 45 [.bi 1 [],.j (.o (o.map V.str)),.j (.o (g.map mY))] K X:=by
 refine fE 45 rfl rfl λG O=> ?_;refine⟨af rfl,zm 92741 rfl _,by rw[List.length_map];exact zl 5787793469190607 rfl H,?_⟩;have e:replicate (((g.map mY).length):Int).toNat (V.int 0)=iV (replicate g.length 0):=by
  rw[Int.toNat_natCast,length_map];unfold iV;rw[map_replicate]
 show K (.j .none) [.bi 1 [(5,.j (.o (o.map V.str))),(6,.j (.o (g.map mY))),(7,.U (List.replicate (((g.map mY).length:Nat):Int).toNat (V.int 0))),(8,.od [])]];rw[e];exact h
theorem qC{as:List (Option Str×V)}(L:as.length≤100)(H:(as.map (·.1)).all um=true)(O:o.all k8=true)(x:eU (λ_=>false) (sz (as.map (·.1))) o (List.replicate (as.map (·.1)).length 0,[])=some (u1,f1))(p:xF (as.map (·.1)) u1=true)(y:u1.length=(as.map (·.1)).length)
 (D:eU (λname=>ax name jW) (n6 (as.map (·.1))) o (0,u1,f1)=some (pe,us',fd'))(z:yl (as.map (·.1)) us'=[])(h:K (.j (.L [.lI fd',.o []])) []):FF 52 [.j (.o (o.map V.str)),.j (.o (as.map aX)),.j sh] K X:=by
 refine cX 52 rfl rfl rfl λG g=> ?_;have S:aA=1000000:=rfl;have I:(as.map (·.1)).length≤100:=by rw[List.length_map];exact L
 refine aw (v:=.oi 1 (MS o (as.map (·.1)) (List.replicate (as.map (·.1)).length 0) [])) (ρ1:=[.j (.o (o.map V.str)),.j (.o (as.map aX)),.j sh,.y,.y,.y]) (λk d=> ?_) (aa rfl) ?_
 ·refine I3 (fC (ρ:=[.j (.o (o.map V.str)),.j (.o (as.map aX)),.j sh,.y,.y,.y]) (λ_ h=>h) (by rw[length_map];exact zl 0x29d4ecdc00e2926bb1cf rfl L S) (aa rfl) (λv=>match v with|.L (t::_)=>t|v=>v) ?_ ?_) (λ_ h=>h)
  ·intro v R k d
   obtain⟨a,_,rfl⟩:=mem_map.mp R;exact d _ rfl
  ·have e:(as.map aX).map (λv=>match v with|.L (t::_)=>t|v=>v)=(as.map (·.1)).map mY:=by rw[map_map,map_map];rfl
   rw[e];exact g.c 45 rfl _ _ _ (Et I d)
 generalize as.map (·.1)=T at*;refine g.c 46 rfl _ _ _ (Fj I H O x ?_);refine g.c 48 rfl _ _ _ (zI I H O p ?_);refine g.c 50 rfl _ _ _ (tN I y H O D λZ=> ?_);refine g.c 51 rfl _ _ _ (Js I Z z ?_);refine ik (aU (λ_ h=>h) (λq=>by cases q) λ_=>ae ?_);exact⟨af rfl,h⟩
theorem sy(L:as.length≤100)(j:o.length≤1000)(t:(as.map (·.1)).all um=true)(O:o.all k8=true)(x:eU (λ_=>false) (sz (as.map (·.1))) o (List.replicate (as.map (·.1)).length 0,[])=some (u1,f1))(u:xF (as.map (·.1)) u1=true)(y:u1.length=(as.map (·.1)).length)
 (D:eU (λname=>ax name jW) (n6 (as.map (·.1))) o (0,u1,f1)=some (pe,us',fd'))(z:yl (as.map (·.1)) us'=[])(H:eU (λ_=>false) (Dl as fd') o []=some m)(h:K (.j (.o m)) []):FF 54 [.j (.o (as.map aX)),.j (.o (o.map V.str)),.j .none] K X:=by
 refine cX 54 rfl rfl rfl λG g=> ?_;have P:aA=1000000:=rfl;refine g.c 52 rfl _ _ _ (qC L t O x u y D z ?_);refine aw (λ_ h=>⟨af rfl,h⟩) (aa rfl) ?_;refine su (xs:=o) (λ_ h=>h) (λ_=>false) (Dl as fd') (λst ρ=>∃s S,fu s∧fu S∧ρ=[.j (.o (as.map aX)),.j (.o (o.map V.str)),.j .none,.j (.lI fd'),.j (.o []),.U st,s,S]) H ⟨.y,.y,.inl rfl,.inl rfl,rfl⟩ ?_ (λa ρ q=>by cases q) ?_
 ·rintro vals name Q ρ M _ st ⟨s,S,h6,J,rfl⟩
  refine⟨aq rfl h6,λR r=> ?_⟩;have n:k8 name=true:=List.all_eq_true.mp O name M;have st:(match Nat.blt vals.length 1000 with|false=>.none|true=>match ax name jW with|true=>some (vals++[.o []])|false=>match a4 name fd' with|.none=>some (vals++[.none])|some (.int p)=>(match decide (0≤p),as[p.toNat]? with|true,some a=>some (vals++[a.2])|_,_=>.none)|some _=>.none)=some Q:=st;cases T:Nat.blt vals.length 1000 with
  |false=>rw[T]at st;cases st
  |true=>
   have lt:vals.length<aA:=Nat.lt_of_lt_of_le (Nat.le_of_ble_eq_true T) (by decide);rw[T]at st;change(match ax name jW with|true=>some (vals++[.o []])|false=>match a4 name fd' with|.none=>some (vals++[.none])|some (.int p)=>(match decide (0≤p),as[p.toNat]? with|true,some a=>some (vals++[a.2])|_,_=>.none)|some _=>.none)=some Q at st;refine ai (λk d=>kH (b:=jW) n rfl (λ_ h=>h) (λ_ h=>h) d) (λq=> ?_) λq=> ?_
   ·rw[q]at st
    cases st;refine eV (ρ1:=[.j (.o (as.map aX)),.j (.o (o.map V.str)),.j .none,.j (.lI fd'),.j (.o []),.U vals,.j (.str name),.y]) (v:=.U []) rfl (λk d=> ?_) rfl lt (r _ ⟨_,_,.inr ⟨_,rfl⟩,.inl rfl,rfl⟩);exact fC (λ_ h=>h) (Nat.zero_le _) (aq rfl J) (λv=>v) (λv H=>by cases H) d
   ·rw[q]at st
    change(match a4 name fd' with|.none=>some (vals++[.none])|some (.int p)=>(match decide (0≤p),as[p.toNat]? with|true,some a=>some (vals++[a.2])|_,_=>.none)|some _=>.none)=some Q at st;refine ai (λ_ h=>h) (λq=> ?_) λq=> ?_
    ·cases e:a4 name fd' with
     |none=>rw[e]at q;cases q
     |some v=>
      rw[e]at st;cases v with
      |int p=>
       change(match decide (0≤p),as[p.toNat]? with|true,some a=>some (vals++[a.2])|_,_=>.none)=some Q at st;cases E:decide (0≤p)with
       |false=>rw[E]at st;cases st
       |true=>
        cases N:as[p.toNat]? with
        |none=>rw[E,N]at st;cases st
        |some a=>
         rw[E,N]at st;cases st;refine eV (ρ1:=[.j (.o (as.map aX)),.j (.o (o.map V.str)),.j .none,.j (.lI fd'),.j (.o []),.U vals,.j (.str name),S]) (l:=vals) (v:=.j a.2) rfl (λk d=> ?_) rfl lt (ae (ae (r _ ⟨_,_,.inr ⟨_,rfl⟩,J,rfl⟩)));show(match a4 name fd' with|some v=>_|.none=>False);rw[e];exact az (v:=aX a) (cm (of_decide_eq_true E) (by rw[List.getElem?_map,N];rfl)) d
      |_=>cases st
    ·cases e:a4 name fd' with
     |some v=>rw[e]at q;cases q
     |none=>
      rw[e]at st;cases st;exact eV (l:=vals) rfl (λk d=>d) rfl lt (ae (ae (r _ ⟨_,_,.inr ⟨_,rfl⟩,J,rfl⟩)))
 ·rintro ρ ⟨s,S,h6,J,rfl⟩
  exact h
noncomputable def dA:Str:=⟨#[114,105,103,104,116]⟩
noncomputable def ck:Str:=⟨#[105,110,99,108,117,100,101,46,108,111,119,101,115,116]⟩
noncomputable def d9:Str:=⟨#[108,97,98,101,108,115]⟩
noncomputable def iC:Str:=⟨#[111,114,100,101,114,101,100,95,114,101,115,117,108,116]⟩
noncomputable def sX:Str:=⟨#[120]⟩
noncomputable def nU:Str:=⟨#[98,114,101,97,107,115]⟩
noncomputable def Ou:Str:=⟨#[100,105,103,46,108,97,98]⟩
noncomputable def K6:Str:=⟨#[118,101,99]⟩
noncomputable def kj:List Str:=[sX,nU,d9,ck,dA,Ou,iC,jW]
noncomputable def Ma:List Str:=[sX,K6,jW]
theorem E4(h:K (.j (.o [a,b,e,d,c,.none,.none,.o []])) []):FF 54 [.j (.o ([(.none,a),(.none,b),(some dA,c),(some ck,d),(some d9,e)].map aX)),.j (.o (kj.map V.str)),.j .none] K X:=
 sy (u1:=[0,0,2,2,2]) (f1:=[(d9,.int 4),(ck,.int 3),(dA,.int 2)]) (us':=[2,2,2,2,2]) (fd':=[(d9,.int 4),(ck,.int 3),(dA,.int 2),(sX,.int 0),(nU,.int 1)]) (pe:=5) (le_of_ble_eq_true rfl) (le_of_ble_eq_true rfl) (by kernel_rfl) (by kernel_rfl) (by kernel_rfl) (by kernel_rfl) (by kernel_rfl) (by kernel_rfl) (by kernel_rfl) (by kernel_rfl) h
theorem Fb(h:K (.j (.o [a,b,.none,d,c,.none,.none,.o []])) []):FF 54 [.j (.o ([(.none,a),(.none,b),(some dA,c),(some ck,d)].map aX)),.j (.o (kj.map V.str)),.j .none] K X:=
 sy (u1:=[0,0,2,2]) (f1:=[(ck,.int 3),(dA,.int 2)]) (us':=[2,2,2,2]) (fd':=[(ck,.int 3),(dA,.int 2),(sX,.int 0),(nU,.int 1)]) (pe:=4) (le_of_ble_eq_true rfl) (le_of_ble_eq_true rfl) (by kernel_rfl) (by kernel_rfl) (by kernel_rfl) (by kernel_rfl) (by kernel_rfl) (by kernel_rfl) (by kernel_rfl) (by kernel_rfl) h
theorem Eo(h:K (.j (.o [a,b,e,d,c,.none,f,.o []])) []):FF 54 [.j (.o ([(.none,a),(.none,b),(some dA,c),(some ck,d),(some d9,e),(some iC,f)].map aX)),.j (.o (kj.map V.str)),.j .none] K X:=
 sy (u1:=[0,0,2,2,2,2]) (f1:=[(d9,.int 4),(ck,.int 3),(dA,.int 2),(iC,.int 5)]) (us':=[2,2,2,2,2,2]) (fd':=[(d9,.int 4),(ck,.int 3),(dA,.int 2),(iC,.int 5),(sX,.int 0),(nU,.int 1)]) (pe:=6) (le_of_ble_eq_true rfl) (le_of_ble_eq_true rfl) (by kernel_rfl) (by kernel_rfl) (by kernel_rfl) (by kernel_rfl) (by kernel_rfl) (by kernel_rfl) (by kernel_rfl) (by kernel_rfl) h
theorem FW(h:K (.j (.o [a,b,.o []])) []):FF 54 [.j (.o ([(.none,a),(.none,b)].map aX)),.j (.o (Ma.map V.str)),.j .none] K X:=
 sy (u1:=[0,0]) (f1:=[]) (us':=[2,2]) (fd':=[(sX,.int 0),(K6,.int 1)]) (pe:=1) (le_of_ble_eq_true rfl) (le_of_ble_eq_true rfl) (by kernel_rfl) (by kernel_rfl) (by kernel_rfl) (by kernel_rfl) (by kernel_rfl) (by kernel_rfl) (by kernel_rfl) (by kernel_rfl) h
noncomputable def nF(ps:List PR)(i:Nat):PR:=ps.getD i (0,1)
theorem rM(h:i<ps.length):ps[i]? =some (nF ps i):=by
 unfold nF;rw[getD_eq_getElem?_getD,getElem?_eq_getElem h];rfl
noncomputable abbrev SP(ps:List PR)(l:List Nat):Prop:=l.Pairwise λi j=>aK (nF ps i) (nF ps j)≤0
noncomputable def nV(l:List Nat):List V:=l.map λ(i:Nat)=>V.int i
noncomputable def vD(ps:List PR):V:=gP aW (.o (ps.map ah)) .none
theorem xX{i p:Nat}(e:l[i]? =some p):(nV l)[i]? =some (.int p):=by unfold nV;rw[getElem?_map,e];rfl
theorem dY(l):(nV l).length=l.length:=by unfold nV;rw[length_map]
section
variable{K:Rv→List Mine.Internal.S→Prop}{X:Str→Prop}{ps:List PR}
theorem rb(H:aM p)(h:K (.j (.bool false)) []):FF 55 [.j (.str aW),.j (ah p)] K X:=by
 refine cX 55 rfl rfl rfl λG g=> ?_;apply CR rfl rfl;refine⟨af rfl,cY (CZ p (0,0)) ?_⟩;have:decide (p=((0,0):PR))=false:=decide_eq_false λz=>of_decide_eq_false H.na ⟨by rw[z],by rw[z]⟩;rw[this];exact h
theorem ES(H:aM p)(Q:aM q)(h:K (.j (.int (aK p q))) []):FF 56 [.j (.str aW),.j (ah p),.j (ah q)] K X:=by
 refine cX 56 rfl rfl rfl λG g=> ?_;apply CR rfl rfl;exact g.c 14 rfl _ _ _ (cR H Q h)
theorem w8(h:K (.j .none) []):FF 57 [.j (gP aW i a)] K X:=by
 refine cX 57 rfl rfl rfl λG H=> ?_;refine⟨af rfl,Cz (ss:=[eZ,aS,aW,bJ]) rfl rfl h⟩
theorem Cn(H:∀p∈ps,aM p)(I:i<ps.length)(J:j<ps.length)(h:K (.j (.int (aK (nF ps i) (nF ps j)))) []):FF 58 [.j (vD ps),vi i,vi j,.j (.bool false),.j (.bool true)] K X:=by
 refine cX 58 rfl rfl rfl λG g=> ?_;have E:=rM I;have y:=rM J;have N:=H _ (mem_of_getElem? E);have n:=H _ (mem_of_getElem? y);refine aw (λk d=>az (aC (by rw[List.getElem?_map,E];rfl)) d) (aa rfl) ?_;refine aw (ρ1:=[.j (vD ps),vi i,vi j,.j (.bool false),.j (.bool true),.j (ah (nF ps i)),.y,.y,.y,.y]) (λk d=>az (aC (by rw[List.getElem?_map,y];rfl)) d) (aa rfl) ?_;refine g.c 55 rfl _ _ _ (rb N ?_);refine g.c 55 rfl _ _ _ (rb n ?_);refine ik (aU (λ_ h=>h) (λq=>by cases q) λ_=>ae ?_);refine ai (λ_ h=>h) (λq=>by cases q) λ_=>ae ?_;refine ai (λ_ h=>h) (λq=>by cases q) λ_=>ae ?_;exact g.c 56 rfl _ _ _ (ES N n h)
theorem IM(H:∀p∈ps,aM p)(I:i<ps.length)(J:j<ps.length)(h:K (.j (.int (aK (nF ps i) (nF ps j)))) []):FF 59 [.j (.o [vD ps]),vi i,vi j,.j (.o [.bool false]),.j (.bool true)] K X:=by
 refine cX 59 rfl rfl rfl λG g=> ?_;refine cU (items:=[.int 0]) (λ_ h=>h) (λn ρ=>∃S s,fu S∧fu s∧ρ=[.j (.o [vD ps]),vi i,vi j,.j (.o [.bool false]),.j (.bool true),S,s]∧(n=1→aK (nF ps i) (nF ps j)=0)) ⟨.y,.y,.inl rfl,.inl rfl,rfl,λz=>by cases z⟩ ?_ ?_
 ·rintro n v ρ e ⟨S,s,h5,h6,rfl,_⟩
  refine⟨aq rfl h5,λR r=> ?_⟩;obtain rfl:v=.int 0:=by
   cases n with
   |zero=>cases e;rfl
   |succ n=>simp at e
  refine aw (λk d=>g.c 58 rfl _ _ _ (Cn H I J d)) (aq rfl h6) ?_;refine ai (λ_ h=>h) (λq=> ?_) λq=> ?_
  ·exact h
  ·exact ae (ae (r _ ⟨_,_,.inr ⟨_,rfl⟩,.inr ⟨_,rfl⟩,rfl,λ_=>of_decide_eq_true ((Bool.not_eq_false' _).mp q)⟩))
 ·rintro ρ ⟨S,s,h5,h6,rfl,z⟩
  rw[z rfl]at h;exact h
theorem lM(h:i≤n):ay n i=i:=by
 unfold ay bX;rw[decide_eq_true (by exact zm 92741 rfl _)];exact zl 0x29a176156b04037 rfl h
theorem Rm{n i b:Nat}(h:i<n):(n-((i:Int)+1).toNat)+b<(n-(i:Int).toNat)+b:=Nat.add_lt_add_right (Nat.sub_lt_sub_left h (lt_succ_self i)) b
theorem Rt{n i b:Nat}(h:i<n):b+(n-((i:Int)+1).toNat)<b+(n-(i:Int).toNat):=Nat.add_lt_add_left (Nat.sub_lt_sub_left h (lt_succ_self i)) b
theorem FE(H:∀p∈ps,aM p)(L:∀i∈left,i<ps.length)(u:∀i∈right,i<ps.length)(h1:left.length≤1000)(h2:right.length≤1000)(U:SP ps left)(Q:SP ps right)(h:∀l,l.Perm (left++right)→SP ps l→K (.j (.o (nV l))) []):
 FF 60 [.j (.o (nV left)),.j (.o (nV right)),.j (.o [vD ps]),.j (.o [.bool false]),.j (.bool true)] K X:=by
 refine fE 60 rfl rfl λG C=> ?_;have g:aA=1000000:=rfl;have N:∀{i},i<ps.length→aM (nF ps i):=λh=>H _ (mem_of_getElem? (rM h));refine aw (λ_ h=>⟨af rfl,h⟩) (aa rfl) (aw (λ_ h=>h) (aa rfl) (aw (λ_ h=>h) (aa rfl) ?_));refine jG (λρ=>∃m i j,i≤left.length∧j≤right.length∧m.Perm (left.take i++right.take j)∧SP ps m∧(∀a∈m,∀b,b∈left.drop i∨b∈right.drop j→aK (nF ps a) (nF ps b)≤0)∧ρ=[.j (.o (nV left)),.j (.o (nV right)),.j (.o [vD ps]),.j (.o [.bool false]),.j (.bool true),.U (nV m),vi i,vi j])
  (λρ=>match ρ with|[_,_,_,_,_,_,.j (.int i),.j (.int j)]=>(left.length-i.toNat)+(right.length-j.toNat)|_=>0) ⟨[],0,0,zm 2984 rfl _,zm 2984 rfl _,by simp,.nil,λa h=>(by cases h),rfl⟩ ?_
 rintro ρ ⟨m,i,j,M,D,P,T,B,rfl⟩ o O;have lm:m.length≤2000:=by have:=P.length_eq;rw[List.length_append,length_take,length_take]at this;exact zl 0x11b5bab6d9a66385f4960f7ff06bd15cf rfl h1 h2 this
 have done:left.drop i=[]∨right.drop j=[]→ex G (.cons (.ret (.Y (.w .add (.w .add (.d 5) (.sl (.d 0) (.D (.d 6)) .no)) (.sl (.d 1) (.D (.d 7)) .no)))) .nil) [.j (.o (nV left)),.j (.o (nV right)),.j (.o [vD ps]),.j (.o [.bool false]),.j (.bool true),.U (nV m),vi i,vi j] (λρ=>K (.j .none) (ba [.j (.o (nV left)),.j (.o (nV right)),.j (.o [vD ps]),.j (.o [.bool false]),.j (.bool true)] ρ)) (λ_=>False) (λr ρ=>K r (ba [.j (.o (nV left)),.j (.o (nV right)),.j (.o [vD ps]),.j (.o [.bool false]),.j (.bool true)] ρ)) X:=by
  intro z;have sl:∀{l:List Nat}{i:Nat},i≤l.length→((nV l).take (nV l).length).drop (ay (nV l).length (i:Int))=nV (l.drop i):=λ{l i}h=>by
   rw[take_length,lM (by rw[dY];exact h)];unfold nV;rw[map_drop]
  have e:nV m++((nV left).take (nV left).length).drop (ay (nV left).length i)++((nV right).take (nV right).length).drop (ay (nV right).length j)=nV (m++left.drop i++right.drop j):=by
   rw[sl M,sl D];unfold nV;rw[map_append,map_append]
  refine⟨?_,?_,?_⟩
  ·show(nV m).length+(((nV left).take (nV left).length).drop (ay (nV left).length i)).length≤aA
   rw[sl M,dY,dY,length_drop];exact zl 0xbb472cd15206acb1b33dc00e2941515cf rfl h1 g lm
  ·show(nV m++((nV left).take (nV left).length).drop (ay (nV left).length i)).length+(((nV right).take (nV right).length).drop (ay (nV right).length j)).length≤aA
   rw[List.length_append,sl M,sl D,dY,dY,dY,length_drop,length_drop];exact zl 0x19052700908b36a55d52ab235f87c71afc0fcff06bd15cf rfl h1 h2 g lm
  ·show K (.j (.o (nV m++((nV left).take (nV left).length).drop (ay (nV left).length i)++((nV right).take (nV right).length).drop (ay (nV right).length j)))) _
   rw[e];apply h _
   ·have p1:(m++left.drop i++right.drop j).Perm ((left.take i++right.take j)++(left.drop i++right.drop j)):=by
     rw[List.append_assoc];exact P.append_right _
    apply p1.trans;have E:left=left.take i++left.drop i:=(take_append_drop ..).symm;have f:right=right.take j++right.drop j:=(take_append_drop ..).symm
    conv=>rhs;rw[E,f]
    rw[List.append_assoc,List.append_assoc];refine Perm.append_left _ ?_;rw[←List.append_assoc,←List.append_assoc];exact perm_append_comm.append_right _
   ·have S:=U.sublist (drop_sublist i left)
    have s:=Q.sublist (drop_sublist j right);rcases z with z|z
    ·rw[z,append_nil]
     refine pairwise_append.mpr ⟨T,s,λa W b hb=>B a W b (.inr hb)⟩
    ·rw[z,append_nil]
     refine pairwise_append.mpr ⟨T,S,λa W b hb=>B a W b (.inl hb)⟩
 refine aU (b:=decide ((i:Int)<left.length)) (λk d=>by rw[←dY left]at d;exact d) (λz=> ?_) λz=> ?_
 ·have Z:i<left.length:=by have:=of_decide_eq_true z;exact zl 23760048736 rfl this
  refine bO (b:=decide ((j:Int)<right.length)) (λk d=>by rw[←dY right]at d;exact d) (λz=> ?_) λz=> ?_
  ·have J:j<right.length:=by have:=of_decide_eq_true z;exact zl 23760048736 rfl this
   have E:left[i]? =some left[i]:=by simp[Z]
   have f:right[j]? =some right[j]:=by simp[J]
   have d1:=drop_eq_getElem_cons Z;have d2:=drop_eq_getElem_cons J;have t:left.take (i+1)=left.take i++[left[i]]:=by rw[take_add_one,E];rfl
   have R:right.take (j+1)=right.take j++[right[j]]:=by rw[take_add_one,f];rfl
   have A:=L left[i] (getElem_mem Z);have pb:=u right[j] (getElem_mem J);have S:=U.sublist (drop_sublist i left);have s:=Q.sublist (drop_sublist j right);generalize left[i]=a at E d1 t A;generalize right[j]=b at f d2 R pb;rw[d1]at S;rw[d2]at s;rw[d1,d2]at B;have S:=pairwise_cons.mp S;have s:=pairwise_cons.mp s;have F:(nV m).length<aA:=by rw[dY];exact zl 0x13d90ea96786719419da55 rfl g lm
   have v:∀a:Nat,nV m++[V.int a]=nV (m++[a]):=λa=>by unfold nV;rw[map_append];rfl
   refine ai (b:=decide (aK (nF ps a) (nF ps b)≤0)) (ρ':=[.j (.o (nV left)),.j (.o (nV right)),.j (.o [vD ps]),.j (.o [.bool false]),.j (.bool true),.U (nV m),vi i,vi j]) (λk d=> ?_) (λq=> ?_) λq=> ?_
   ·refine az (aC (xX E)) ?_
    refine az (aC (xX f)) ?_;exact C.c 59 rfl _ _ _ (IM H A pb d)
   ·have q:=of_decide_eq_true q
    refine eV rfl (λk d=>az (aC (xX E)) d) rfl F ?_;show ex G _ [.j (.o (nV left)),.j (.o (nV right)),.j (.o [vD ps]),.j (.o [.bool false]),.j (.bool true),.U (nV m++[V.int a]),vi i,vi j] _ _ _ _;rw[v];refine O _ ⟨m++[a],i+1,j,Z,D,?_,?_,?_,rfl⟩ (Rm Z)
    ·rw[t,List.append_assoc]
     refine((P.append_right [a]).trans ?_);rw[List.append_assoc];exact perm_append_comm.append_left _
    ·exact pairwise_append.mpr ⟨T,pairwise_singleton ..,λx I y Y=>by rw[mem_singleton]at Y;subst Y;exact B x I y (.inl (.head _))⟩
    ·intro x I y Y
     rcases mem_append.mp I with I|I
     ·apply B x I y
      rcases Y with Y|Y
      ·exact .inl (.tail _ Y)
      ·rw[d2]at Y;exact .inr Y
     ·rw[mem_singleton]at I;subst I
      rcases Y with Y|Y
      ·exact S.1 y Y
      ·rw[d2]at Y
       rcases mem_cons.mp Y with rfl|Y
       ·exact q
       ·exact cT (N A) (N pb) (N (u y (mem_of_mem_drop Y))) q (s.1 y Y)
   ·have q:=of_decide_eq_false q
    have q:aK (nF ps b) (nF ps a)≤0:=by rw[bQ];exact zl 834191057200 rfl q
    refine eV rfl (λk d=>az (aC (xX f)) d) rfl F ?_;show ex G _ [.j (.o (nV left)),.j (.o (nV right)),.j (.o [vD ps]),.j (.o [.bool false]),.j (.bool true),.U (nV m++[V.int b]),vi i,vi j] _ _ _ _;rw[v];refine O _ ⟨m++[b],i,j+1,M,J,?_,?_,?_,rfl⟩ (Rt J)
    ·rw[R,←List.append_assoc]
     exact P.append_right [b]
    ·exact pairwise_append.mpr ⟨T,pairwise_singleton ..,λx I y Y=>by rw[mem_singleton]at Y;subst Y;exact B x I y (.inr (.head _))⟩
    ·intro x I y Y
     rcases mem_append.mp I with I|I
     ·apply B x I y
      rcases Y with Y|Y
      ·rw[d1]at Y;exact .inl Y
      ·exact .inr (.tail _ Y)
     ·rw[mem_singleton]at I;subst I
      rcases Y with Y|Y
      ·rw[d1]at Y
       rcases mem_cons.mp Y with rfl|Y
       ·exact q
       ·exact cT (N pb) (N A) (N (L y (mem_of_mem_drop Y))) q (S.1 y Y)
      ·exact s.1 y Y
  ·exact done (.inr (drop_eq_nil_of_le (by have:=of_decide_eq_false z;exact zl 2726871714342 rfl this)))
 ·exact done (.inl (drop_eq_nil_of_le (by have:=of_decide_eq_false z;exact zl 2726871714342 rfl this)))
end
noncomputable def rV(m:List (List Nat)):List V:=m.map λl=>V.o (nV l)
theorem Dm{i:Nat}(e:m[i]? =some r):(rV m)[i]? =some (.o (nV r)):=by unfold rV;rw[getElem?_map,e];rfl
theorem dC(l):(rV l).length=l.length:=by unfold rV;rw[length_map]
theorem FZ:∀l:List Nat,(l.map λi=>[i]).flatten=l
|[]=>rfl
|i::l=>by rw[map_cons,flatten_cons,FZ l];rfl
theorem HT(h:∀k,k (.j (.int m)) ρ1→ev G e ρ k X)(H:0≤m)(h1:m≤1000)(d:k (ao 0 ((m-0+1).fdiv 2).toNat 2) ρ1):qS G (.eX (.cons (.p 0) (.cons e (.cons (.p 2) .nil)))) ρ k X:=by
 apply h _;show(match dG [.int 0,.int m,.int 2]with|some l=>k l ρ1|.none=>False);have e:dG [.int 0,.int m,.int 2]=some (ao 0 ((m-0+1).fdiv 2).toNat 2):=by
  show(match vc 0 m with|true=>some (ao 0 ((m-0+1).fdiv 2).toNat 2)|false=>.none)=_;have e:vc 0 m=true:=by
   unfold vc;rw[decide_eq_true (by decide)];exact decide_eq_true (zl 0xafb614444e773f451d rfl H h1)
  rw[e]
 rw[e];exact d
theorem Hq(P:Rv→Prop)(J:ρ[i]? =some (.U L))(h:∀k:Rv→R→Prop,(∀v,P v→k v ρ1)→ev G e ρ k X)(g:ρ1[i]? =some (.U l))(H:l.length<aA)(h1:∀v,P v→ex G r (ρ1.set i (.U (l++[v.v]))) x C t X):ex G (.cons (.lZ i e) r) ρ x C t X:=by
 show(match(ρ[i]?).bind dk with|some _=>_|.none=>False);rw[J];refine h _ λv V=> ?_;show(match ρ1[i]? with|some s=>_|.none=>False);rw[g];show(match(match decide (l.length<aA)with|true=>some (l++[v.v])|false=>.none)with|some l=>_|.none=>False);rw[decide_eq_true H];exact h1 v V
theorem Fm(H:∀p∈ps,aM p)(f:∀i∈L,i<ps.length)(g:L≠[])(h1:L.length≤1000)(h:∀l,l.Perm L→SP ps l→K (.j (.o (nV l))) []):
 FF 61 [.j (.o (nV L)),.j (.o [vD ps]),.j (.o [.bool false]),.j (.bool true)] K X:=by
 refine cX 61 rfl rfl rfl λG A=> ?_;have Q:aA=1000000:=rfl;refine aw (v:=.j (.o (rV (L.map λi=>[i])))) (ρ1:=[.j (.o (nV L)),.j (.o [vD ps]),.j (.o [.bool false]),.j (.bool true),.y,.y,.y,.y]) (λk d=> ?_) (aa rfl) ?_
 ·refine gv (fC (λ_ h=>h) (by rw[dY];exact zl 0x29d4ecdc00e2941515cf rfl h1 Q) (aa rfl) (λv=>.o [v]) ?_ ?_)
  ·intro v hv k d
   exact⟨af rfl,d _ rfl⟩
  ·have e:(nV L).map (λv=>V.o [v])=rV (L.map λi=>[i]):=by unfold nV rV;rw[map_map,map_map];rfl
   rw[e];exact d
 have W:=λz=>g (length_eq_zero_iff.mp z);have w:(rV (L.map λi=>[i])).length=L.length:=by rw[dC,length_map]
 refine ai (λ_ h=>h) (λq=> ?_) λ_=>ae ?_
 ·have:=of_decide_eq_true q;exact(zl 0x15c05f718ec02f8d rfl W w this).elim
 refine jG (λρ=>∃(R:List (List Nat))(t S s:Mine.Internal.S),fu t∧fu S∧fu s∧1≤R.length∧R.flatten.Perm L∧R.length≤1000∧(∀r∈R,SP ps r)∧ρ=[.j (.o (nV L)),.j (.o [vD ps]),.j (.o [.bool false]),.j (.bool true),.j (.o (rV R)),t,S,s])
  (λρ=>match ρ with|[_,_,_,_,.j (.o l),_,_,_]=>l.length|_=>0) ⟨L.map λi=>[i],.y,.y,.y,.inl rfl,.inl rfl,.inl rfl,by rw[List.length_map];exact zl 11270344333 rfl W,by rw[FZ],by rw[List.length_map];exact zl 0xa47fc06515cf rfl h1,λr y=>by obtain⟨i,_,rfl⟩:=mem_map.mp y;exact pairwise_singleton ..,rfl⟩ ?_
 rintro ρ ⟨R,t,S,s,x,F,Y,o,P,D,C,rfl⟩ ih U;have n:∀r∈R,(∀i∈r,i<ps.length)∧r.length≤1000:=λr y=>⟨λi c=>f i (P.mem_iff.mp (mem_flatten.mpr ⟨r,y,c⟩)),by
  have:=(sublist_flatten_of_mem y).length_le;rw[P.length_eq]at this;exact zl 0x30ed6130561d15cf rfl h1 this⟩
 refine AW (b:=decide ((1:Int)<R.length)) (λk d=>by rw[←dC R]at d;exact d) (λq=> ?_) λq=> ?_
 ·have q:1<R.length:=by have:=of_decide_eq_true q;exact zl 2980663802 rfl this
  refine aw (λ_ h=>⟨af rfl,h⟩) (aq rfl x) ?_;have en:(((R.length:Int)-1-0+1).fdiv 2).toNat=R.length/2:=by
   rw[Int.fdiv_eq_ediv_of_nonneg _ (by decide),show((R.length:Int)-1-0+1)=R.length from zm 796873965635629 rfl _];rfl
  refine cU (items:=ao 0 (R.length/2) 2) (λk d=> ?_) (λj ρ=>∃(I:List (List Nat))(S:Mine.Internal.S),fu S∧I.length=j∧I.flatten.Perm (R.take (2*j)).flatten∧(∀r∈I,SP ps r)∧ρ=[.j (.o (nV L)),.j (.o [vD ps]),.j (.o [.bool false]),.j (.bool true),.j (.o (rV R)),.U (rV I),S,s]) ⟨[],S,F,rfl,by simp,λr y=>(by cases y),rfl⟩ ?_ ?_
  ·refine HT (m:=((rV R).length:Int)-1) ?_ (by rw[dC];exact zl 4379253220667 rfl q) (by rw[dC];exact zl 0x524008b3f2bd15cf rfl D) (by rw[dC,en];exact d)
   exactλ_ h=>h
  ·rintro j v ρ e ⟨I,S,F,J,M,u,rfl⟩
   refine⟨aq rfl F,λRA y=> ?_⟩;obtain⟨N,rfl⟩:j<R.length/2∧v=.int (0+2*j):=by
    unfold ao at e;rw[getElem?_map]at e;obtain⟨j',E,rfl⟩:=Option.map_eq_some_iff.mp e;obtain⟨h1,h2⟩:=List.getElem?_eq_some_iff.mp E;simp at h1 h2;subst h2;exact⟨zl 0x2c79ea2b7e0ec16351145344e364dd rfl (d2 _) h1,rfl⟩
   have E:R[2*j]? =some R[2*j]:=by simp[show 2*j<R.length from zl 0xb0d1e56b9a22c6c16351145344e364dd rfl (d2 _) N]
   have B:R[2*j+1]? =some R[2*j+1]:=by simp[show 2*j+1<R.length from zl 0x2c449761860c44366c16351145344e364dd rfl (d2 _) N]
   have m1:=mem_of_getElem? E;have m2:=mem_of_getElem? B;generalize R[2*j]=a at E m1;generalize R[2*j+1]=b at B m2;have T:(R.take (2*(j+1))).flatten=(R.take (2*j)).flatten++(a++b):=by
    rw[show 2*(j+1)=2*j+1+1 from zm 0x1106f4aeb86c465c rfl _,List.take_add_one,List.take_add_one,E,B];simp
   refine Hq (ρ1:=[.j (.o (nV L)),.j (.o [vD ps]),.j (.o [.bool false]),.j (.bool true),.j (.o (rV R)),.U (rV I),vi (0+2*(j:Int)),s]) (λv=>∃l,v=.j (.o (nV l))∧l.Perm (a++b)∧SP ps l) rfl (λk d=> ?_) rfl (by rw[dC];exact zl 0xa8d7ed2f36d402ed39e9f5b600fee1702a926d35c5a2740bcdd rfl (d2 _) Q D J N) ?_
   ·refine az (cm (zm 97294095877 rfl _) (Dm (by rw[show(0+2*(j:Int)).toNat=2*j from zm 831980919723442 rfl _];exact E))) ?_
    refine az (cm (zm 0x86d4e5c2ae05 rfl _) (Dm (by rw[show(0+2*(j:Int)+1).toNat=2*j+1 from zm 0x437a5786d4e5c2adb2 rfl _];exact B))) ?_;exact A.c 60 rfl _ _ _ (FE H (n a m1).1 (n b m2).1 (n a m1).2 (n b m2).2 (C a m1) (C b m2) λl L sl=>d _ ⟨l,rfl,L,sl⟩)
   ·rintro v ⟨l,rfl,L,sl⟩
    have O:rV I++[V.o (nV l)]=rV (I++[l]):=by unfold rV;rw[map_append];rfl
    refine y _ ⟨I++[l],vi (0+2*j),.inr ⟨_,rfl⟩,by simp[J],?_,λr y=> ?_,?_⟩
    ·rw[T,flatten_append,flatten_singleton]
     exact(M.append_right _).trans (L.append_left _)
    ·rcases mem_append.mp y with y|y
     ·exact u r y
     ·rw[mem_singleton]at y;subst y;exact sl
    ·rw[←O];rfl
  ·rintro ρ ⟨I,S,F,J,M,u,rfl⟩
   have ln:(ao 0 (R.length/2) 2).length=R.length/2:=by simp[ao]
   rw[ln]at J M;have em:((R.length:Int).fmod 2)=(R.length%2:Nat):=by rw[Int.fmod_eq_emod_of_nonneg _ (by decide)];rfl
   refine ai (λk d=>⟨by decide,by
    rw[dC,em];exact d⟩) (λq=> ?_) λq=> ?_
   ·have q:R.length%2=1:=by have:=of_decide_eq_true q;exact zl 0x3b81bd66748fab1fc3c6b7659370cdd rfl (d2 _) this
    have E:R[R.length-1]? =some R[R.length-1]:=by simp[show R.length-1<R.length from zl 0x1cb1aeb4bf082369fc3c6b7659370cdd rfl (d2 _) q]
    have m1:=mem_of_getElem? E;generalize R[R.length-1]=a at E m1;have T:R.flatten=(R.take (2*(R.length/2))).flatten++a:=by
     have:R=R.take (2*(R.length/2))++[a]:=by
      conv=>lhs;rw[←take_length (l:=R),show R.length=2*(R.length/2)+1 from zl 0x76f2bd7aa1836d0369fc3c6b7659370cdd rfl (d2 _) q,take_add_one,show 2*(R.length/2)=R.length-1 from zl 0x76dcd378b1ed6b7f69fc3c6b7659370cdd rfl (d2 _) q,E]
      rw[show 2*(R.length/2)=R.length-1 from zl 0x76dcd378b1ed6b7f69fc3c6b7659370cdd rfl (d2 _) q];rfl
     conv=>lhs;rw[this]
     rw[flatten_append,flatten_singleton]
    refine eV rfl (λk d=>az (gM (by rw[List.getLast?_eq_getElem?,dC];exact Dm E)) d) rfl (by rw[dC];exact zl 0x76cac6fe928ae09f5b600fd30ebea0fb5e415a269a5cdd rfl (d2 _) Q D J) (ae ?_);have O:rV I++[V.o (nV a)]=rV (I++[a]):=by unfold rV;rw[map_append];rfl
    show bG [.j (.o (nV L)),.j (.o [vD ps]),.j (.o [.bool false]),.j (.bool true),.j (.o (rV R)),.j (.o (rV I++[V.o (nV a)])),S,s] 4 (.j (.o (rV I++[V.o (nV a)]))) _;rw[O];refine U _ ⟨I++[a],.j (.o (rV (I++[a]))),S,s,.inr ⟨_,rfl⟩,F,Y,by simp,?_,by simp;exact zl 0x55104f991144c1ac0bcee196351144e5960a4dd rfl (d2 _) D J,λr y=> ?_,rfl⟩ (by show(rV (I++[a])).length<(rV R).length;rw[dC,dC];simp;rename_i Z _;exact zl 0x13a82e6ac465608b38fb937996351144e5960a4dd rfl (d2 _) Z J q)
    ·rw[flatten_append,flatten_singleton]
     rw[T]at P;exact(M.append_right _).trans P
    ·rcases mem_append.mp y with y|y
     ·exact u r y
     ·rw[mem_singleton]at y;subst y;exact C _ m1
   ·have q:R.length%2=0:=by have:=of_decide_eq_false q;exact zl 0x1bff2f6ef1d4da001fc3c6b7659370cdd rfl (d2 _) this
    rw[take_of_length_le (by exact zl 0x1d42ef87a158a329fc3c6b7659370cdd rfl (d2 _) q)]at M;refine ae (U _ ⟨I,.j (.o (rV I)),S,s,.inr ⟨_,rfl⟩,F,Y,by rename_i Z _;exact zl 0x53b2316b22b69137996351144e5960a4dd rfl (d2 _) Z J,M.trans P,zl 0x5510d474de7767ac0bcee196351144e5960a4dd rfl (d2 _) D J,u,rfl⟩ (by show(rV I).length<(rV R).length;rw[dC,dC];rename_i Z _;exact zl 0x14c75a3a07e87137996351144e5960a4dd rfl (d2 _) Z J))
 ·have q:R.length=1:=by have:=of_decide_eq_false q;exact zl 0x38fe281ef9ac30 rfl o this
  match R,q with
  |[r],_=>
   exact h r (by simpa using P) (C r (.head _))
theorem v7(h:K (.j (.o [.bool false])) []):FF 62 [.j (.bool false),vi 1] K X:=by
 refine fE 62 rfl rfl λG H=> ?_;exact⟨af rfl,by decide,by decide,h⟩
theorem Je{b:Bool}(H:ps.length≤100)(h:K (.j (.o (nV (List.range ps.length)))) []):FF 63 [.j (.o [vD ps]),.j (.bool b)] K X:=by
 refine cX 63 rfl rfl rfl λG g=> ?_;have L:aA=1000000:=rfl;refine aw (v:=.U []) (λ_ h=>⟨af rfl,h⟩) (aa rfl) ?_;refine cU (items:=ao 0 ps.length 1) (λk d=> ?_) (λj ρ=>∃s B S,fu s∧fu B∧ρ=[.j (.o [vD ps]),.j (.bool b),.U (nV (List.range j)),s,B,S]) ⟨.y,.y,.y,.inl rfl,.inl rfl,rfl⟩ ?_ ?_
 ·refine hZ (e:=.call 33 (.cons (.sub (.d 0) (.p 0)) .nil)) (m:=((ps.map ah).length:Int)) (λk d=> ?_) (zm 92741 rfl _) (by rw[List.length_map];exact zl 0xb6c51adc3b1cf rfl H) (by rw[List.length_map];exact d)
  exact g.c 33 rfl _ _ _ (kJ rfl rfl d)
 ·rintro j v ρ e ⟨s,B,S,h3,h4,rfl⟩
  refine⟨aq rfl h3,λR r=> ?_⟩;obtain⟨J,rfl⟩:j<ps.length∧v=.int (j:Int):=by
   unfold ao at e;rw[List.getElem?_map]at e;obtain⟨N,E,rfl⟩:=Option.map_eq_some_iff.mp e;obtain⟨h1,h2⟩:=List.getElem?_eq_some_iff.mp E;simp at h1 h2;subst h2;exact⟨zl 23203010 rfl h1,by congr 1;exact zm 776670703789 rfl _⟩
  refine aw (v:=.j (.bool true)) (λ_ h=>h) (aq rfl h4) ?_;refine ai (b:=false) (λ_ h=>h) (λq=>by cases q) λ_=>ae ?_;refine ai (b:=true) (λ_ h=>h) (λ_=> ?_) (λq=>by cases q);refine eV (ρ1:=[.j (.o [vD ps]),.j (.bool b),.U (nV (List.range j)),vi j,.j (.bool true),S]) (l:=nV (List.range j)) (v:=.j (.int j)) rfl (λ_ h=>h) rfl (by rw[dY,List.length_range];exact zl 0xf7832eeac0c00e2926bb1cf rfl H L J) (ae (ae ?_));refine r _ ⟨vi j,.j (.bool true),S,.inr ⟨_,rfl⟩,.inr ⟨_,rfl⟩,?_⟩;rw[List.range_succ];unfold nV;rw[List.map_append];rfl
 ·rintro ρ ⟨s,B,S,h3,h4,rfl⟩
  rw[j7];exact h
theorem w0(Y:∀p∈ps,aM p)(g:ps≠[])(H:ps.length≤100)(h:∀l,l.Perm (List.range ps.length)→SP ps l→K (.j (.o (nV l))) []):FF 64 [.j (.o [vD ps]),.j (.bool false),.j (.bool true)] K X:=by
 refine cX 64 rfl rfl rfl λG O=> ?_;refine ai (b:=false) (λ_ h=>h) (λq=>by cases q) λ_=>ae ?_;refine cU (items:=[vD ps]) (λ_ h=>h) (λj ρ=>∃S,fu S∧ρ=[.j (.o [vD ps]),.j (.bool false),.j (.bool true),S,.y]) ⟨.y,.inl rfl,rfl⟩ ?_ ?_
 ·rintro j v ρ e ⟨S,h3,rfl⟩
  refine⟨aq rfl h3,λR r=> ?_⟩;obtain rfl:v=vD ps:=by
   cases j with
   |zero=>cases e;rfl
   |succ n=>simp at e
  refine O.c 57 rfl _ _ _ (w8 ?_);refine O.c 33 rfl _ _ _ (kJ rfl rfl ?_);refine O.c 33 rfl _ _ _ (kJ rfl rfl ?_);refine ai (b:= !decide ((((ps.map ah).length:Nat):Int)=((ps.map ah).length:Nat))) (ρ':=[.j (.o [vD ps]),.j (.bool false),.j (.bool true),.j (vD ps),.y]) (ρ:=[.j (.o [vD ps]),.j (.bool false),.j (.bool true),.j (vD ps),.y]) (c:=.D (.ag .ne (.p ((ps.map ah).length:Nat)) (.p ((ps.map ah).length:Nat)))) (G:=G) (λ_ h=>h) (λq=> ?_) λ_=>ae ?_
  ·rw[decide_eq_true rfl]at q;cases q
  ·exact ae (r _ ⟨_,.inr ⟨_,rfl⟩,rfl⟩)
 ·rintro ρ ⟨S,h3,rfl⟩
  refine O.c 62 rfl _ _ _ (v7 ?_);refine O.c 63 rfl _ _ _ (Je H ?_);exact O.c 61 rfl _ _ _ (Fm Y (λi I=>List.mem_range.mp I) (by cases ps with|nil=>exact absurd rfl g|cons a l=>simp) (by simp;exact zl 0xa47fbebbb1cf rfl H) h)
theorem vk(H:∀p∈ps,aM p){l:List Nat}(u:l.Perm (List.range ps.length))(D:SP ps l):l.map (nF ps)=aI ps:=by
 refine rm H ?_ ?_
 ·have e:(List.range ps.length).map (nF ps)=ps:=by
   refine List.ext_getElem (by simp) λi h1 h2=> ?_;simp[nF,h2]
  have:=u.map (nF ps);rw[e]at this;exact this
 ·exact List.pairwise_map.mpr D
structure Qv(p:PR)(N D:Int)(i j:Nat):Prop where
 pos:0<p.2
 qn:Int.gcd p.1 p.2=1
 eq:p.1*D=N*p.2
 qG:0<D
 b1:p.1.natAbs<2^i
 b2:p.2.natAbs<2^j
theorem xr:rP n d*d=n*mw n d:=by
 have h1:=LF (n:=n) (d:=d);have h2:=LW (n:=n) (d:=d);generalize rP n d=a at*;generalize mw n d=b at*;generalize(Int.gcd n d)=g at*;rw[←h1,←h2];exact zr 79560928851769 rfl ..
theorem Dx{x y z:Int}(h:0<z)(e:x*z=y*z):x=y:=Int.eq_of_mul_eq_mul_right (zl 31155043112 rfl h) e
theorem Qv.rd(h:Qv p N RA i j)(hD:0<D')(e:N*D'=N'*RA):p=rd N' D':=by
 have E:=xr (n:=N') (d:=D');have:=yb h.pos (cq (n:=N') hD) h.qn (oW hD) (by
  apply Dx (Int.mul_pos hD h.qG);have V:=h.eq;generalize rP N' D'=a at*;generalize mw N' D'=b at*;generalize p.1=c at*;generalize p.2=f at*
  calc c*b*(D'*RA)=(c*RA)*b*D':=zr 0x375eca38c70fb9c719 rfl ..
   _=(N*D')*f*b:=by rw[V];exact zr 0x375eca38c70fd8e319 rfl ..
   _=(N'*b)*f*RA:=e▸zr 0x37384a38c70fd8e319 rfl _ _ _ _
   _=a*f*(D'*RA):=E▸zr 0x37533f21c70fd8e319 rfl _ _ _ _)
 exact Prod.ext this.1 this.2
theorem Qv.of(h:0<p.2)(g:Int.gcd p.1 p.2=1)(h1:p.1.natAbs<2^i)(h2:p.2.natAbs<2^j):Qv p p.1 p.2 i j:=⟨h,g,rfl,h,h1,h2⟩
theorem Qv.int(h:n.natAbs<2^i):Qv (n,1) n 1 i 1:=⟨(by decide:(0:Int)<1),Int.gcd_one_right _,rfl,by decide,h,(by decide:(1:Int).natAbs<2^1)⟩
theorem Qv.My(hd:0<d)(hD:0<RA)(e:n*RA=N*d)(h1:n.natAbs<2^i)(h2:d.natAbs<2^j):Qv (Mine.Internal.rd n d) N RA i j:=by
 refine⟨cq hd,oW hd,?_,hD,Nat.lt_of_le_of_lt (ou hd) h1,?_⟩
 ·have E:=xr (n:=n) (d:=d)
  show rP n d*RA=N*mw n d;generalize rP n d=a at*;generalize mw n d=b at*;apply Dx hd
  calc a*RA*d=(a*d)*RA:=zr 79560928839449 rfl ..
   _=(n*RA)*b:=E▸zr 79560928839449 rfl _ _ _
   _=N*b*d:=e▸zr 79560928839449 rfl _ _ _
 ·have A:=pY (n:=n) hd
  exact zl 0x1b155a7eabb8dc673 rfl h2 A (cq (n:=n) hd)
theorem jo{x:Int}{i:Nat}(h:x.natAbs<2^i)(l:Nat.ble i 40=true):x.natAbs<qR:=iE h (le_of_ble_eq_true l)
theorem CV(i:Nat)(h1:Qv p a b I J)(h2:Qv q e f M j)(l:(Nat.ble I 40&&Nat.ble J 40&&Nat.ble M 40&&Nat.ble j 40&&Nat.ble (I+j) i&&Nat.ble (M+J) i)=true)(h:∀r,Qv r (a*f+e*b) (b*f) (i+1) (J+j)→K (.j (ah r)) []):FF 7 [.j (ah p),.j (ah q)] K X:=by
 simp only[Bool.and_eq_true]at l;obtain⟨⟨⟨⟨⟨L,B⟩,Q⟩,Z⟩,P⟩,t⟩:=l;refine GF h1.pos h2.pos (jo h1.b1 L) (jo h1.b2 B) (jo h2.b1 Q) (jo h2.b2 Z) (h (rd (p.1*q.2+q.1*p.2) (p.2*q.2)) (.My (Int.mul_pos h1.pos h2.pos) (Int.mul_pos h1.qG h2.qG) ?_ ?_ (ml h1.b2 h2.b2)))
 ·have E:=h1.eq
  have V:=h2.eq;generalize p.1=x at*;generalize p.2=y at*;generalize q.1=z at*;generalize q.2=w at*
  calc(x*w+z*y)*(b*f)=(x*b)*w*f+(z*f)*y*b:=zr 0x7d3a747fb8c7bd911c62f3023e1f738dd99 rfl ..
   _=(a*f+e*b)*(y*w):=by rw[E,V];exact zr 0x1f4ddfe047c28dd9ef628f18e1fb1c62ed rfl ..
 ·exact Ae (iE (ml h1.b1 h2.b2) (le_of_ble_eq_true P)) (iE (ml h2.b1 h1.b2) (le_of_ble_eq_true t))
theorem B8(i:Nat)(h1:Qv p a b I J)(h2:Qv q e f M j)(l:(Nat.ble I 40&&Nat.ble J 40&&Nat.ble M 40&&Nat.ble j 40&&Nat.ble (I+j) i&&Nat.ble (M+J) i)=true)(h:∀r,Qv r (a*f-e*b) (b*f) (i+1) (J+j)→K (.j (ah r)) []):FF 8 [.j (ah p),.j (ah q)] K X:=by
 simp only[Bool.and_eq_true]at l;obtain⟨⟨⟨⟨⟨L,B⟩,Q⟩,Z⟩,P⟩,t⟩:=l;refine K5 h1.pos h2.pos (jo h1.b1 L) (jo h1.b2 B) (jo h2.b1 Q) (jo h2.b2 Z) (h (rd (p.1*q.2+(0-q.1)*p.2) (p.2*q.2)) (.My (Int.mul_pos h1.pos h2.pos) (Int.mul_pos h1.qG h2.qG) ?_ ?_ (ml h1.b2 h2.b2)))
 ·have E:=h1.eq
  have V:=h2.eq;generalize p.1=x at*;generalize p.2=y at*;generalize q.1=z at*;generalize q.2=w at*
  calc(x*w+(0-z)*y)*(b*f)=(x*b)*w*f-(z*f)*y*b:=zr 0x1f4e9d1fee31ef644718c2408f88130b38dd99 rfl ..
   _=(a*f-e*b)*(y*w):=by rw[E,V];exact zr 0x1f4ddfe047c28e05ef628f18e1fb1c6303 rfl ..
 ·have b2:=h2.b1
  exact Ae (iE (ml h1.b1 h2.b2) (le_of_ble_eq_true P)) (iE (ml (zl 30054314634867 rfl b2) h1.b2) (le_of_ble_eq_true t))
theorem C6(h1:Qv p a b I J)(h2:Qv q e f i j)(l:(Nat.ble I 40&&Nat.ble J 40&&Nat.ble i 40&&Nat.ble j 40)=true)(h:∀r,Qv r (a*e) (b*f) (I+i) (J+j)→K (.j (ah r)) []):FF 9 [.j (ah p),.j (ah q)] K X:=by
 simp only[Bool.and_eq_true]at l;obtain⟨⟨⟨L,B⟩,Q⟩,Z⟩:=l;refine Ml h1.pos h2.pos (jo h1.b1 L) (jo h1.b2 B) (jo h2.b1 Q) (jo h2.b2 Z) (h (rd (p.1*q.1) (p.2*q.2)) (.My (Int.mul_pos h1.pos h2.pos) (Int.mul_pos h1.qG h2.qG) ?_ (ml h1.b1 h2.b1) (ml h1.b2 h2.b2)));have E:=h1.eq;have V:=h2.eq;generalize p.1=x at*;generalize p.2=y at*;generalize q.1=z at*;generalize q.2=w at*
 calc(x*z)*(b*f)=(x*b)*(z*f):=zr 0x37533f21c70fb9c719 rfl ..
  _=(a*e)*(y*w):=by rw[E,V];exact zr 0x37533f21c70fb9c719 rfl ..
theorem yE(h1:Qv p a b I J)(h2:Qv q e f i j)(H:0<q.1)(O:0<e)(l:(Nat.ble I 40&&Nat.ble J 40&&Nat.ble i 40&&Nat.ble j 40)=true)(h:∀r,Qv r (a*f) (b*e) (I+j) (J+i)→K (.j (ah r)) []):FF 10 [.j (ah p),.j (ah q)] K X:=by
 simp only[Bool.and_eq_true]at l;obtain⟨⟨⟨L,B⟩,Q⟩,Z⟩:=l;refine Mp h1.pos h2.pos H (jo h1.b1 L) (jo h1.b2 B) (jo h2.b1 Q) (jo h2.b2 Z) (h (rd (p.1*q.2) (p.2*q.1)) (.My (Int.mul_pos h1.pos H) (Int.mul_pos h1.qG O) ?_ (ml h1.b1 h2.b2) (ml h1.b2 h2.b1)));have E:=h1.eq;have V:=h2.eq;generalize p.1=x at*;generalize p.2=y at*;generalize q.1=z at*;generalize q.2=w at*
 calc(x*w)*(b*e)=(x*b)*(e*w):=zr 0x37365f21c70fb9c719 rfl ..
  _=(a*f)*(y*z):=by rw[E,←V];exact zr 0x375df851c70fb9c719 rfl ..
noncomputable def oV:Option PR→V
|some p=>ah p
|.none=>.none
noncomputable def Co(K:Rv→List Mine.Internal.S→Prop)(X:Str→Prop):Str⊕List PR→Prop
|.inl s=>X s
|.inr l=>K (.j (.o (l.map ah))) []
noncomputable def Lo(F:List PR):Option PR→Prop
|some a=>a∈F∧∀b∈F,aK a b≤0
|.none=>F=[]
noncomputable def Hi(F:List PR):Option PR→Prop
|some a=>a∈F∧∀b∈F,aK b a≤0
|.none=>F=[]
theorem Lo.add(hF:∀p∈F,aM p)(hx:aM x)(h:Lo F o)(hi:∀a,o=some a→aK a x≤0)(hs:∃a,o=some a):Lo (F++[x]) o:=by
 obtain⟨a,rfl⟩:=hs;refine⟨mem_append.mpr (.inl h.1),λb hb=> ?_⟩;rcases mem_append.mp hb with hb|hb
 ·exact h.2 b hb
 ·rw[mem_singleton]at hb;subst hb;exact hi a rfl
theorem Lo.new(hF:∀p∈F,aM p)(hx:aM x)(h:Lo F o)(hi:∀a,o=some a→aK x a≤0):Lo (F++[x]) (some x):=by
 refine⟨mem_append.mpr (.inr (.head _)),λb hb=> ?_⟩;rcases mem_append.mp hb with hb|hb
 ·cases o with
  |none=>rw[(h:F=[])]at hb;cases hb
  |some a=>exact cT hx (hF a h.1) (hF b hb) (hi a rfl) (h.2 b hb)
 ·rw[mem_singleton]at hb;subst hb;rw[cF];decide
theorem Hi.add(hF:∀p∈F,aM p)(hx:aM x)(h:Hi F o)(hi:∀a,o=some a→aK x a≤0)(hs:∃a,o=some a):Hi (F++[x]) o:=by
 obtain⟨a,rfl⟩:=hs;refine⟨mem_append.mpr (.inl h.1),λb hb=> ?_⟩;rcases mem_append.mp hb with hb|hb
 ·exact h.2 b hb
 ·rw[mem_singleton]at hb;subst hb;exact hi a rfl
theorem Hi.new(hF:∀p∈F,aM p)(hx:aM x)(h:Hi F o)(hi:∀a,o=some a→aK a x≤0):Hi (F++[x]) (some x):=by
 refine⟨mem_append.mpr (.inr (.head _)),λb hb=> ?_⟩;rcases mem_append.mp hb with hb|hb
 ·cases o with
  |none=>rw[(h:F=[])]at hb;cases hb
  |some a=>exact cT (hF b hb) (hF a h.1) hx (h.2 b hb) (hi a rfl)
 ·rw[mem_singleton]at hb;subst hb;rw[cF];decide
noncomputable def Gz(K:Rv→List Mine.Internal.S→Prop)(X:Str→Prop):List PR→Prop
|[]=>X mF
|low::r=>K (.j (.L [ah low,ah ((low::r).getLast (cons_ne_nil _ _))])) []
theorem wc(H:∀I∈xs,ip true I)(h:Gz K X (aI (dq xs))):FF 66 [.j (.o (xs.map wv))] K X:=by
 refine cX 66 rfl rfl rfl λG T=> ?_;have U:∀p∈dq xs,aM p:=λp P=>(H _ (cH P).1).1.num;refine aw (λ_ h=>h) (aa rfl) (aw (λ_ h=>h) (aa rfl) ?_);refine cU (λ_ h=>h) (λj ρ=>∃o O s,fu s∧Lo (dq (xs.take j)) o∧Hi (dq (xs.take j)) O∧ρ=[.j (.o (xs.map wv)),.j (oV o),.j (oV O),s]) ⟨.none,.none,.y,.inl rfl,rfl,rfl,rfl⟩ ?_ ?_
 ·rintro j v ρ e ⟨o,O,s,h3,lo,M,rfl⟩
  refine⟨aq rfl h3,λt R=> ?_⟩;rw[getElem?_map]at e;obtain⟨I,Q,rfl⟩:=Option.map_eq_some_iff.mp e;have u:=H I (mem_of_getElem? Q);have E:dq (xs.take (j+1))=dq (xs.take j)++(oh I).toList:=by
   unfold dq;rw[take_add_one,Q,filterMap_append];cases q:oh I<;>simp[q]
  have A:∀p∈dq (xs.take j),aM p:=λp P=>by
   obtain⟨a,b⟩:=cH P;exact(H _ (mem_of_mem_take a)).1.num
  have skip:oh I=none→t [.j (.o (xs.map wv)),.j (oV o),.j (oV O),.j (wv I)]:=λq=>R _ ⟨o,O,_,.inr ⟨_,rfl⟩,by rw[E,q];simpa using lo,by rw[E,q];simpa using M,rfl⟩;refine ik (d8 (λk d=>ji T rfl u d) (λq=> ?_) λq=> ?_)
  ·cases I with
   |nu p=>cases q
   |na=>exact skip rfl
   |lH=>exact skip rfl
  ·cases I with
   |na=>cases q
   |lH=>cases q
   |nu x=>
    have N:=u.1.num;refine gz (λ_ h=>h) (λq=> ?_) λq=> ?_
    ·exact skip (by have:=of_decide_eq_true q;show(if 0<x.2 then some x else none)=none;rw[if_neg (by exact zl 30761165012 rfl (dT q:))])
    ·have f:0<x.2:=by have:=of_decide_eq_false q;have:=N.nn;exact zl 673160552643618 rfl (dF q:) this
     have B:oh (.nu x)=some x:=by show(if 0<x.2 then some x else none)=_;rw[if_pos f]
     rw[B]at E;change dq (xs.take (j+1))=dq (xs.take j)++[x]at E;have C:∀V,Lo (dq (xs.take j)++[x]) V→ex G (.cons (.iff (.cD (.cons (.D (.ag .is (.d 2) .X)) (.cons (.D (.ag .gt (.call 14 (.cons (.d 3) (.cons (.d 2) .nil))) (.p 0))) .nil))) (.cons (.C 2 (.d 3)) .nil) .nil) .nil) [.j (.o (xs.map wv)),.j (oV V),.j (oV O),.j (ah x)] t t (λr ρ=>K r (ba [.j (.o (xs.map wv))] ρ)) X:=by
      intro V L;cases O with
      |none=>
       refine ik (d8 (b:=true) (λ_ h=>h) (λ_=> ?_) λq=>by cases q);refine R _ ⟨V,some x,_,.inr ⟨_,rfl⟩,by rw[E];exact L,?_,rfl⟩;rw[E];exact Hi.new A N M λa z=>by cases z
      |some a=>
       refine ik (d8 (λ_ h=>h) (λq=>by cases q) λ_=> ?_);refine gz (λk d=>T.c 14 rfl _ _ _ (cR N (A a M.1) d)) (λq=> ?_) λq=> ?_
       ·have q:=of_decide_eq_true q
        refine R _ ⟨V,some x,_,.inr ⟨_,rfl⟩,by rw[E];exact L,?_,rfl⟩;rw[E];exact Hi.new A N M λa z=>by cases z;rw[bQ];rename_i Z;exact zl 6894113320 rfl (dT Z:)
       ·have q:=of_decide_eq_false q
        refine ae (ae (R _ ⟨V,some a,_,.inr ⟨_,rfl⟩,by rw[E];exact L,?_,rfl⟩));rw[E];exact Hi.add A N M (λb z=>by cases z;rename_i Z;exact zl 26060190910 rfl (dF Z:)) ⟨_,rfl⟩
     apply ae;cases o with
     |none=>
      refine ik (d8 (b:=true) (λ_ h=>h) (λ_=> ?_) λq=>by cases q);exact C (some x) (Lo.new A N lo λa z=>by cases z)
     |some a=>
      refine ik (d8 (λ_ h=>h) (λq=>by cases q) λ_=> ?_);refine gz (λk d=>T.c 14 rfl _ _ _ (cR N (A a lo.1) d)) (λq=> ?_) λq=> ?_
      ·have q:=of_decide_eq_true q
       exact C (some x) (Lo.new A N lo λb z=>by cases z;rename_i Z;exact zl 215359689 rfl (dT Z:))
      ·have q:=of_decide_eq_false q
       exact ae (C (some a) (Lo.add A N lo (λb z=>by cases z;rw[bQ];rename_i Z;exact zl 834191057321 rfl (dF Z:)) ⟨_,rfl⟩))
 ·rintro ρ ⟨o,O,s,h3,lo,M,rfl⟩
  rw[length_map,take_length]at lo M;have m:=aZ (dq xs);have ss:=de U;cases o with
  |none=>
   have e:=lo;rw[e]at h;exact ai (b:=true) (λ_ h=>h) (λ_=>h) λq=>by cases q
  |some a=>
   have g:=m.mem_iff.mpr lo.1;cases O with
   |none=>have e:=M;rw[e]at lo;cases lo.1
   |some c=>
    have F:=m.mem_iff.mpr M.1;have W:=λb hb=>lo.2 b (m.mem_iff.mp hb);have Y:=λb hb=>M.2 b (m.mem_iff.mp hb);have S:=λp P=>U p (m.mem_iff.mp P);generalize aI (dq xs)=l at h ss g F W Y S;cases l with
    |nil=>cases g
    |cons low r=>
     have Q:a=low:=by
      have n:=(List.pairwise_cons.mp ss).1;rcases mem_cons.mp g with rfl|g
      ·rfl
      ·exact oZ (S a (.tail _ g)) (S low (.head _)) (W low (.head _)) (n a g)
     have y:c=(low::r).getLast (cons_ne_nil _ _):=by
      have D:=getLast_mem (cons_ne_nil low r);refine oZ (S c F) (S _ D) ?_ (Y _ D);obtain⟨i,J,rfl⟩:=getElem_of_mem F;rw[getLast_eq_getElem]
      by_cases q:i=(low::r).length-1
      ·subst q;rw[cF];decide
      ·exact pairwise_iff_getElem.mp ss i ((low::r).length-1) J (zl 24102590210 rfl J) (zl 0x151737563d5b22902 rfl J q)
     subst Q;subst y;refine ai (b:=false) (λ_ h=>h) (λq=>by cases q) λ_=>ae ?_;exact⟨af rfl,h⟩
theorem Qv.zero(h:Qv p N RA i j):p.1=0↔N=0:=by
 have e:=h.eq;constructor
 ·intro z
  rw[z,Int.zero_mul]at e;rcases Int.mul_eq_zero.mp e.symm with q|q
  ·exact q
  ·have:=h.pos;exact zl 22905540976852 rfl q this
 ·intro z
  rw[z,Int.zero_mul]at e;rcases Int.mul_eq_zero.mp e with q|q
  ·exact q
  ·have:=h.qG;exact zl 22905540976852 rfl q this
theorem xn:Gz K X (low::r)=K (.j (.L [ah low,ah ((low::r).getLast (cons_ne_nil _ _))])) []:=rfl
theorem mG(H:Sub n G)(f:Nat.blt 2 n=true)(h:K (.j (ah (m,1))) []):G 2 [vi m] K X:=H.c 2 f _ _ _ (wN h)
theorem dQ{a b c:Int}(h1:0<a)(h2:0<b)(h3:0<c):0<a*b*c:=Int.mul_pos (Int.mul_pos h1 h2) h3
theorem oL(P:PR→Prop)(h:∀k:Rv→R→Prop,(∀p,P p→k (.j (ah p)) ρ1)→ev G e ρ k X)(H:bo ρ1 i)(h1:∀p,P p→ex G r (ρ1.set i (.j (ah p))) x C t X):ex G (.cons (.C i e) r) ρ x C t X:=h _ λp u=>aT H (h1 p u)
theorem pQ(x:∀I∈xs,ip true I)(H:m≤40)(h:Co K X (F3 xs m)):FF 67 [.j (.o (xs.map wv)),vi m] K X:=by
 refine fE 67 rfl rfl λG O=> ?_;have a:aA=1000000:=rfl;unfold F3 at h;refine ik (d8 (b:=false) (λ_ h=>h) (λq=>by cases q) λ_=> ?_);refine gz (b:=decide (m<2)) (λ_ h=>h) (λq=> ?_) λq=> ?_
 ·rw[if_pos (of_decide_eq_true q)]at h;exact h
 rw[if_neg (of_decide_eq_false q)]at h;have m2:=of_decide_eq_false q;refine ae ?_;refine O.c 28 rfl _ _ _ (Hu (zl 0xf5b574717d55d3e rfl H) ?_);refine O.c 66 rfl _ _ _ (wc x ?_);have s:∀p∈aI (dq xs),Sm p∧0<p.2:=λp hp=>by
  have:=(aZ (dq xs)).mem_iff.mp hp;exact⟨(x _ (cH this).1).1,(cH this).2⟩
 generalize aI (dq xs)=l at h s;cases l with
 |nil=>exact h
 |cons low r=>
  change Co K X (.inr (fe low ((low::r).getLast (List.cons_ne_nil _ _)) m))at h;rw[xn];have J:=s _ (List.getLast_mem (List.cons_ne_nil low r));have S:=s low (.head _);generalize(low::r).getLast (List.cons_ne_nil _ _)=top at h J⊢;have L:=S.2;have tp:=J.2;have B:∀{p:PR},Sm p∧0<p.2→Qv p p.1 p.2 5 2:=λ{p}h=>by
   obtain⟨h,h'⟩:=h;rcases h with⟨h1,h2,h3,h4⟩|⟨h1,h2⟩
   ·exact .of h1 h2 (zl 920200751983464 rfl h4) (zl 0xd5e355420528 rfl h' h3)
   ·exact(zl 31155043112 rfl h' h1).elim
  have Q:=B S;have V:=B J;have RA:Qv (1000,1) 1000 1 10 1:=.int (by decide);have N:Qv (2,1) 2 1 2 1:=.int (by decide);have y:Qv (m,1) m 1 6 1:=.int (zl 0x4cb192cf5a1c239d3e rfl H (dF q:));refine O.c 8 rfl _ _ _ (B8 7 V Q rfl λA h4=> ?_);unfold fe at h;refine ai (b:=decide (A.1=0)) (ρ':=[.j (.o (xs.map wv)),vi m,.j (ah low),.j (ah top),.j (ah A),.y,.y,.y,.y,.y]) (λ_ h=>h) (λq=> ?_) λq=> ?_
  ·rw[if_pos (h4.zero.mp (of_decide_eq_true q))]at h
   generalize E:(if low.1≠0 then(low.1.natAbs:Int)else 1)=n at h;have lz:low.1=0→low.2=1:=λz=>by
    have:=Q.qn;rw[z,Int.gcd_zero_left]at this;exact zl 0xc71fa5a09528 rfl S.2 this
   have b7:n.natAbs<2^5:=by have:=Q.b1;subst E;split<;>(first|exact zl 30037915692659 rfl this|exact zm 11889607 rfl)
   have np:0<n:=by subst E;split<;>(first|exact zl 22005727352098 rfl ‹_›|exact zm 6150 rfl)
   have gn:Int.gcd n low.2=1:=by
    have g:=Q.qn;subst E;split
    ·rw[Int.gcd,Int.natAbs_natCast];exact g
    ·exact Int.gcd_one_left _
   have qw:Qv (n,low.2) n low.2 5 2:=.of (p:=(n,low.2)) L gn b7 Q.b2;have o:∀nx ct ρ,ρ=[.j (.o (xs.map wv)),vi m,.j (ah low),.j (ah top),.j (ah (n,low.2)),.y,.y,.y,.y,.y]→ex G (.cons (.C 5 (.call 10 (.cons (.d 4) (.cons (.call 2 (.cons (.p 1000) .nil)) .nil)))) (.cons (.C 2 (.call 8 (.cons (.d 2) (.cons (.d 5) .nil)))) (.cons (.C 4 (.call 9 (.cons (.d 5) (.cons (.call 2 (.cons (.p 2) .nil)) .nil)))) (.cons (.C 6 (.call 10 (.cons (.d 4) (.cons (.call 2 (.cons (.d 1) .nil)) .nil)))) (.cons (.ret (.Y (.comp 8 (.eX (.cons (.w .add (.d 1) (.p 1)) .nil)) .no (.call 7 (.cons (.d 2) (.cons (.call 9 (.cons (.d 6) (.cons (.call 2 (.cons (.d 8) .nil)) .nil))) .nil)))))) .nil))))) ρ
    nx ct (λr ρ=>K r (ba [.j (.o (xs.map wv)),vi m] ρ)) X:=by
    rintro nx ct ρ rfl;refine oL (λr=>Qv r (n*1) (low.2*1000) 6 12) (ρ1:=[.j (.o (xs.map wv)),vi m,.j (ah low),.j (ah top),.j (ah (n,low.2)),.y,.y,.y,.y,.y]) (λk R=> ?_) (aa rfl) λT h5=> ?_
    ·refine mG O rfl ?_
     exact O.c 10 rfl _ _ _ (yE qw RA (by decide) (by decide) rfl R)
    refine oL (λr=>Qv r (low.1*(low.2*1000)-n*1*low.2) (low.2*(low.2*1000)) 18 14) (ρ:=[.j (.o (xs.map wv)),vi m,.j (ah low),.j (ah top),.j (ah (n,low.2)),.j (ah T),.y,.y,.y,.y]) (ρ1:=[.j (.o (xs.map wv)),vi m,.j (ah low),.j (ah top),.j (ah (n,low.2)),.j (ah T),.y,.y,.y,.y]) (λk R=> ?_) (aq rfl (.inr ⟨_,rfl⟩)) λP h2=> ?_
    ·exact O.c 8 rfl _ _ _ (B8 17 Q h5 rfl R)
    refine oL (λr=>Qv r (n*1*2) (low.2*1000*1) 8 13) (ρ:=[.j (.o (xs.map wv)),vi m,.j (ah P),.j (ah top),.j (ah (n,low.2)),.j (ah T),.y,.y,.y,.y]) (ρ1:=[.j (.o (xs.map wv)),vi m,.j (ah P),.j (ah top),.j (ah (n,low.2)),.j (ah T),.y,.y,.y,.y]) (λk R=> ?_) (aq rfl (.inr ⟨_,rfl⟩)) λA h4=> ?_
    ·refine mG O rfl ?_
     exact O.c 9 rfl _ _ _ (C6 h5 N rfl R)
    refine oL (λr=>Qv r (n*1*2*1) (low.2*1000*1*m) 9 19) (ρ:=[.j (.o (xs.map wv)),vi m,.j (ah P),.j (ah top),.j (ah A),.j (ah T),.y,.y,.y,.y]) (ρ1:=[.j (.o (xs.map wv)),vi m,.j (ah P),.j (ah top),.j (ah A),.j (ah T),.y,.y,.y,.y]) (λk R=> ?_) (aa rfl) λY h6=> ?_
    ·refine mG O rfl ?_
     exact O.c 10 rfl _ _ _ (yE h4 y (by show 0<m;rename_i Z _ _;exact zl 21735070473 rfl (dF Z:)) (by rename_i Z _ _;exact zl 21735070473 rfl (dF Z:)) rfl R)
    have RB:0<low.2*low.2*1000:=by have:=Int.mul_pos L L;exact zl 0xf7afbc6e5d28 rfl this
    have e2:P=rd (low.1*low.2*1000-n*low.2) (low.2*low.2*1000):=h2.rd RB (zr 0x128c083f3f4f07020e38c0c381087c6a02e438107dce059 rfl _ _ _);have RC:Qv P P.1 P.2 18 14:=.of h2.pos h2.qn h2.b1 h2.b2;have p2:=h2.pos;have h':Co K X (.inr ((List.range (m+1).toNat).map λ(i:Nat)=>rd ((rd (low.1*low.2*1000-n*low.2) (low.2*low.2*1000)).1*(low.2*1000)*m+(0+1*(i:Int))*(2*n)*(rd (low.1*low.2*1000-n*low.2) (low.2*low.2*1000)).2) ((rd (low.1*low.2*1000-n*low.2) (low.2*low.2*1000)).2*(low.2*1000)*m))):=h;rw[←e2]at h';refine iJ (gv ?_);refine fC (ρ:=[.j (.o (xs.map wv)),vi m,.j (ah P),.j (ah top),.j (ah A),.j (ah T),.j (ah Y),.y,.y,.y]) (items:=ao 0 (m+1).toNat 1) (f:=λv=>match v with|.int i=>ah (rd (P.1*(low.2*1000)*m+i*(2*n)*P.2) (P.2*(low.2*1000)*m))|v=>v) ?_ (by simp[ao];exact zl 0x19f29f916a5c00e29371d3e rfl H a) (aa rfl) ?_ ?_
    ·intro k R
     refine hZ (G:=G) (X:=X) (e:=.w .add (.d 1) (.p 1)) (m:=m+1) ?_ (by rename_i Z _ _;exact zl 27359563942409 rfl (dF Z:)) (zl 0x2ba4b852201d3e rfl H) R;exactλ_ h=>h
    ·intro v u k R
     obtain⟨i,M,rfl⟩:=List.mem_map.mp u;have M:=List.mem_range.mp M;have F:Qv ((0+1*(i:Int)),1) (0+1*(i:Int)) 1 6 1:=.int (zl 0x638b44bdb0fa5cc3d9cf825d3e rfl H M);generalize(0+1*(i:Int))=U at R F;refine mG O rfl ?_;refine O.c 9 rfl _ _ _ (C6 h6 F rfl λr7 W=> ?_);refine O.c 7 rfl _ _ _ (CV 38 RC W rfl λD h8=>R _ ?_);have C:0<P.2*(low.2*1000)*m:=Int.mul_pos (Int.mul_pos p2 (zl 0xf7afbc6e5d28 rfl S.2)) (by rename_i Z _ _ _;exact zl 21735070473 rfl (dF Z:));have t:=h8.rd (N':=P.1*(low.2*1000)*m+U*(2*n)*P.2) C (zr 0x7d3828b8107e318f77efd09763c776041f738bb3bb020ff778f81406e02f18c63a145c083f18c5cdd99 rfl _ _ _ _ _ _);show ah D=_;rw[t]
    ·have:=h'
     change K (.j (.o ((List.map (λ(i:Nat)=>rd (P.1*(low.2*1000)*m+(0+1*(i:Int))*(2*n)*P.2) (P.2*(low.2*1000)*m)) _).map ah))) []at this;rw[List.map_map]at this;unfold ao;rw[List.map_map];exact this
   refine aw (v:=.j (ah low)) (ρ1:=[.j (.o (xs.map wv)),vi m,.j (ah low),.j (ah top),.j (ah A),.y,.y,.y,.y,.y]) (λ_ h=>h) (aq rfl (.inr ⟨_,rfl⟩)) ?_;refine ai (b:=decide (low.1<0)) (ρ':=[.j (.o (xs.map wv)),vi m,.j (ah low),.j (ah top),.j (ah low),.y,.y,.y,.y,.y]) (λ_ h=>h) (λq=> ?_) λq=> ?_
   ·have q:=of_decide_eq_true q
    have e:0-low.1=n:=by rw[if_pos (by rename_i Z;exact zl 31155055817 rfl (dT Z:))]at E;rename_i Z;exact zl 0x144ac23f2a1fcb8b rfl E (dT Z:)
    refine aw (v:=.j (nv (0-low.1) low.2)) (ρ1:=[.j (.o (xs.map wv)),vi m,.j (ah low),.j (ah top),.j (ah low),.y,.y,.y,.y,.y]) (λk R=>O.c 6 rfl _ _ _ (Gb R)) (aq rfl (.inr ⟨_,rfl⟩)) (ae (o _ _ _ ?_));rw[e];rfl
   ·have q:=of_decide_eq_false q
    refine ai (b:=decide (low.1=0)) (ρ':=[.j (.o (xs.map wv)),vi m,.j (ah low),.j (ah top),.j (ah low),.y,.y,.y,.y,.y]) (λ_ h=>h) (λN=> ?_) λN=> ?_
    ·have N:=of_decide_eq_true N
     have e:1=n:=by rw[if_neg (by rename_i Z;exact zl 3825736305364 rfl (dT Z:))]at E;exact zl 180313381 rfl E
     refine aw (v:=.j (ah (1,1))) (ρ1:=[.j (.o (xs.map wv)),vi m,.j (ah low),.j (ah top),.j (ah low),.y,.y,.y,.y,.y]) (λk R=>mG O rfl R) (aq rfl (.inr ⟨_,rfl⟩)) (ae (ae (o _ _ _ ?_)));show[.j (.o (xs.map wv)),vi m,.j (ah low),.j (ah top),.j (nv 1 1),.y,.y,.y,.y,.y]=_;rw[show ah (n,low.2)=nv n low.2 from rfl,lz N,←e]
    ·have N:=of_decide_eq_false N
     have e:low.1=n:=by rw[if_pos (by rename_i Z;exact zl 3769763562274 rfl (dF Z:))]at E;exact zl 0x26598eccfffcb8b rfl E q
     refine ae (ae (o _ _ _ ?_));show[.j (.o (xs.map wv)),vi m,.j (ah low),.j (ah top),.j (nv low.1 low.2),.y,.y,.y,.y,.y]=_;rw[e]
  ·rw[if_neg (λz=>of_decide_eq_false q (h4.zero.mpr z))]at h
   have RH:top.1*low.2-low.1*top.2=top.1*low.2-low.1*top.2:=rfl;have RI:=h4;generalize hn:top.1*low.2-low.1*top.2=n at h h4;generalize hd:top.2*low.2=d at h h4;have c:=h4.qG;have bn:n.natAbs<2^8:=by subst hn;exact x9 (ml V.b1 Q.b2) (ml Q.b1 V.b2)
   have bd:d.natAbs<2^4:=by subst hd;exact ml V.b2 Q.b2
   unfold B9 at h;refine ae ?_;refine mG O rfl ?_;refine O.c 10 rfl _ _ _ (yE h4 y (by show 0<m;rename_i Z;exact zl 21735070473 rfl (dF Z:)) (by rename_i Z;exact zl 21735070473 rfl (dF Z:)) rfl λY h6=> ?_);have C:0<low.2*d*m:=dQ L c (by rename_i Z;exact zl 21735070473 rfl (dF Z:));refine aw (v:=.U (((List.range (m+1).toNat).map λ(i:Nat)=>rd (low.1*d*m+(0+1*(i:Int))*n*low.2) (low.2*d*m)).map ah)) (ρ1:=[.j (.o (xs.map wv)),vi m,.j (ah low),.j (ah top),.j (ah A),.y,.j (ah Y),.y,.y,.y]) (λk R=> ?_) (aa rfl) ?_
   ·refine fC (ρ:=[.j (.o (xs.map wv)),vi m,.j (ah low),.j (ah top),.j (ah A),.y,.j (ah Y),.y,.y,.y]) (items:=ao 0 (m+1).toNat 1) (f:=λv=>match v with|.int i=>ah (rd (low.1*d*m+i*n*low.2) (low.2*d*m))|v=>v) ?_ (by simp[ao];exact zl 0x19f29f916a5c00e29371d3e rfl H a) (aa rfl) ?_ ?_
    ·intro k R
     refine hZ (G:=G) (X:=X) (e:=.w .add (.d 1) (.p 1)) (m:=m+1) ?_ (by rename_i Z _ _;exact zl 27359563942409 rfl (dF Z:)) (zl 0x2ba4b852201d3e rfl H) R;exactλ_ h=>h
    ·intro v u k R
     obtain⟨i,M,rfl⟩:=List.mem_map.mp u;have M:=List.mem_range.mp M;have F:Qv ((0+1*(i:Int)),1) (0+1*(i:Int)) 1 6 1:=.int (zl 0x638b44bdb0fa5cc3d9cf825d3e rfl H M);generalize(0+1*(i:Int))=U at R F;refine mG O rfl ?_;refine O.c 9 rfl _ _ _ (C6 h6 F rfl λr7 W=> ?_);refine O.c 7 rfl _ _ _ (CV 17 Q W rfl λD h8=>R _ ?_);have t:=h8.rd (N':=low.1*d*m+U*n*low.2) C (zr 0x1f4e06f8f77efd08f1cd8e2ece7bde3e05002f18e837c5cdd99 rfl _ _ _ _ _ _);show ah D=_;rw[t]
    ·rw[List.map_map]at R
     unfold ao;rw[List.map_map];exact R
   have E:∀i:Int,i.natAbs<2^6→Qv (rd (low.1*d*m+i*n*low.2) (low.2*d*m)) (low.1*d*m+i*n*low.2) (low.2*d*m) 17 12:=λi M=>
    .My C C rfl (Ae (iE (ml (ml Q.b1 bd) y.b1) (by decide)) (ml (ml M bn) Q.b2)) (ml (ml Q.b2 bd) y.b1)
   have g0:((List.range (m+1).toNat).map λ(i:Nat)=>rd (low.1*d*m+(0+1*(i:Int))*n*low.2) (low.2*d*m))[0]? =some (rd (low.1*d*m+0*n*low.2) (low.2*d*m)):=by
    rw[List.getElem?_map,List.getElem?_range (by rename_i Z;exact zl 875496013041161 rfl (dF Z:))];rfl
   have w:((List.range (m+1).toNat).map λ(i:Nat)=>rd (low.1*d*m+(0+1*(i:Int))*n*low.2) (low.2*d*m))[m.toNat]? =some (rd (low.1*d*m+m*n*low.2) (low.2*d*m)):=by
    rw[List.getElem?_map,List.getElem?_range (by rename_i Z;exact zl 7003963315230217 rfl (dF Z:))];show some (rd (low.1*d*m+(0+1*(m.toNat:Int))*n*low.2) (low.2*d*m))=_;rw[show(0+1*(m.toNat:Int))=m by rename_i Z;exact zl 0x4ec6efcefa4d3209 rfl (dF Z:)]
   have len:((List.range (m+1).toNat).map λ(i:Nat)=>rd (low.1*d*m+(0+1*(i:Int))*n*low.2) (low.2*d*m)).length=(m+1).toNat:=by simp
   generalize((List.range (m+1).toNat).map λ(i:Nat)=>rd (low.1*d*m+(0+1*(i:Int))*n*low.2) (low.2*d*m))=l at h g0 w len;have q0:=E 0 (by decide);have qM:=E m (by rename_i Z;exact zl 0x4cb192cf5a1c239d3e rfl H (dF Z:));generalize rd (low.1*d*m+0*n*low.2) (low.2*d*m)=p0 at g0 q0;generalize rd (low.1*d*m+m*n*low.2) (low.2*d*m)=pM at w qM;have RD:0<low.2*d*1000:=dQ L c (zm 11274374 rfl);have RE:0<top.2*d*1000:=dQ tp c (zm 11274374 rfl);refine oL (λr=>Qv r (n*1) (d*1000) 9 14) (ρ:=[.j (.o (xs.map wv)),vi m,.j (ah low),.j (ah top),.j (ah A),.y,.j (ah Y),.U (l.map ah),.y,.y]) (ρ1:=[.j (.o (xs.map wv)),vi m,.j (ah low),.j (ah top),.j (ah A),.y,.j (ah Y),.U (l.map ah),.y,.y]) (λk R=> ?_) (aa rfl) λT h5=> ?_
   ·refine mG O rfl ?_
    exact O.c 10 rfl _ _ _ (yE h4 RA (by decide) (by decide) rfl R)
   refine iy (ρ:=[.j (.o (xs.map wv)),vi m,.j (ah low),.j (ah top),.j (ah A),.j (ah T),.j (ah Y),.U (l.map ah),.y,.y]) (ρ1:=[.j (.o (xs.map wv)),vi m,.j (ah low),.j (ah top),.j (ah A),.j (ah T),.j (ah Y),.U (l.map ah),.y,.y]) (l:=l.map ah) (v:=.j (ah (rd (low.1*d*1000-n*low.2) (low.2*d*1000)))) (j:=0) (l':=(l.set 0 (rd (low.1*d*1000-n*low.2) (low.2*d*1000))).map ah) (λk R=> ?_) rfl rfl (kM (m:=0) (by decide) (by rw[len];rename_i Z;exact zl 875496013041161 rfl (dF Z:))) ?_
   ·refine az (v:=ah p0) (aC (j:=0) (by rw[List.getElem?_map,g0];rfl)) ?_
    refine O.c 8 rfl _ _ _ (B8 31 q0 h5 rfl λD h8=> ?_);have t:=h8.rd (N':=low.1*d*1000-n*low.2) RD (zr 0x29c3020fe791e31d9cc0e041c71818702148f1cf23c7405e438107f673cd8e6c71766059 rfl _ _ _ _ _);rw[←t]at R;exact R
   have RF:(l.set 0 (rd (low.1*d*1000-n*low.2) (low.2*d*1000)))[m.toNat]? =some pM:=by rw[List.getElem?_set_ne (by rename_i Z;exact zl 0x6c39ee760909 rfl (dF Z:))];exact w
   refine iy (ρ1:=[.j (.o (xs.map wv)),vi m,.j (ah low),.j (ah top),.j (ah A),.j (ah T),.j (ah Y),.U ((l.set 0 (rd (low.1*d*1000-n*low.2) (low.2*d*1000))).map ah),.y,.y]) (l:=(l.set 0 (rd (low.1*d*1000-n*low.2) (low.2*d*1000))).map ah) (v:=.j (ah (rd (top.1*d*1000+n*top.2) (top.2*d*1000)))) (j:=m) (l':=((l.set 0 (rd (low.1*d*1000-n*low.2) (low.2*d*1000))).set m.toNat (rd (top.1*d*1000+n*top.2) (top.2*d*1000))).map ah) (λk R=> ?_) rfl rfl (kM (by rename_i Z;exact zl 21731322377 rfl (dF Z:)) (by rw[List.length_set,len];rename_i Z;exact zl 7003963315230217 rfl (dF Z:))) ?_
   ·refine az (v:=ah pM) (cm (by rename_i Z;exact zl 21731322377 rfl (dF Z:)) (by rw[List.getElem?_map,RF];rfl)) ?_
    refine O.c 7 rfl _ _ _ (CV 31 qM h5 rfl λD h8=> ?_);have RG:low.1*d+n*low.2=top.1*low.2*low.2:=by subst hn;subst hd;exact zr 0x37644bc7363d25e05cdee6ed rfl _ _ _ _
    have t:=h8.rd (N':=top.1*d*1000+n*top.2) RE (by
     calc((low.1*d*m+m*n*low.2)*(d*1000)+n*1*(low.2*d*m))*(top.2*d*1000)=((low.1*d+n*low.2)*1000+n*low.2)*m*d*(top.2*d*1000):=zr 0x7d4b0215ef1a8a7303811672f38dd9766321c0857bc73c8f1d01790e041fd9cfb8e6c71765d99 rfl _ _ _ _ _ _
      _=(top.1*low.2*1000+n)*m*d*low.2*(top.2*d*1000):=by rw[RG];exact zr 0x7d4b022d3de3527436041c717663190e045a7bc76735e0e04218e31766319 rfl _ _ _ _ _ _
      _=(top.1*d*1000+n*top.2)*(low.2*d*m*(d*1000)):=by rw[←hd];exact zr 0x14e1810a478e1b23cfc63b3e0e04291dce2ed0e04291f63c68c8f886c0838e2ecc6319 rfl _ _ _ _ _)
    rw[←t]at R;exact R
   exact h
section
variable{K:Rv→List Mine.Internal.S→Prop}{X:Str→Prop}
theorem iN(x:∀I∈xs,ip true I)(L:xs.length≤1000)(H:iW cut)(h:Co K X (brk xs cut)):FF 68 [.j (.o (xs.map wv)),.j (.o (cut.map wv))] K X:=by
 refine cX 68 rfl rfl rfl λG g=> ?_;have Q:aA=1000000:=rfl;have C:=H.len;unfold brk at h;refine cU (λ_ h=>h) (λj ρ=>(∃S,fu S∧ρ=[.j (.o (xs.map wv)),.j (.o (cut.map wv)),S,.y,.y,.y])∧∀I∈cut.take j,hK I=false) ⟨⟨.y,.inl rfl,rfl⟩,λI M=>by simp at M⟩ ?_ ?_
 ·rintro j v ρ e ⟨⟨S,h2,rfl⟩,n⟩
  refine⟨aq rfl h2,λt R=> ?_⟩;rw[getElem?_map]at e;obtain⟨I,E,rfl⟩:=Option.map_eq_some_iff.mp e;have V:=mem_of_getElem? E;refine ai (λk d=>ji g rfl (H.ok I V) d) (λq=> ?_) λq=> ?_
  ·rw[if_pos (.inr (mem_map.mpr ⟨I,V,q⟩))]at h
   exact h
  ·refine ae (ae (R _ ⟨⟨_,.inr ⟨_,rfl⟩,rfl⟩,λB M=> ?_⟩))
   rw[take_add_one,E]at M;rcases mem_append.mp M with M|M
   ·exact n B M
   ·have:B=I:=by simpa using M
    rw[this];exact q
 ·rintro ρ ⟨⟨S,h2,rfl⟩,n⟩
  rw[length_map,take_length]at n;refine ai (b:=decide (((cut.map wv).length:Int)=0)) (λ_ h=>h) (λq=> ?_) λq=> ?_
  ·have z:cut=[]:=by
    have:=of_decide_eq_true q;rw[length_map]at this;exact length_eq_zero_iff.mp (zl 4105157227 rfl this)
   rw[if_pos (.inl z)]at h;exact h
  have N:=of_decide_eq_false q;rw[length_map]at N;rw[if_neg (by
   rintro(z|z)
   ·subst z;exact N rfl
   ·obtain⟨I,M,z⟩:=mem_map.mp z
    rw[n I M]at z;cases z)]at h
  have P:=n4 n;have vP:=H.vP;have O:=λp u=>(H.ok (.nu p) (by rw[P];exact List.mem_map.mpr ⟨p,u,rfl⟩)).1.num;have J:(DA cut).length≤100:=by rw[P,length_map]at C;exact C
  generalize DA cut=ps at P h O J;subst P;have Z:(ps.map It.nu).map wv=ps.map ah:=by rw[map_map];rfl
  rw[Z];rw[length_map]at N;apply ae;refine ai (b:=decide (((ps.map ah).length:Int)=1)) (λ_ h=>h) (λq=> ?_) λq=> ?_
  ·have q:=of_decide_eq_true q
   rw[length_map]at q
   match ps,q with
   |[p],_=>
    obtain⟨E,W⟩:=vP p rfl;obtain⟨a,b⟩:=p;change b=1 at E;subst E;refine g.c 11 rfl _ _ _ (wY ?_);exact g.c 67 rfl _ _ _ (pQ x W h)
   |a::b::r,q=>simp at q;exact(zl 22396990999477 rfl q).elim
  ·have q:=of_decide_eq_false q
   rw[length_map]at q;have hb:Co K X (if Dj (aI ps)=true then .inl mU else .inr (aI ps)):=by
    match ps,q with
    |[],_=>exact absurd rfl N
    |[p],q=>exact absurd rfl q
    |a::b::r,q=>exact h
   apply ae;refine aw (v:=.j (.o ((aI ps).map ah))) (ρ1:=[.j (.o (xs.map wv)),.j (.o (ps.map ah)),S,.y,.y,.y]) (λk d=> ?_) (aa rfl) ?_
   ·refine g.c 30 rfl _ _ _ (Ba ?_)
    refine⟨af rfl,?_⟩;refine g.c 64 rfl _ _ _ (w0 O (λz=>by rw[z]at N;exact N rfl) J λl y sl=> ?_);have A:∀i∈l,i<ps.length:=λi M=>List.mem_range.mp (y.mem_iff.mp M);have T:l.length=ps.length:=by rw[y.length_eq,length_range]
    refine⟨by rw[dY,T];exact zl 0x27ab66bdf6b19419da55 rfl Q J,?_⟩;refine xp (k:=λr ρ=>k (.j r.v) ρ) (cond:=.no) (λ_=>true) (λv=>match v with|.int i=>ah (nF ps i.toNat)|v=>v) (aa rfl) (λv _ k d=>d) ?_ [] _ (.inl rfl) ?_
    ·intro v w _ k d
     obtain⟨i,M,rfl⟩:=mem_map.mp w;exact az (aC (by rw[getElem?_map,rM (A i M)];rfl)) (d _ rfl)
    ·rw[filter_eq_self.mpr (λ_ _=>rfl),nil_append]
     have e:(nV l).map (λv=>match v with|.int i=>ah (nF ps i.toNat)|v=>v)=(aI ps).map ah:=by
      rw[←vk O y sl];unfold nV;rw[map_map,map_map];rfl
     rw[e];exact d
   have sl:(aI ps).length≤100:=by rw[(aZ ps).length_eq];exact J
   have o:=λp u=>O p ((aZ ps).mem_iff.mp u);have U:1≤(aI ps).length:=by rw[(aZ ps).length_eq];exact zl 360651006623 rfl N
   generalize aI ps=l at hb sl o U;refine cU (items:=ao 0 ((l.length:Int)-1).toNat 1) (λk d=> ?_) (λj ρ=>(∃s,fu s∧ρ=[.j (.o (xs.map wv)),.j (.o (ps.map ah)),S,.j (.o (l.map ah)),s,.y])∧∀i a,i<j→l[i]? =some a→l[i+1]? =some a→False) ⟨⟨.y,.inl rfl,rfl⟩,λi a h=>(zl 665066 rfl h).elim⟩ ?_ ?_
   ·refine hZ (m:=((l.map ah).length:Int)-1) ?_ (by rw[List.length_map];exact zl 4379253220656 rfl U) (by rw[List.length_map];exact zl 0x2db170b3f113b1cf rfl sl) (by rw[List.length_map];exact d)
    exactλ_ h=>h
   ·rintro j v ρ e ⟨⟨s,h4,rfl⟩,n⟩
    refine⟨aq rfl h4,λt R=> ?_⟩;obtain⟨D,rfl⟩:j+1<l.length∧v=.int j:=by
     unfold ao at e;rw[getElem?_map]at e;obtain⟨j',E,rfl⟩:=Option.map_eq_some_iff.mp e;obtain⟨h1,h2⟩:=List.getElem?_eq_some_iff.mp E;simp at h1 h2;subst h2;exact⟨zl 24675297543562 rfl h1,by congr 1;exact zm 776670703789 rfl _⟩
    have F:l[j]? =some l[j]:=by simp[show j<l.length from zl 23760357803 rfl D]
    have E:l[j+1]? =some l[j+1]:=by simp[D]
    have Y:=o _ (mem_of_getElem? F);have f:=o _ (mem_of_getElem? E);generalize l[j]=a at F Y;generalize l[j+1]=b at E f;refine ai (b:=decide (aK a b=0)) (ρ':=[.j (.o (xs.map wv)),.j (.o (ps.map ah)),S,.j (.o (l.map ah)),vi j,.y]) (λk d=> ?_) (λq=> ?_) λq=> ?_
    ·refine az (aC (by rw[getElem?_map,F];rfl)) ?_
     refine az (cm (zm 141374981 rfl _) (by rw[show((j:Int)+1).toNat=j+1 from zm 1157635061170 rfl _,getElem?_map,E];rfl)) ?_;exact g.c 14 rfl _ _ _ (cR Y f d)
    ·have z:=(iG Y f).mp (of_decide_eq_true q)
     have z:=Prod.ext z.1 z.2;subst z;rw[if_pos (kZ.mpr ⟨j,a,F,E⟩)]at hb;exact hb
    ·have q:=of_decide_eq_false q
     refine ae (ae (R _ ⟨⟨_,.inr ⟨_,rfl⟩,rfl⟩,λi c M h1 h2=> ?_⟩))
     by_cases z:i=j
     ·subst z;rw[F]at h1;rw[E]at h2;cases h1;cases h2;exact q (cF a)
     ·exact n i c (zl 0x4f1d2d4a6e3dfa rfl M z) h1 h2
   ·rintro ρ ⟨⟨s,h4,rfl⟩,n⟩
    rw[if_neg]at hb
    ·exact hb
    ·intro z
     obtain⟨i,a,h1,h2⟩:=kZ.mp z;have:=(List.getElem?_eq_some_iff.mp h2).1;refine n i a ?_ h1 h2;simp[ao];exact zl 25950139074987 rfl this
end
theorem fO(H:∀p∈l,aM p)(h:∀(i:Nat)(a b:PR),l[i]? =some a→l[i+1]? =some b→aK a b<0):ed l:=by
 refine pairwise_iff_getElem.mpr λi j I J W=> ?_;obtain⟨d,rfl⟩:∃d,j=i+1+d:=⟨j-(i+1),zl 0x178f4c90e21a5e82 rfl W⟩;clear W;induction d with
 |zero=>exact h i _ _ (getElem?_eq_getElem I) (getElem?_eq_getElem J)
 |succ d Q=>
  have m:=lt_of_succ_lt J;exact lF (H _ (getElem_mem I)) (H _ (getElem_mem m)) (H _ (getElem_mem _)) (Q m) (Int.le_of_lt (h (i+1+d) _ _ (List.getElem?_eq_getElem m) (List.getElem?_eq_getElem (show i+1+d+1<l.length from zl 0x468a88285e6ee9fe52fcb rfl J))))
theorem uJ(H:∀p∈l,aM p)(D:dI l)(j:¬Dj l=true):ed l:=by
 refine fO H λi a b E f=> ?_;obtain⟨h1,rfl⟩:=List.getElem?_eq_some_iff.mp E;obtain⟨h2,rfl⟩:=List.getElem?_eq_some_iff.mp f
 by_cases z:aK l[i] l[i+1]=0
 ·have:=(iG (H _ (getElem_mem h1)) (H _ (getElem_mem h2))).mp z
  exact absurd (kZ.mpr ⟨i,_,E,by rw[f,(Prod.ext this.1 this.2)]⟩) j
 ·exact Int.lt_iff_le_and_ne.mpr ⟨List.pairwise_iff_getElem.mp D i (i+1) h1 h2 (zm 1103964 rfl _),z⟩
theorem tP(hb:0<b)(hd:0<d)(h:a*d<c*b):aK (rd a b) (rd c d)<0:=by
 show ag (rP a b) (mw a b) (rP c d) (mw c d)<0;unfold ag;have p1:=cq (n:=a) hb;have p2:=cq (n:=c) hd;rw[if_neg (by exact zl 0xa6607a73e4c28 rfl p1),MB];have E:=xr (n:=a) (d:=b);have j:=xr (n:=c) (d:=d);generalize rP a b=x at*;generalize mw a b=y at*;generalize rP c d=z at*;generalize mw c d=w at*;refine Int.not_le.mp λH=> ?_;have k3:z*y*(b*d)=c*b*(y*w):=by
  calc z*y*(b*d)=(z*d)*y*b:=zr 0x375eca38c70fb9c719 rfl ..
   _=c*b*(y*w):=by rw[j];exact zr 0x37377851c70fd8e319 rfl ..
 have K:x*w*(b*d)=a*d*(y*w):=by
  calc x*w*(b*d)=(x*b)*w*d:=zr 0x37535c38c70fb9c719 rfl ..
   _=a*d*(y*w):=by rw[E];exact zr 0x375df851c70fd8e319 rfl ..
 exact zl 0xb1c8b1684df88b6d6 rfl (Int.mul_le_mul_of_nonneg_right H (Int.le_of_lt (Int.mul_pos hb hd))) (Int.mul_lt_mul_of_pos_right h (Int.mul_pos p1 p2)) k3 K
theorem rK{i j:Nat}(hd:0<d)(h1:n.natAbs<2^i)(h2:d.natAbs<2^j)(l:(Nat.ble i 64&&Nat.ble j 64)=true):aM (rd n d):=by
 rw[Bool.and_eq_true]at l;have A:=cq (n:=n) hd;exact⟨.inl ⟨A,oW hd⟩,Nat.lt_of_le_of_lt (ou hd) (iE h1 (le_of_ble_eq_true l.1)),by
  have:=iE h2 (le_of_ble_eq_true l.2);exact zl 0x9952875abd37cae735694196 rfl (pY (n:=n) hd) A this⟩
structure GK(l:List PR):Prop where
 num:∀p∈l,aM p
 strict:ed l
 vz:2≤l.length
 Dz:l.length≤100
theorem wQ(Q:Sm low)(C:Sm top)(L:0<low.2)(t:0<top.2)(m2:2≤m)(M:m≤40)(H:aK low top≤0):GK (fe low top m):=by
 have b1:low.1.natAbs<2^5:=by rcases Q with h|h<;>(first|exact zl 920200751983464 rfl h.2.2.2|exact zl 379053015251752 rfl L h.1)
 have b2:low.2.natAbs<2^2:=by rcases Q with h|h<;>(first|exact zl 0xd5e355420528 rfl h.1 h.2.2.1|exact zl 0x674d8b933b28 rfl L h.1)
 have W:top.1.natAbs<2^5:=by rcases C with h|h<;>(first|exact zl 920200751983464 rfl h.2.2.2|exact zl 379053015251752 rfl t h.1)
 have Y:top.2.natAbs<2^2:=by rcases C with h|h<;>(first|exact zl 0xd5e355420528 rfl h.1 h.2.2.1|exact zl 0x674d8b933b28 rfl t h.1)
 have J:m.natAbs<2^6:=zl 0xa242cccd94d25701 rfl m2 M;have B:(1000:Int).natAbs<2^10:=by decide
 have w:0≤top.1*low.2-low.1*top.2:=by
  change ag low.1 low.2 top.1 top.2≤0 at H;unfold ag at H;rw[if_neg (by exact zl 0xa6607a73e4c28 rfl L),u4]at H;exact zl 44844863190 rfl H
 have F:∀{a b c:Int},0<c→a<b→a*c<b*c:=λh h'=>Int.mul_lt_mul_of_pos_right h' h;unfold fe;split
 ·generalize K:(if low.1≠0 then(low.1.natAbs:Int)else 1)=n
  have X:n.natAbs<2^5:=by subst K;split<;>(first|exact zl 30037915692659 rfl b1|exact zm 11889607 rfl)
  have U:0<n:=by subst K;split<;>(first|exact zl 22005727352098 rfl ‹_›|exact zm 6150 rfl)
  have Z:0<low.2*low.2*1000:=by have:=Int.mul_pos L L;exact zl 0xf7afbc6e5d28 rfl this
  have S:0<(rd (low.1*low.2*1000-n*low.2) (low.2*low.2*1000)).2:=cq Z;have y:(rd (low.1*low.2*1000-n*low.2) (low.2*low.2*1000)).1.natAbs<2^18:=Nat.lt_of_le_of_lt (ou Z) (x9 (ml (ml b1 b2) B) (iE (ml X b2) (by decide)));have c2:(rd (low.1*low.2*1000-n*low.2) (low.2*low.2*1000)).2.natAbs<2^14:=by
   have h1:=pY (n:=low.1*low.2*1000-n*low.2) Z;have h3:(low.2*low.2*1000).natAbs<2^14:=ml (ml b2 b2) B;change 0<mw _ _ at S;show(mw _ _).natAbs<_;exact zl 0x1454ff10bd27abb8405c516acee rfl h1 h3 S
  show GK ((List.range (m+1).toNat).map λ(i:Nat)=>rd ((rd (low.1*low.2*1000-n*low.2) (low.2*low.2*1000)).1*(low.2*1000)*m+(0+1*(i:Int))*(2*n)*(rd (low.1*low.2*1000-n*low.2) (low.2*low.2*1000)).2) ((rd (low.1*low.2*1000-n*low.2) (low.2*low.2*1000)).2*(low.2*1000)*m));generalize rd (low.1*low.2*1000-n*low.2) (low.2*low.2*1000)=st at S y c2;have D:=dQ S (zl 0xf7afbc6e5d28 rfl L) (zl 179601153 rfl m2);have N:∀p∈((List.range (m+1).toNat).map λ(i:Nat)=>rd (st.1*(low.2*1000)*m+(0+1*(i:Int))*(2*n)*st.2) (st.2*(low.2*1000)*m)),aM p:=λp V=>by
   obtain⟨i,I,rfl⟩:=List.mem_map.mp V;have I:=List.mem_range.mp I;have bi:(0+1*(i:Int)).natAbs<2^6:=zl 0x638b44bdb0fa5cc3d9cf825d3e rfl M I;exact rK (i:=37) (j:=32) D (Ae (iE (ml (ml y (ml b2 B)) J) (by decide)) (iE (ml (ml bi (show(2*n).natAbs<2^6 from zl 0xaba5e554a66aab73 rfl X)) c2) (by decide))) (ml (ml c2 (ml b2 B)) J) rfl
  refine⟨N,fO N λi a b g E=> ?_,by simp;exact zl 7235505544449 rfl m2,by simp;exact zl 0x2ba4b852201d3e rfl M⟩;rw[List.getElem?_map]at g E;obtain⟨x,h1,rfl⟩:=Option.map_eq_some_iff.mp g;obtain⟨v,h2,rfl⟩:=Option.map_eq_some_iff.mp E;have h1:=(List.getElem?_eq_some_iff.mp h1).2;have h2:=(List.getElem?_eq_some_iff.mp h2).2;simp at h1 h2;subst h1;subst h2;refine tP D D (F D ?_);have s:0<(2*n)*st.2:=Int.mul_pos (zl 185332817192 rfl U) S;have:(0+1*((i+1:Nat):Int))*(2*n)*st.2=(0+1*(i:Int))*(2*n)*st.2+(2*n)*st.2:=by
   rw[show(0+1*((i+1:Nat):Int))=(0+1*(i:Int))+1 from zm 0x10da973855c361b2e70ad rfl _];grind
  rw[this];exact Int.add_lt_add_left (Int.lt_add_of_pos_right _ s) _
 ·rename_i r
  have RA:low.1*(top.2*low.2)+(top.1*low.2-low.1*top.2)*low.2=top.1*low.2*low.2:=zr 0x37644bc7363d25e05cdee6ed rfl _ _ _ _;generalize O:top.1*low.2-low.1*top.2=n at*;generalize hd:top.2*low.2=d at*;have U:0<n:=zl 673264227391773 rfl w r;have P:0<d:=by subst hd;exact Int.mul_pos t L
  have T:n.natAbs<2^8:=by subst O;exact x9 (ml W b2) (ml b1 Y)
  have u:d.natAbs<2^4:=by subst hd;exact ml Y b2
  have D:0<low.2*d*m:=dQ L P (zl 179601153 rfl m2);have R:0<low.2*d*1000:=dQ L P (zm 11274374 rfl);have k:0<top.2*d*1000:=dQ t P (zm 11274374 rfl);unfold B9;have len:((List.range (m+1).toNat).map λ(i:Nat)=>rd (low.1*d*m+(0+1*(i:Int))*n*low.2) (low.2*d*m)).length=(m+1).toNat:=by simp
  have get:∀i:Nat,i<(m+1).toNat→((List.range (m+1).toNat).map λ(i:Nat)=>rd (low.1*d*m+(0+1*(i:Int))*n*low.2) (low.2*d*m))[i]? =some (rd (low.1*d*m+(i:Int)*n*low.2) (low.2*d*m)):=λi I=>by
   rw[List.getElem?_map,List.getElem?_range I];show some (rd (low.1*d*m+(0+1*(i:Int))*n*low.2) (low.2*d*m))=_;rw[show(0+1*(i:Int))=i from zm 776670703789 rfl _]
  generalize((List.range (m+1).toNat).map λ(i:Nat)=>rd (low.1*d*m+(0+1*(i:Int))*n*low.2) (low.2*d*m))=l at len get;have G:∀(i:Nat)a,((l.set 0 (rd (low.1*d*1000-n*low.2) (low.2*d*1000))).set m.toNat (rd (top.1*d*1000+n*top.2) (top.2*d*1000)))[i]? =some a→
   (i=0∧a=rd (low.1*d*1000-n*low.2) (low.2*d*1000))∨((i:Int)=m∧a=rd (top.1*d*1000+n*top.2) (top.2*d*1000))∨(0<i∧(i:Int)<m∧a=rd (low.1*d*m+(i:Int)*n*low.2) (low.2*d*m)):=by
   intro i a e;have I:=(List.getElem?_eq_some_iff.mp e).1;rw[List.length_set,List.length_set,len]at I
   by_cases q:i=m.toNat
   ·subst q
    rw[List.getElem?_set_self (by rw[List.length_set,len];exact I)]at e;exact .inr (.inl ⟨zl 44739723265 rfl m2,(Option.some.inj e).symm⟩)
   ·rw[List.getElem?_set_ne (λz=>q z.symm)]at e
    by_cases A:i=0
    ·subst A
     rw[List.getElem?_set_self (by rw[len];exact I)]at e;exact .inl ⟨rfl,(Option.some.inj e).symm⟩
    ·rw[List.getElem?_set_ne (λz=>A z.symm),get i I]at e
     exact .inr (.inr ⟨zl 11191634317 rfl A,zl 0x4366abec2e84c7d3aa rfl I q,(Option.some.inj e).symm⟩)
  have length:((l.set 0 (rd (low.1*d*1000-n*low.2) (low.2*d*1000))).set m.toNat (rd (top.1*d*1000+n*top.2) (top.2*d*1000))).length=(m+1).toNat:=by rw[List.length_set,List.length_set,len]
  generalize((l.set 0 (rd (low.1*d*1000-n*low.2) (low.2*d*1000))).set m.toNat (rd (top.1*d*1000+n*top.2) (top.2*d*1000)))=f at G length;have N:∀p∈f,aM p:=λp V=>by
   obtain⟨i,I,rfl⟩:=List.getElem_of_mem V;rcases G i _ (List.getElem?_eq_getElem I)with⟨_,e⟩|⟨_,e⟩|⟨h1,h2,e⟩<;>rw[e]
   ·exact rK (i:=20) (j:=16) R (x9 (iE (ml (ml b1 u) B) (by decide)) (iE (ml T b2) (by decide))) (ml (ml b2 u) B) rfl
   ·exact rK (i:=20) (j:=16) k (Ae (iE (ml (ml W u) B) (by decide)) (iE (ml T Y) (by decide))) (ml (ml Y u) B) rfl
   ·have bi:(i:Int).natAbs<2^6:=zl 0x18e2d12d068a73b5d3e rfl M h2
    exact rK (i:=17) (j:=12) D (Ae (iE (ml (ml b1 u) J) (by decide)) (ml (ml bi T) b2)) (ml (ml b2 u) J) rfl
  refine⟨N,fO N λi a b g E=> ?_,zl 0x1a2c9170742f801 rfl m2 length,zl 0x190f0d30529d0cf1d3e rfl M length⟩;have E:=G _ b E;have o:=Int.mul_pos U L;rcases G i a g with⟨rfl,rfl⟩|⟨h,rfl⟩|⟨h1,h2,rfl⟩
  ·rcases E with⟨h,_⟩|⟨h,_⟩|⟨h1,h2,rfl⟩
   ·exact zl 882242258838 rfl h
   ·exact zl 0xa6a71fb10bfbc01 rfl m2 h
   ·refine tP R D ?_
    have p:=Int.mul_pos (Int.mul_pos o (zl 0xb089f810df01 rfl m2)) (Int.mul_pos L P);have e:(low.1*d*m+((0+1:Nat):Int)*n*low.2)*(low.2*d*1000)=(low.1*d*1000-n*low.2)*(low.2*d*m)+n*low.2*(1000+m)*(low.2*d):=by
     rw[show((0+1:Nat):Int)=1 from rfl];exact zr 0x534c8fbb01fc672f18e791e3b3981c0838e302bd702148f1d9cfe639b1c5d99 rfl _ _ _ _ _
    rw[e];exact Int.lt_add_of_pos_right _ p
  ·rcases E with⟨h',_⟩|⟨h',_⟩|⟨h1,h2,rfl⟩<;>lia
  ·rcases E with⟨h',_⟩|⟨h',rfl⟩|⟨RB,RC,rfl⟩
   ·lia
   ·refine tP D k ?_
    have I:(i:Int)=m-1:=by lia
    rw[I];have p:0<n*(m+1000)*d*d:=Int.mul_pos (Int.mul_pos (Int.mul_pos U (zl 0xf7afb9d4df01 rfl m2)) P) P;have e:(top.1*d*1000+n*top.2)*(low.2*d*m)=(low.1*d*m+(m-1)*n*low.2)*(top.2*d*1000)+n*(m+1000)*d*d:=by
     have k1:top.1*low.2=n+low.1*top.2:=zl 9401309238151 rfl O
     calc(top.1*d*1000+n*top.2)*(low.2*d*m)=(top.1*low.2)*d*d*m*1000+n*(top.2*low.2)*d*m:=zr 0x7d3fd9397cb8c870237a644718c62f2f6478e1f8381071c5d99 rfl _ _ _ _ _ _
      _=(n+low.1*top.2)*d*d*m*1000+n*d*d*m:=by rw[k1,hd]
      _=low.1*top.2*d*d*m*1000+(m-1)*n*d*d*1000+n*(m+1000)*d*d:=zr 0x14d67a98116259c6438110f2b063163190e0459cf3f7c6318bae339e51c643811673cfdee198c62ed rfl _ _ _ _ _
      _=low.1*top.2*d*d*m*1000+(m-1)*n*(top.2*low.2)*d*1000+n*(m+1000)*d*d:=by rw[hd]
      _=_:=zr 0x7d396c0885463c64381137c7c0a0058b1c3e1c5d978ad8110a8c78c87022bf3f680162c6321c08881d8e318c5d6d rfl _ _ _ _ _ _
    exact zl 0x40aa49a4d2d28 rfl p e
   ·refine tP D D (F D ?_)
    have:((i+1:Nat):Int)*n*low.2=(i:Int)*n*low.2+n*low.2:=by
     rw[show((i+1:Nat):Int)=(i:Int)+1 from zm 1158144025007 rfl _];grind
    rw[this,←Int.add_assoc];exact Int.lt_add_of_pos_right _ o
theorem lN{P:Str⊕List PR→Prop}(H:P (.inl mS))(h1:∀p:PR,cut=[p].map .nu→P (F3 xs p.1))(h2:∀ps:List PR,2≤ps.length→cut=ps.map .nu→P (if Dj (aI ps)=true then .inl mU else .inr (aI ps))):P (brk xs cut):=by
 delta brk
 by_cases N:cut=[]∨true∈cut.map hK
 ·rw[if_pos N];exact H
 ·rw[if_neg N]
  have E:=n4 λI i=>by
   cases q:hK I with
   |false=>rfl
   |true=>exact absurd (.inr (mem_map.mpr ⟨I,i,q⟩)) N
  generalize DA cut=ps at E⊢;cases ps with
  |nil=>exact absurd (.inl E) N
  |cons p r=>
   cases r with
   |nil=>exact h1 p E
   |cons b r=>exact h2 (p::b::r) (le_add_left 2 _) E
theorem l7{P:Str⊕List PR→Prop}(H:∀s,k8 s=true→P (.inl s))(h1:2≤m→∀low r,aI (dq xs)=low::r→P (.inr (fe low ((low::r).getLast (List.cons_ne_nil _ _)) m))):P (F3 xs m):=by
 delta F3
 by_cases q:m<2
 ·rw[if_pos q];exact H _ rfl
 ·rw[if_neg q]
  generalize aI (dq xs)=L at h1⊢;cases L with
  |nil=>exact H _ rfl
  |cons low r=>exact h1 (Int.not_lt.mp q) low r rfl
theorem yJ(H:∀I∈xs,ip true I):∀p∈aI (dq xs),Sm p∧0<p.2:=λp P=>
 have z:=(aZ (dq xs)).mem_iff.mp P
 ⟨(H _ (cH z).1).1,(cH z).2⟩
theorem pT(x:∀I∈xs,ip true I)(H:iW cut):brk xs cut=.inr l→GK l:=by
 refine lN (P:=λz=>z=.inr l→GK l) (λh=>nomatch h) (λp E=> ?_) λps B E h=> ?_
 ·refine l7 (P:=λz=>z=.inr l→GK l) (λ_ _ h=>nomatch h) λm2 low r e h=> ?_
  cases h;have ss:=de λp u=>(x _ (cH u).1).1.num;have s:=yJ x;rw[e]at ss s;have G:=getLast_mem (cons_ne_nil low r);have h1:=s low (.head _);have h2:=s _ G;apply wQ h1.1 h2.1 h1.2 h2.2 m2 (H.vP p E).2;rcases mem_cons.mp G with z|z
  ·rw[z,cF];decide
  ·exact(pairwise_cons.mp ss).1 _ z
 ·have C:=H.len
  rw[E,length_map]at C;have O:=λp u=>(H.ok (.nu p) (E▸List.mem_map.mpr ⟨p,u,rfl⟩)).1.num
  by_cases na:Dj (aI ps)=true
  ·rw[if_pos na]at h;cases h
  ·rw[if_neg na]at h
   cases h;have m:=aZ ps;have L:=λp u=>O p (m.mem_iff.mp u);exact⟨L,uJ L (de O) na,m.length_eq▸B,m.length_eq▸C⟩
theorem lU(H:0≤n)(hd:0<d)(b1:n.natAbs<2^180)(b2:d.natAbs<2^180)(h:∀q,0≤q→q≤n/d+1→(d=1→q=n)→K (.j (.int q)) []):FF 12 [vi n,vi d] K X:=by
 refine cX 12 rfl rfl rfl λG g=> ?_;have E:n.fdiv d=n/d:=Int.fdiv_eq_ediv_of_nonneg _ (zl 179569704 rfl hd);have L:0≤n/d:=Int.ediv_nonneg H (zl 179569704 rfl hd);have J:n/d≤n:=Int.ediv_le_self _ H;have vP:d=1→n/d=n:=λz=>by rw[z,Int.ediv_one]
 refine⟨zl 31155043112 rfl hd,bg b2 (by decide),?_⟩;rw[E];refine⟨bg (zl 0x1b1558d1cbbfa9e73 rfl b1 L J) (by decide),bg b2 (by decide),by decide,bg (i:=181) (zl 0xa1d0e83c80d814f94668acc773 rfl b1 (Int.ediv_mul_le _ (zl 31155043112 rfl hd)) (Int.mul_nonneg L (zl 179569704 rfl hd))) (by decide),?_⟩;generalize n/d=q at*;refine ai (b:=decide (d<2*(n-q*d))||(decide (2*(n-q*d)=d)&&decide (q.fmod 2=1))) (D2 (λ_ h=>h) λ_=>yZ (lg (λ_ h=>h) λ_=>pG (λ_ h=>⟨by decide,h⟩))) (λz=> ?_) λz=> ?_
 ·refine h _ (zl 226112070685 rfl L) (zm 1868700427 rfl _) λd1=> ?_
  subst d1;have:=vP rfl;subst this;rw[Bool.or_eq_true,Bool.and_eq_true,decide_eq_true_iff,decide_eq_true_iff,Int.mul_one,Int.sub_self]at z;rcases z with z|z
  ·cases z
  ·cases z.1
 ·exact h _ L (zm 1824856 rfl _) vP
noncomputable def ak(k:Nat):Int:=((10^k:Nat))
theorem df(k):ak (k+1)=ak k*10:=by unfold ak;rw[Nat.pow_succ,Int.natCast_mul];rfl
theorem bV(k):0<ak k:=by unfold ak;have:=Nat.pow_pos (n:=k) (show 0<10 by decide);exact zl 2872778057 rfl this
theorem Ax(h:ak k<ak b):k<b:=by
 refine Nat.lt_of_not_le λz=> ?_;have:=Nat.pow_le_pow_right (show 0<10 by decide) z;unfold ak at h;exact zl 3318305952352 rfl h this
theorem wd(H:a≠0)(hd:0<d)(b1:a.natAbs<2^64)(b2:d.natAbs<2^64)(h:∀e:Int,-20≤e→e≤19→(d≤a.natAbs→0≤e∧d*ak e.toNat≤a.natAbs)→(a.natAbs:Int)*ak (0-e).toNat<d*ak e.toNat*10→K (.j (.int e)) []):FF 13 [.j (nv a d)] K X:=by
 refine cX 13 rfl rfl rfl λG T=> ?_;generalize N:(a.natAbs:Int)=n at h;have Y:0<n:=zl 0x9a6b2b48d1f0a22 rfl H N;have S:n<2^64:=zl 0x288c4e4005e9a68a0cc773 rfl b1 N;have d1:d<2^64:=zl 0x1765a31cfa0cc773 rfl b2;have B:∀{x:Int},0≤x→x<2^72→x.natAbs<lJ:=λh1 h2=>bg (zl 0xb365bcc3af36249681d rfl h1 h2) (by decide);refine aw (v:=.j (.int n)) (ρ1:=[.j (nv a d),.y,.y,.y]) (λk R=>by rw[←N]at R;exact R) (aa rfl) (aw (λ_ h=>h) (aa rfl) (aw (λ_ h=>h) (aa rfl) ?_));refine jG (λρ=>∃k,ρ=[.j (nv a d),vi n,vi (d*ak k),vi k]∧(k=0∨d*ak k≤n)) (λρ=>match ρ with|[_,.j (.int x),.j (.int y),_]=>x.toNat-y.toNat|_=>0) ⟨0,by show _=[.j (nv a d),vi n,vi (d*ak 0),vi (0)];rw[show d*ak 0=d by unfold ak;simp];rfl,.inl rfl⟩ ?_;rintro ρ ⟨k,rfl,R⟩ I Z;have p:=Int.mul_pos hd (bV k);have E:d*ak k<2^64:=by
  rcases R with rfl|R
  ·rw[show d*ak 0=d by unfold ak;simp];exact d1
  ·exact zl 0xf3ebc1eb947c141a68a0cc773 rfl b1 N R
 have b:k≤19:=by
  have h1:ak k≤d*ak k:=by
   have:=Int.mul_le_mul_of_nonneg_right (show 1≤d from zl 180251176 rfl hd) (Int.le_of_lt (bV k));exact zl 46058652547 rfl this
  have:k<20:=Ax (by rw[show ak 20=100000000000000000000 from rfl];exact zl 0x146db940f045906629 rfl E h1);exact zl 468772104554 rfl this
 refine AW (λ_ h=>⟨by decide,B (Int.le_of_lt p) (zl 0xbdc698e7d06629 rfl E),h⟩) (λq=> ?_) λq=> ?_
 ·have q:=of_decide_eq_true q
  refine⟨B (Int.le_of_lt p) (zl 0xbdc698e7d06629 rfl E),by decide,?_⟩;have e:d*ak k*10=d*ak (k+1):=by rw[df,Int.mul_assoc]
  refine Z _ ⟨k+1,?_,.inr (zl 0x102a736e2d693e4bf43 rfl q e)⟩ ?_
  ·show[.j (nv a d),vi n,vi (d*ak k*10),vi (k+1)]=_
   rw[e];rfl
  ·show n.toNat-(d*ak k*10).toNat<n.toNat-(d*ak k).toNat
   exact zl 0x13baba75d624dd9ad08a1e66b228 rfl p q
 ·have q:=of_decide_eq_false q
  have C:d*ak (k+1)=d*ak k*10:=by rw[df,Int.mul_assoc]
  have A:d≤n→d*ak k≤n:=λz=>by
   rcases R with rfl|R
   ·rw[show d*ak 0=d by unfold ak;simp];exact z
   ·exact R
  generalize O:d*ak k=D at*;refine jG (λρ=>∃j,ρ=[.j (nv a d),vi (n*ak j),vi D,vi (k-j)]∧(j=0∨(n*ak j<10*D∧n<D))) (λρ=>match ρ with|[_,.j (.int x),.j (.int y),_]=>y.toNat-x.toNat|_=>0) ⟨0,by rw[show n*ak 0=n by unfold ak;simp,show k-((0:Nat):Int)=k from zm 24312129987 rfl _],.inl rfl⟩ ?_;rintro ρ ⟨j,rfl,J⟩ I Z;have P:=Int.mul_pos Y (bV j);have F:n*ak j<2^68:=by
   rcases J with rfl|J
   ·rw[show n*ak 0=n by unfold ak;simp];exact zl 0x289ff71805e9a68a0cc773 rfl b1 N
   ·exact zl 0x513fee2f368ce64c506629 rfl E J.1
  have g:j≤20:=by
   have h1:ak j≤n*ak j:=by
    have:=Int.mul_le_mul_of_nonneg_right (show 1≤n from zl 180251176 rfl Y) (Int.le_of_lt (bV j));exact zl 46058652547 rfl this
   have:j<21:=Ax (by rw[show ak 21=1000000000000000000000 from rfl];exact zl 0x14778dacf046096629 rfl F h1);exact zl 474354754154 rfl this
  refine AW (λ_ h=>h) (λq=> ?_) λq=> ?_
  ·have q:=of_decide_eq_true q
   refine⟨B (Int.le_of_lt P) (zl 0xbdc698e8496629 rfl F),by decide,?_⟩;have e:n*ak j*10=n*ak (j+1):=by rw[df,Int.mul_assoc]
   have nl:n≤n*ak j:=by
    have:=Int.mul_le_mul_of_nonneg_left (show 1≤ak j by have:=bV j;exact zl 180251176 rfl this) (Int.le_of_lt Y);exact zl 46059113315 rfl this
   refine Z _ ⟨j+1,?_,.inr ⟨zl 0x1023e02c7ca72d693e1 rfl q e,zl 1110939450913 rfl q nl⟩⟩ ?_
   ·show[.j (nv a d),vi (n*ak j*10),vi D,vi (k-j-1)]=_
    rw[e,show k-j-1=k-((j+1:Nat):Int)from zm 0xc7b9ad4e378353843 rfl _ _]
   ·show D.toNat-(n*ak j*10).toNat<D.toNat-(n*ak j).toNat
    exact zl 0x13baba75d624dd9ad0886028 rfl P q
  ·have q:=of_decide_eq_false q
   refine h _ (zl 0xa78eb57b5124a95f rfl g) (zl 0x59addf24f17b05f rfl b) (λz=> ?_) ?_
   ·have f:=A z
    have u:j=0:=by
     rcases J with J|J
     ·exact J
     ·exact zl 2952961929814 rfl f J.2
    subst u;have:((k:Int)-((0:Nat):Int)).toNat=k:=zm 25026705522 rfl _;rw[this,O];exact⟨zm 4357175493 rfl _,f⟩
   ·rcases J with rfl|J
    ·rw[show(k-((0:Nat):Int)).toNat=k from zm 25026705522 rfl _,show(0-(k-((0:Nat):Int))).toNat=0 from zm 0x828ed4e31872 rfl _,O]
     rw[show n*ak 0=n by unfold ak;simp];exact zl 0x1414ab9f33b5437e7 rfl ‹_›
    ·have k0:k=0:=by
      rcases R with R|R
      ·exact R
      ·exact zl 2952961844641 rfl J.2 R
     subst k0;have U:D=d:=by rw[←O];unfold ak;simp
     rw[show(0-(((0:Nat):Int)-j)).toNat=j from zm 24277552404594 rfl _,show(((0:Nat):Int)-j).toNat=0 from zm 138867357810 rfl _,O];exact zl 0x2a7c4a7a475f9f9 rfl J.1
theorem A6(l):hH (l.map V.str)=some l:=by
 induction l with
 |nil=>rfl
 |cons s l I=>
  show(hH (l.map V.str)).map (s:: ·)=_;rw[I];rfl
theorem DL{l}(h:∀s∈l,Tx n s):Tx (n*l.length) (dK l):=by
 induction l with
 |nil=>exact⟨zero_le _,λc H=>by cases H⟩
 |cons s l I=>
  have:=(h s (.head _)).add (I λt T=>h t (.tail _ T));exact this.le (by rw[length_cons,mul_succ];exact zm 186019342 rfl ..)
theorem pZ(h:Tx n s)(H:c<0x110000):Tx (n+m) (eG s m c):=by
 constructor
 ·show(replicate ((m:Int).toNat-s.cps.toList.length) c++s.cps.toList).toArray.toList.length≤_
  rw[List.length_append,length_replicate];have:=h.len;exact zl 0x1196afefe1837737 rfl this
 ·intro x X
  change x∈(replicate ((m:Int).toNat-s.cps.toList.length) c++s.cps.toList)at X;rcases mem_append.mp X with X|X
  ·rw[(mem_replicate.mp X).2];exact H
  ·exact h.ok x X
theorem BR{s:Str}(h:m≤s.cps.toList.length):eG s m c=s:=by
 show(⟨(List.replicate ((m:Int).toNat-s.cps.toList.length) c++s.cps.toList).toArray⟩:Str)=s;rw[show(m:Int).toNat-s.cps.toList.length=0 from zl 25591353748791 rfl h];cases s;simp
theorem Jc(h:∀k,k (.j (.o (l.map V.str))) ρ1→ev G es ρ k X)(H:(dK l).cps.toList.length≤aA)(d:k (.j (.str (dK l))) ρ1):ev G (.join (.M ⟨#[]⟩) es) ρ k X:=by
 apply h _;show(match([]:List Nat),hH (l.map V.str)with|[],some ss=>(dK ss).cps.toList.length≤aA∧k (.j (.str (dK ss))) ρ1|_,_=>False);rw[A6];exact⟨H,d⟩
theorem ET(h:∀k,k (.j (.L [a,b])) ρ1→ev G e ρ k X)(f1:bo ρ1 i)(f:bo (ρ1.set i (.j a)) j)(h1:ex G r ((ρ1.set i (.j a)).set j (.j b)) x C t X):ex G (.cons (.jn [i,j] e) r) ρ x C t X:=h _ (aT f1 (aT f h1))
theorem rG(H:0≤n)(h1:n<ak 54)(h:∀s,Tx 200 s→(n<ak 18→s=aG n)→K (.j (.str s)) []):FF 15 [vi n] K X:=by
 refine cX 15 rfl rfl rfl λG g=> ?_;have L:aA=1000000:=rfl;have T:ak 18=1000000000000000000:=rfl;have I:((10:Int)^(18:Int).toNat)=ak 18:=rfl;refine aw (λk d=>by
  show k (.j (.int (n.natAbs:Int))) _;rw[show(n.natAbs:Int)=n from zl 44761529885 rfl H];exact d) (aa rfl) (aw (λ_ h=>⟨af rfl,h⟩) (aa rfl) ?_)
 refine jG (λρ=>∃l r Q,fu Q∧(∀s∈l,Tx 37 s)∧l.length≤2∧0≤r∧r<ak (54-18*l.length)∧((l=[]∧r=n)∨ak 18≤n)∧ρ=[vi n,vi r,.U (l.map V.str),Q]) (λρ=>match ρ with|[_,.j (.int r),_,_]=>r.toNat|_=>0) ⟨[],n,.y,.inl rfl,λs h=>(by cases h),by simp,H,h1,.inl ⟨rfl,rfl⟩,rfl⟩ ?_;rintro ρ ⟨l,r,Q,h3,x,J,O,R,eq,rfl⟩ t Z;have y:r<ak 54:=by
  refine Int.lt_of_lt_of_le R ?_;unfold ak;have:=Nat.pow_le_pow_right (show 0<10 by decide) (show 54-18*l.length≤54 from zm 0x51cab42e072c4 rfl _);exact zl 23879377143 rfl this
 have C:ak 54=1000000000000000000000000000000000000000000000000000000:=rfl;refine AW (b:=decide (ak 18≤r)) (λ_ h=>⟨by decide,by decide,by decide,h⟩) (λq=> ?_) λq=> ?_
 ·have q:=of_decide_eq_true q
  have E:l.length≤1:=by
   refine Nat.le_of_not_lt λz=> ?_;have:l.length=2:=zl 4311155288831 rfl J z;rw[this]at R;change r<ak 18 at R;exact zl 5879022166 rfl q R
  have v:r.fdiv (ak 18)=r/ak 18:=Int.fdiv_eq_ediv_of_nonneg _ (by decide);have M:r.fmod (ak 18)=r%ak 18:=Int.fmod_eq_emod_of_nonneg _ (by decide);have m0:0≤r%ak 18:=Int.emod_nonneg _ (by decide);have m1:r%ak 18<ak 18:=Int.emod_lt_of_pos _ (by decide);have P:0≤r/ak 18:=Int.ediv_nonneg O (by decide);have d1:r/ak 18<ak (54-18*(l.length+1)):=by
   refine Int.ediv_lt_of_lt_mul (by decide) ?_;have e:ak (54-18*(l.length+1))*ak 18=ak (54-18*l.length):=by
    unfold ak;rw[←Int.natCast_mul,←Nat.pow_add,show 54-18*(l.length+1)+18=54-18*l.length from zl 0x5645382c7d87ac137b382c7aef06f rfl E]
   rw[e];exact R
  have d2:r/ak 18<r:=by
   have h:=Int.ediv_mul_le r (show(1000000000000000000:Int)≠0 by decide);rw[T]at q⊢;generalize r/1000000000000000000=X at h⊢;rename_i u;exact zl 0x1e9094d274ff8572c815f34 rfl T (dT u:) h
  refine ET (λk d=>⟨by decide,by decide,by decide,by decide,by decide,by
   show k (.j (.L [.int (r.fdiv (ak 18)),.int (r.fmod (ak 18))])) _;rw[v,M];exact d⟩) (aq rfl (.inr ⟨_,rfl⟩)) (aq rfl h3) ?_
  have p:Tx 19 (aG (r%ak 18)):=jT (k:=18) (by decide) (by rw[T]at m1 m0⊢;generalize r%1000000000000000000=X at m1 m0⊢;exact zl 0xb36dc443f13d715f29 rfl m1 m0);refine eV rfl (λk d=>⟨bg (i:=60) (by rw[T]at m1 m0⊢;generalize r%1000000000000000000=X at m1 m0⊢;exact zl 0x2bed8510df13d715f29 rfl m1 m0) (by decide),by decide,by decide,Nat.le_trans p.len (by decide),d⟩) rfl (by rw[List.length_map];exact zl 0x9ec2385319419da55 rfl L E) ?_;have e:l.map V.str++[V.str (eG (aG (r%ak 18)) 18 48)]=(l++[eG (aG (r%ak 18)) 18 48]).map V.str:=by rw[List.map_append];rfl
  refine Z _ ⟨l++[eG (aG (r%ak 18)) 18 48],r/ak 18,vi (r%ak 18),.inr ⟨_,rfl⟩,λs S=> ?_,by simp;exact zl 133677935 rfl E,P,by rw[List.length_append];exact d1,.inr ?_,by rw[←e];rfl⟩ (by show(r/ak 18).toNat<r.toNat;exact zl 0x7a18cbd835c0e3bcd96ba8791001cc234 rfl T q d2)
  ·rcases List.mem_append.mp S with S|S
   ·exact x s S
   ·rw[List.mem_singleton]at S;subst S
    exact pZ (m:=18) p (by decide)
  ·rcases eq with⟨_,rfl⟩|h
   ·exact q
   ·exact h
 ·have q:=of_decide_eq_false q
  have tr:Tx 37 (aG r):=(jT (k:=18) (by decide) (by rw[T]at q;exact zl 0x54cee1c58e2b404f481d rfl O q)).le (by decide);refine eV rfl (λk d=>⟨by have:(lJ:Nat)=2^200:=rfl;rw[T]at q;exact zl 0x19d82c9a3082b404f481d rfl O q,d⟩) rfl (by rw[List.length_map];exact zl 0x9ec31d1719419da55 rfl L J) ?_;refine ai (λ_ h=>h) (λz=>by have:=of_decide_eq_true z;exact(zl 31154702365 rfl H this).elim) λ_=>ae ?_;have e:(l.map V.str++[V.str (aG r)]).reverse=((l++[aG r]).reverse).map V.str:=by rw[List.map_reverse,List.map_append];rfl
  have j:∀s∈(l++[aG r]).reverse,Tx 37 s:=λs S=>by
   rcases List.mem_append.mp (List.mem_reverse.mp S)with S|S
   ·exact x s S
   ·rw[List.mem_singleton]at S;subst S;exact tr
  have j:=DL j;have D:(l++[aG r]).reverse.length≤3:=by simp;exact zl 139131647 rfl J
  refine bM (ρ':=[vi n,vi r,.U ((l.map V.str++[V.str (aG r)]).reverse),Q]) (λ_ h=>h) ?_;refine iJ (Jc (ρ1:=[vi n,vi r,.j (.o (((l++[aG r]).reverse).map V.str)),Q]) (λk d=> ?_) (Nat.le_trans j.len (zl 0x9ede9f1ff1db19419da55 rfl L D)) (h _ (j.le (zl 7002314120190351 rfl D)) λz=> ?_))
  ·rw[e];exact d
  rcases eq with⟨rfl,rfl⟩|eq
  ·show dK [aG r]=_
   generalize aG r=s;cases s with
   |mk c=>
    show(⟨c++ #[]⟩:Str)=_;rw[Array.append_empty]
  ·exact(zl 5878936993 rfl z eq).elim
theorem tQ(a b):ak (a+b)=ak a*ak b:=by unfold ak;rw[Nat.pow_add,Int.natCast_mul]
theorem gQ(a):10^a=ak a:=by unfold ak;rw[Int.natCast_pow];rfl
theorem kF(h:a≤b):ak a≤ak b:=by
 unfold ak;have:=Nat.pow_le_pow_right (show 0<10 by decide) h;exact zl 23879377143 rfl this
theorem wx(h:k≤33):(ak k).natAbs<2^110:=by
 have:ak 33=1000000000000000000000000000000000:=rfl;exact zl 0x13952d2d6d73355682a0196 rfl (kF h) (bV k) this
noncomputable def Up(n d e:Int):Prop:=n*ak (0-e).toNat<d*ak e.toNat*10
theorem Up.QR(n0:0≤n)(d0:0<d)(h:Up n d e):Up n d (e+1):=by
 unfold Up at*;rcases Int.lt_or_le e 0 with z|z
 ·rw[show(0-e).toNat=(0-(e+1)).toNat+1 from zl 0xd3f32a9c5d8860e1ac9 rfl z,df,show e.toNat=0 from zl 6893599433 rfl z,←Int.mul_assoc]at h
  rw[show(e+1).toNat=0 from zl 7103895657161 rfl z];have:0≤n*ak (0-(e+1)).toNat:=Int.mul_nonneg n0 (Int.le_of_lt (bV _));exact zl 0x1414bf339b172703d8de96e rfl h this
 ·rw[show(0-e).toNat=0 from zl 7061698898205 rfl z]at h
  rw[show(0-(e+1)).toNat=0 from zl 7274391806011677 rfl z,show(e+1).toNat=e.toNat+1 from zl 0xd2a3d2592d291d rfl z,df,←Int.mul_assoc];have:0<d*ak e.toNat:=Int.mul_pos d0 (bV _);exact zl 0x1414b77d87df785cf303cf9 rfl h this
theorem tR(hd:0<d)(h:K (.j .none) []):FF 16 [.j (nv n d)] K X:=by
 refine cX 16 rfl rfl rfl λG H=> ?_;refine ai (b:=false) (λ_ h=>h) (λq=>by cases q) λ_=>ae ?_;exact ai (λ_ h=>h) (λ_=>h) λq=>absurd hd (of_decide_eq_false q)
theorem qK(H:n=1∨n= -1)(h:K (.j (.str (a5 (n,0)))) []):FF 16 [.j (nv n 0)] K X:=by
 refine cX 16 rfl rfl rfl λG g=> ?_;refine ai (b:=false) (λ_ h=>h) (λq=>by cases q) λ_=>ae ?_;refine ai (b:=false) (ρ':=[.j (nv n 0)]) (λ_ h=>h) (λq=>by cases q) λ_=>ae ?_;refine ai (λ_ h=>h) (λq=>by have:=of_decide_eq_true q;exact(zl 0x6db6ea6ee3f268 rfl H (dT q:)).elim) λ_=>ae ?_;rcases H with rfl|rfl
 ·exact h
 ·exact h
theorem uC(hd:0<d)(b1:a.natAbs<2^64)(b2:d.natAbs<2^64)(J: -20≤e)(Q:e≤20)(g0:1≤g)(g1:g≤14)(u:Up a.natAbs d e)
 (h:∀q,0≤q→q≤ak g.toNat→(d=1→0≤e→e<g→q=a.natAbs*ak (g-1-e).toNat)→K (.j (.int q)) []):FF 17 [.j (nv a d),vi e,vi g] K X:=by
 refine cX 17 rfl rfl rfl λG O=> ?_;generalize N:(a.natAbs:Int)=n at*;have Y:0≤n:=zl 185536859019 rfl N;refine aw (ρ1:=[.j (nv a d),vi e,vi g,.y]) (λk B=>B) (aa rfl) ?_;generalize H:g-1-e=s at*;refine ai (λ_ h=>h) (λz=> ?_) λz=>ae ?_
 ·have z:=of_decide_eq_true z
  have bs:=wx (k:=s.toNat) (zl 0x1ed103f80537125bd3255a7a927 rfl J g1 H);have b:(a.natAbs:Int).natAbs<lJ:=bg (i:=64) (zl 30037915692659 rfl b1) (by decide);refine⟨z,zl 0xfaae200c6c5925bd3255a7a927 rfl J g1 H,by decide,b,?_,?_⟩
  ·rw[gQ];exact bg bs (by decide)
  rw[gQ,N];have p0:0≤n*ak s.toNat:=Int.mul_nonneg Y (Int.le_of_lt (bV _));refine O.c 12 rfl _ _ _ (lU p0 hd (iE (ml (zl 0xe533a588ba68e73 rfl b1 N) bs) (by decide)) (iE b2 (by decide)) λq T t R=>h q T ?_ λd1 _ _=>R d1);have:n*ak s.toNat/d<ak g.toNat:=by
   apply Int.ediv_lt_of_lt_mul hd;unfold Up at u;rcases Int.lt_or_le e 0 with y|y
   ·rw[show s.toNat=(0-e).toNat+(g.toNat-1)from zl 0x3da2aefe6c4440eac770a6a64b370f rfl g0 H y,tQ,←Int.mul_assoc]
    rw[show e.toNat=0 from zl 6893599433 rfl y,show ak 0=1 from rfl,Int.mul_one]at u;have:=Int.mul_lt_mul_of_pos_right u (bV (g.toNat-1));rw[show d*10*ak (g.toNat-1)=ak g.toNat*d by
     rw[show g.toNat=(g.toNat-1)+1 from zl 0xd3f39f8c79ca0f rfl g0,df,Nat.add_sub_cancel,Int.mul_comm d,Int.mul_comm (ak _) 10,Int.mul_assoc,Int.mul_assoc,Int.mul_comm d]]at this
    exact this
   ·rw[show(0-e).toNat=0 from zl 7061698898205 rfl y,show ak 0=1 from rfl,Int.mul_one]at u
    have:=Int.mul_lt_mul_of_pos_right u (bV s.toNat);rw[show d*ak e.toNat*10*ak s.toNat=ak g.toNat*d by
     rw[show g.toNat=e.toNat+s.toNat+1 by rename_i Z;exact zl 0xf6aff42294597191dc276494ee7 rfl H (dT Z:) y,df,tQ,Int.mul_assoc,Int.mul_comm 10,←Int.mul_assoc,Int.mul_assoc d,Int.mul_assoc d,Int.mul_comm d]]at this
    exact this
  exact Int.le_trans t this
 ·have z:=of_decide_eq_false z
  have bs:=wx (k:=(0-s).toNat) (zl 0xf68828ca216a1624b8d49fa93e rfl Q g0 H);refine⟨by rename_i Z;exact zl 22253757464901 rfl (dF Z:),zl 0x7d571084bc4a5464b8d49fa93e rfl Q g0 H,by decide,bg b2 (by decide),?_,?_⟩
  ·rw[gQ];exact bg bs (by decide)
  rw[gQ,N];have D:0<d*ak (0-s).toNat:=Int.mul_pos hd (bV _);refine O.c 12 rfl _ _ _ (lU Y D (iE (zl 0xe533a588ba68e73 rfl b1 N) (by decide)) (iE (ml b2 bs) (by decide)) λq T t R=>h q T ?_ λ_ _ _=>by rename_i Z _ _ L;exact zl 0x214c1248271c7155e494ee7 rfl H (dF Z:) L);have:n/(d*ak (0-s).toNat)<ak g.toNat:=by
   apply Int.ediv_lt_of_lt_mul D;unfold Up at u;rw[show(0-e).toNat=0 by rename_i Z;exact zl 0x744b2edb813f42890a64b370f rfl g0 H (dF Z:),show ak 0=1 from rfl,Int.mul_one]at u;rw[show ak g.toNat*(d*ak (0-s).toNat)=d*ak e.toNat*10 by
    rw[Int.mul_comm,Int.mul_assoc,←tQ,Int.mul_assoc,←df,show(0-s).toNat+g.toNat=e.toNat+1 by rename_i Z;exact zl 0x1d241643c70566efd16aa690a64b370f rfl g0 H (dF Z:)]]
   exact u
  exact Int.le_trans t this
noncomputable def fX(l:List Nat):Nat→Nat
|0=>0
|1=>1
|k+2=>match l[k+1]? with
 |some c=>(match beq c 48 with|true=>fX l (k+1)|false=>k+2)
 |.none=>k+2
theorem ve(l):∀k,fX l k≤k
|0=>Nat.le_refl _
|1=>Nat.le_refl _
|k+2=>by
 show(match l[k+1]? with|some c=>(match Nat.beq c 48 with|true=>fX l (k+1)|false=>k+2)|.none=>k+2)≤_;cases l[k+1]? with
 |none=>exact Nat.le_refl _
 |some c=>
  show(match Nat.beq c 48 with|true=>fX l (k+1)|false=>k+2)≤_;cases beq c 48 with
  |true=>exact le_succ_of_le (ve l (k+1))
  |false=>exact Nat.le_refl _
theorem qU(l):∀k,1≤k→1≤fX l k
|1,_=>Nat.le_refl _
|k+2,_=>by
 show _≤(match l[k+1]? with|some c=>(match Nat.beq c 48 with|true=>fX l (k+1)|false=>k+2)|.none=>k+2);cases l[k+1]? with
 |none=>exact succ_le_succ (zero_le _)
 |some c=>
  show _≤(match Nat.beq c 48 with|true=>fX l (k+1)|false=>k+2);cases beq c 48 with
  |true=>exact qU l (k+1) (succ_le_succ (zero_le _))
  |false=>exact succ_le_succ (zero_le _)
noncomputable abbrev dP(s:Str):Nat:=fX s.cps.toList s.cps.toList.length
theorem I2:∀m:Fin 10,0<m.1→dP (aG (m.1*100))≤1:=by decide+kernel
theorem IE:∀m:Fin 15,dP (aG (((m.1+10:Nat))*10))≤2:=by decide+kernel
theorem Ho:∀m:Fin 25,0<m.1→ax ((⟨#[45]⟩)++aG m.1) (aG (-m.1))=true:=by decide+kernel
theorem gX(h:0≤n):1≤(aG n).cps.toList.length:=by
 obtain⟨m,rfl⟩:=Int.eq_ofNat_of_zero_le h;show 1≤(Str.ofString (Nat.repr m)).cps.toList.length;rw[Bv,length_map];exact length_repr_pos
theorem cP{Y:Type}(g:Y→V)(P:Y→Prop)(h:∀k:Rv→R→Prop,(∀p,P p→k (.j (g p)) ρ1)→ev G e ρ k X)(H:bo ρ1 i)(h1:∀p,P p→ex G r (ρ1.set i (.j (g p))) x C t X):ex G (.cons (.C i e) r) ρ x C t X:=h _ λp u=>aT H (h1 p u)
theorem iP(h:ρ[j]? =some (.j v)):bo ρ j:=aq h (.inr ⟨_,rfl⟩)
theorem oJ(H:Tx 100 s)(g:1≤s.cps.toList.length)(h:∀t:Str,t.cps.toList.length=dP s→K (.j (.str t)) []):FF 19 [.j (.str s)] K X:=by
 refine cX 19 rfl rfl rfl λG O=> ?_;have L:aA=1000000:=rfl;have sl:=H.len;refine aw (λk d=>⟨zl 0x27ab66bdf6b19419da55 rfl L sl,d⟩) (aa rfl) ?_;refine jG (λρ=>∃j:Nat,ρ=[.j (.str s),vi j]∧1≤j∧j≤s.cps.toList.length∧fX s.cps.toList j=dP s) (λρ=>match ρ with|[_,.j (.int j)]=>j.toNat|_=>0) ⟨_,rfl,g,Nat.le_refl _,rfl⟩ ?_;rintro ρ ⟨j,rfl,M,J,T⟩ Q Z;have S:fX s.cps.toList j=j→ex G (.cons (.ret (.Y (.sl (.d 0) .no (.D (.d 1))))) .nil) [.j (.str s),vi (j:Int)] (λρ=>K (.j .none) []) (λ_=>False) (λr ρ=>K r []) X:=λe=>by
  refine⟨zl 0x27ab66bdf6b19419da55 rfl L sl,?_⟩;apply h _;show(List.take (ay s.cps.toList.length (j:Int)) s.cps.toList).length=_;rw[lM J,length_take,←T,e];exact zl 5627380919 rfl J
 refine aU (λ_ h=>h) (λq=> ?_) λq=> ?_
 ·have q:=of_decide_eq_true q
  obtain⟨i,rfl⟩:∃i,j=i+2:=⟨j-2,zl 0x430ff189f11fa rfl q⟩;have I:i+1<s.cps.toList.length:=zl 24675295837088 rfl J;have E:=getElem?_eq_getElem I;generalize s.cps.toList[i+1]'I=c at E;have tr:fX s.cps.toList (i+2)=(match beq c 48 with|true=>fX s.cps.toList (i+1)|false=>i+2):=by
   show(match s.cps.toList[i+1]? with|some c=>(match Nat.beq c 48 with|true=>fX s.cps.toList (i+1)|false=>i+2)|.none=>i+2)=_;rw[E]
  have sx:ax ⟨#[c]⟩ ⟨#[48]⟩=beq c 48:=by
   show(match Nat.beq c 48 with|true=>true|false=>false)=_;cases beq c 48<;>rfl
  refine bO (λk d=>kH (a:=⟨#[c]⟩) ?_ rfl (λk d=> ?_) (λ_ h=>h) d) (λz=> ?_) λz=> ?_
  ·show(match blt c 0x110000 with|true=>true|false=>false)=true
   rw[show blt c 0x110000=true from ble_eq_true_of_le (H.ok c (List.mem_of_getElem? E))]
  ·refine⟨zl 0x27ab66bdf6b19419da55 rfl L sl,?_⟩
   rw[show(((i+2:Nat):Int)-1)=((i+1:Nat):Int)from zm 0x4361b30c435c3 rfl _,aC E];exact d
  ·rw[sx]at z
   rw[z]at tr;refine Z _ ⟨i+1,?_,zm 4416030 rfl _,zl 24675287907232 rfl J,?_⟩ ?_
   ·show[.j (.str s),vi (((i+2:Nat))-1)]=_
    rw[show(((i+2:Nat):Int)-1)=((i+1:Nat):Int)from zm 0x4361b30c435c3 rfl _]
   ·rw[←T,tr]
   ·show(((i+2):Int)-1).toNat<((i+2):Int).toNat
    exact zm 0x11886be61886b871 rfl _
  ·rw[sx]at z
   rw[z]at tr;exact S tr
 ·have q:=of_decide_eq_false q
  have:j=1:=zl 0x38fe281ef9ac30 rfl M q;subst this;exact S rfl
noncomputable def oR(a d g:Int):Prop:=d=1∧a.natAbs≤24∧g=3
theorem Ai(L:a≠0)(lo:d≤a.natAbs→0≤e∧d*ak e.toNat≤a.natAbs)(iE:Up a.natAbs d e)(Q:d=1→0≤e→e<g→q=a.natAbs*ak (g-1-e).toNat):oR a d g→0≤e∧e≤1∧q<ak g.toNat∧(dP (aG q))≤e+1:=by
 rintro⟨rfl,A,rfl⟩;have l:=lo (zl 22005806062114 rfl L);rw[Int.one_mul]at l;have E:e≤1:=by
  rcases Int.lt_or_le 1 e with y|y
  ·have:=kF (show 2≤e.toNat from zl 5665512474 rfl y)
   have t:ak 2=100:=rfl;exact zl 0xb0e12d8a4fe52fbb34d88f9ab68 rfl A l.2 this t
  ·exact y
 have C:=Q rfl l.1 (zl 231747918 rfl E);have T:ak (3:Int).toNat=1000:=rfl;unfold Up at iE;rw[show(0-e).toNat=0 from zl 7061698898205 rfl l.1,show ak 0=1 from rfl,Int.mul_one,Int.one_mul]at iE;rcases(by exact zl 0x2f0edf88f5ae51d rfl l.1 E:e=0∨e=1)with rfl|rfl
 ·rw[show ak (0:Int).toNat=1 from rfl]at iE
  rw[show ak ((3:Int)-1-0).toNat=100 from rfl]at C;have:=I2 ⟨a.natAbs,zl 0x16944770f13f02b80 rfl iE⟩ (by show 0<a.natAbs;exact zl 688007817250 rfl L);rw[←C]at this;exact⟨zm 5445 rfl,zm 6149 rfl,zl 0x7918a8cb0510faf1391b9385fd915c4 rfl T iE C,zl 4418732270959 rfl this⟩
 ·rw[show ak ((3:Int)-1-1).toNat=10 from rfl]at C
  have lb:10≤a.natAbs:=by
   have:=l.2;rw[show ak (1:Int).toNat=10 from rfl]at this;exact zl 0x54ad7a5c5c1ded rfl this
  have:=IE ⟨a.natAbs-10,zl 0x2ec8d891c5861ab68 rfl A⟩;rw[show((a.natAbs-10+10:Nat):Int)=a.natAbs from zl 0x152bea93a2471257ddaae0e rfl lb,←C]at this;exact⟨zm 6149 rfl,zm 6171 rfl,zl 0xf4844421463e63e9dde1a9ab68 rfl A T C,zl 4424314891519 rfl this⟩
theorem jA(hd:0<d)(b1:a.natAbs<2^64)(b2:d.natAbs<2^64)(g0:1≤g)(g1:g≤14)
 (h:∀(L:Int)(t:Str)(e:Int),-20≤e→e≤20→Tx (g.toNat+2) t→1≤t.cps.toList.length→(oR a d g→0≤e∧e≤1∧(dP t:Int)≤e+1)→K (.j (.L [.int L,.str t,.int e])) []):FF 18 [.j (nv a d),vi g] K X:=by
 refine cX 18 rfl rfl rfl λG O=> ?_;refine ai (λ_ h=>h) (λz=> ?_) λz=>ae ?_
 ·have z:=of_decide_eq_true z
  refine⟨zl 179569935 rfl g0,zl 0xf7afb95133e rfl g1,af rfl,h _ _ _ (by decide) (by decide) ?_ ?_ λy=> ?_⟩
  ·constructor
   ·show(replicate g.toNat 48).toArray.toList.length≤_
    rw[length_replicate];exact zm 1915333456 rfl _
   ·intro c C
    have:=(mem_replicate).mp C;exact zl 0xfec301c65122575 rfl this.2
  ·show 1≤(replicate g.toNat 48).toArray.toList.length
   rw[length_replicate];exact zl 5664830991 rfl g0
  ·obtain⟨_,_,rfl⟩:=y
   exact⟨by decide,by decide,by decide⟩
 ·have z:=of_decide_eq_false z
  refine cP V.int (λe=> -20≤e∧e≤19∧(d≤a.natAbs→0≤e∧d*ak e.toNat≤a.natAbs)∧Up a.natAbs d e) (ρ1:=[.j (nv a d),vi g,.y,.y]) ?_ (aa rfl) ?_
  ·intro k H
   exact O.c 13 rfl _ _ _ (wd z hd b1 b2 λe F Y h1 h2=>H e ⟨F,Y,h1,h2⟩)
  rintro e ⟨F,Y,lo,iE⟩;refine cP V.int (λq=>0≤q∧q≤ak g.toNat∧(d=1→0≤e→e<g→q=a.natAbs*ak (g-1-e).toNat)) (ρ1:=[.j (nv a d),vi g,vi e,.y]) ?_ (aa rfl) ?_
  ·intro k H
   exact O.c 17 rfl _ _ _ (uC hd b1 b2 F (zl 831636336702 rfl Y) g0 g1 iE λq Q E R=>H q ⟨Q,E,R⟩)
  rintro q ⟨Q,E,R⟩;have f:=kF (show g.toNat≤14 from zl 25540639265598 rfl g1);have Z:ak 14=100000000000000:=rfl;have T:∀{q:Int},0≤q→q≤ak g.toNat→Tx (g.toNat+2) (aG q):=λ{q}N h1=>by
   refine jT (zm 233649673 rfl _) ?_;have h2:=df g.toNat;have h3:=bV g.toNat;have h4:ak (g.toNat+1)=((10^(g.toNat+1):Nat):Int):=rfl;exact zl 0xddfee0553ce435cd5898f702fed1d rfl N h1 h2 h3 h4
  have B:∀{q:Int},0≤q→q≤ak g.toNat→q.natAbs<lJ:=λ{q}N h1=>bg (i:=60) (zl 0x7338dd3dbfab956cb2595c8516 rfl f Z N h1) (by decide);have a9:∀e q,-20≤e→e≤20→0≤q→q≤ak g.toNat→(oR a d g→0≤e∧e≤1∧(dP (aG q):Int)≤e+1)→ex G (.cons (.ret (.L (.cons (.ite (.D (.ag .gt (.sub (.d 0) (.p 0)) (.p 0))) (.p 1) (.neg (.p 1))) (.cons (.b1 .str (.d 3)) (.cons (.d 2) .nil))))) .nil) [.j (nv a d),vi g,vi e,vi q] (λρ=>K (.j .none) []) (λ_=>False) (λr ρ=>K r []) X:=by
   intro e q F Y Q E ex;apply iJ;refine bx (λ_ h=>h) (λ_=>⟨B Q E,af rfl,?_⟩) λ_=>⟨B Q E,af rfl,?_⟩
   ·exact h _ _ _ F Y (T Q E) (gX Q) ex
   ·exact h _ _ _ F Y (T Q E) (gX Q) ex
  have S:=Ai z lo iE R;refine ai (b:=decide (ak g.toNat≤q)) (ρ':=[.j (nv a d),vi g,vi e,vi q]) (λk H=>⟨zl 179569935 rfl g0,zl 0xf7afb95133e rfl g1,by decide,?_⟩) (λy=> ?_) λy=>ae ?_
  ·show k (decide (10^g.toNat≤q)) _
   rw[gQ];exact H
  ·have y:=of_decide_eq_true y
   refine bM (λ_ h=>h) ?_;refine cP V.int (λq=>0≤q∧q≤ak g.toNat) (ρ1:=[.j (nv a d),vi g,vi (e+1),vi q]) ?_ (iP rfl) ?_
   ·intro k H
    exact O.c 17 rfl _ _ _ (uC hd b1 b2 (zl 0xd294f3a237fa927 rfl F) (zl 851689902321726 rfl Y) g0 g1 (iE.QR (zm 5871173 rfl _) hd) λq Q E R=>H q ⟨Q,E⟩)
   rintro j ⟨J,m⟩;exact ae (a9 _ _ (zl 0xd294f3a237fa927 rfl F) (zl 851689902321726 rfl Y) J m λw=>by have:=S w;exact zl 0x7597baca9082bf435d07ed1c1c8256 rfl y this.2.2.1)
  ·have y:=of_decide_eq_false y
   have x:oR a d g→0≤e∧e≤1∧(dP (aG q):Int)≤e+1:=λw=>by
    obtain⟨W,P,_,A⟩:=S w;exact⟨W,P,A⟩
   have M:e≤20:=by omega
   have:=a9 e q F M Q E x;exact this
theorem uU(h:Tx n s)(a b):Tx n ⟨((s.cps.toList.take b).drop a).toArray⟩:=by
 constructor
 ·show((s.cps.toList.take b).drop a).length≤n
  rw[length_drop,length_take];have:=h.len;exact zl 0x68c9756d00b7 rfl this
 ·intro c H
  exact h.ok c (mem_of_mem_take (mem_of_mem_drop H))
theorem Gi(h:Tx n s){c i:Nat}(e:s.cps.toList[i]? =some c):Tx 1 ⟨#[c]⟩:=bu c (h.ok c (mem_of_getElem? e))
theorem GR(H:∀k,k x ρ1→ev G a ρ k X)(hb:∀k,k y Q→ev G b ρ1 k X)(h:JE o x.v y.v λr=>k r Q):ev G (.w o a b) ρ k X:=H _ (hb _ h)
theorem u9{Y:Type}(g1 g2 g3:Y→V)(P:Y→Prop)(h:∀k:Rv→R→Prop,(∀p,P p→k (.j (.L [g1 p,g2 p,g3 p])) ρ1)→ev G e ρ k X)(f:∀p,bo ρ1 i∧bo (ρ1.set i (.j (g1 p))) j∧bo ((ρ1.set i (.j (g1 p))).set j (.j (g2 p))) l)(h1:∀p,P p→ex G r (((ρ1.set i (.j (g1 p))).set j (.j (g2 p))).set l (.j (g3 p))) x C t X):ex G (.cons (.jn [i,j,l] e) r) ρ x C t X:=
 h _ λp H=>aT (f p).1 (aT (f p).2.1 (aT (f p).2.2 (h1 p H)))
structure Mm(a d g:Int)(p:Int×Str×Int):Prop where
 e0: -20≤p.2.2
 e1:p.2.2≤20
 tx:Tx (g.toNat+2) p.2.1
 pos:1≤p.2.1.cps.toList.length
 sm:oR a d g→0≤p.2.2∧p.2.2≤1∧(dP p.2.1:Int)≤p.2.2+1
theorem sQ(hd:0<d)(b1:a.natAbs<2^64)(b2:d.natAbs<2^64)(g0:1≤g)(g1:g≤14)(h:∀s,Tx 600 s→K (.j (.str s)) []):FF 20 [.j (nv a d),vi g] K X:=by
 refine fE 20 rfl rfl λG O=> ?_;have L:aA=1000000:=rfl;refine u9 (ρ1:=[.j (nv a d),vi g,.y,.y,.y,.y]) (λp:Int×Str×Int=>V.int p.1) (λp=>V.str p.2.1) (λp=>V.int p.2.2) (Mm a d g) ?_ (λp=>⟨aa rfl,aa rfl,aa rfl⟩) ?_
 ·intro k H
  exact O.c 18 rfl _ _ _ (jA hd b1 b2 g0 g1 λS t e h1 h2 h3 h4 h5=>H (S,t,e) ⟨h1,h2,h3,h4,h5⟩)
 rintro⟨S,t,e⟩ ⟨F,Y,T,P,M⟩;have F: -20≤e:=F;have Y:e≤20:=Y;have T:=T.le (show g.toNat+2≤16 from zl 0x5e3a446cd6933e rfl g1);have P:=P;refine cP V.str (Tx 1) (ρ1:=[.j (nv a d),vi g,vi S,.j (.str t),vi e,.y]) ?_ (aa rfl) ?_
 ·intro k H
  exact bx (c:=decide (S<0)) (ρ':=[.j (nv a d),vi g,vi S,.j (.str t),vi e,.y]) (λ_ h=>h) (λ_=>H _ (bu 45 (by decide))) λ_=>H _ ⟨zero_le _,λc C=>by cases C⟩
 intro U I;refine cP V.str (Tx 2) (ρ1:=[.j (nv a d),vi g,vi S,.j (.str t),vi e,.j (.str U)]) ?_ (iP rfl) ?_
 ·intro k H
  have E:=getElem?_eq_getElem P;generalize t.cps.toList[0]'P=c at E;refine⟨Nat.le_trans T.len (zl 0x55f242d9419da55 rfl L),?_⟩;show(match cu t.cps.toList ((0:Nat):Int)with|some c=>_|.none=>False);rw[aC E];exact⟨sU I (Gi T E) rfl,H _ (I.add (Gi T E))⟩
 intro R W;have a9:∀s,Tx 40 s→ex G (.cons (.ret (.w .add (.w .add (.d 5) (.ite (.D (.ag .lt (.d 4) (.p 0))) (.M ⟨#[101,45]⟩) (.M ⟨#[101,43]⟩))) (.jD (.b1 .str (.b1 .abs (.d 4))) (.p 2) (.M ⟨#[48]⟩)))) .nil) [.j (nv a d),vi g,vi S,.j (.str t),vi e,.j (.str s)] (λρ=>K (.j .none) (ba [.j (nv a d),vi g] ρ)) (λ_=>False) (λr ρ=>K r (ba [.j (nv a d),vi g] ρ)) X:=by
  intro s ts;have j:Tx 5 (eG (aG (e.natAbs:Int)) 2 48):=pZ (m:=2) (jT (by decide) (zl 0x14a0d161e2b227f297a927 rfl ‹_› ‹_›)) (by decide);have u:Tx 3 (aG (e.natAbs:Int)):=jT (k:=2) (by decide) (zl 0x14a0d161e2b227f297a927 rfl ‹_› ‹_›);have b:(e.natAbs:Int).natAbs<lJ:=bg (i:=10) (zl 0x140b4570432b227f297a927 rfl ‹_› ‹_›) (by decide);have o:∀c,c<0x110000→Tx 2 ⟨#[101,c]⟩:=λc C=>⟨Nat.le_refl _,λx Q=>by
   change x∈[101,c]at Q;simp only[mem_cons,List.not_mem_nil,or_false]at Q;exact zl 0x150d7afb11004d09ebfe28a400a534a rfl C Q⟩
  obtain⟨B,y,Z⟩:∃B,Tx 2 B∧∀k,k (.j (.str B)) [.j (nv a d),vi g,vi S,.j (.str t),vi e,.j (.str s)]→ev G (.ite (.D (.ag .lt (.d 4) (.p 0))) (.M ⟨#[101,45]⟩) (.M ⟨#[101,43]⟩)) [.j (nv a d),vi g,vi S,.j (.str t),vi e,.j (.str s)] k X:=by
   cases z:decide (e<0)with
   |true=>exact⟨_,o 45 (by decide),λk H=>bx (λ_ h=>h) (λ_=>H) λq=>by rw[z]at q;cases q⟩
   |false=>exact⟨_,o 43 (by decide),λk H=>bx (λ_ h=>h) (λq=>by rw[z]at q;cases q) λ_=>H⟩
  have A:=ts.add y;refine iJ (GR (λk H=>GR (λ_ h=>h) Z ⟨sU ts y rfl,H⟩) (λk H=>⟨b,by decide,by decide,Nat.le_trans u.len (by decide),H⟩) ⟨sU A j rfl,h _ ((A.add j).le (by decide))⟩)
 refine ai (ρ':=[.j (nv a d),vi g,vi S,.j (.str t),vi e,.j (.str R)]) (λ_ h=>h) (λ_=> ?_) λ_=>ae (a9 R (W.le (by decide)));have D:=bu 46 (by decide);have tt:=uU T (ay t.cps.toList.length 1) t.cps.toList.length;refine aw (λk H=>⟨sU W D rfl,Nat.le_trans T.len (zl 0x55f242d9419da55 rfl L),sU (W.add D) tt rfl,H⟩) (iP rfl) (ae (a9 _ (((W.add D).add tt).le (by decide))))
theorem FQ(hd:0<d)(b1:a.natAbs<2^64)(b2:d.natAbs<2^64)(p0:0≤p)(p1:p≤33)(h:∀s,Tx 600 s→(d=1→a.natAbs≤24→p=0→s=aG a)→K (.j (.str s)) []):FF 21 [.j (nv a d),vi p] K X:=by
 refine cX 21 rfl rfl rfl λG g=> ?_;have S:aA=1000000:=rfl;have bs:=wx (k:=p.toNat) (zl 28934871977534 rfl p1);have pp:=bV p.toNat;generalize H:(a.natAbs:Int)=n;have D:0≤n*ak p.toNat:=Int.mul_nonneg (zl 185536859019 rfl H) (Int.le_of_lt pp);refine cP V.int (λq=>0≤q∧q<ak 54∧(d=1→p=0→q=n)) (ρ1:=[.j (nv a d),vi p,.y,.y]) ?_ (aa rfl) ?_
 ·intro k R
  refine⟨p0,zl 0xf7afb9e0e3e rfl p1,by decide,bg (zl 30037915692659 rfl b1) (by decide),?_,?_⟩
  ·rw[gQ];exact bg bs (by decide)
  rw[gQ,H];refine g.c 12 rfl _ _ _ (lU D hd (iE (ml (zl 0xe533a588ba68e73 rfl b1 H) bs) (by decide)) (iE b2 (by decide)) λq Q t N=>R q ⟨Q,?_,λd1 z=> ?_⟩)
  ·have h1:n*ak p.toNat/d≤n*ak p.toNat:=Int.ediv_le_self _ D
   have h2:n*ak p.toNat≤2^64*ak 33:=Int.mul_le_mul (zl 0x288c4e3e3c61a68a0cc773 rfl b1 H) (kF (zl 28934871977534 rfl p1)) (Int.le_of_lt pp) (by decide);have h3:(2^64*ak 33)+1<ak 54:=by decide
   exact Int.lt_of_le_of_lt t (Int.lt_of_le_of_lt (Int.add_le_add_right (Int.le_trans h1 h2) 1) h3)
  ·subst z
   rw[N d1,show ak (0:Int).toNat=1 from rfl,Int.mul_one]
 rintro q ⟨Q,t,N⟩;obtain⟨m,rfl⟩:=Int.eq_ofNat_of_zero_le p0;refine cP V.str (λs=>Tx 240 s∧(d=1→a.natAbs≤24→m=0→s=aG n)) (ρ1:=[.j (nv a d),vi (m:Nat),vi q,.y]) ?_ (aa rfl) ?_
 ·intro k R
  refine g.c 15 rfl _ _ _ (rG Q t λs ts ex=>⟨zm 141374981 rfl _,zl 0xa48011679099ca55 rfl p1,Nat.le_trans ts.len (zm 11544859714 rfl),R _ ⟨?_,λd1 P Z=> ?_⟩⟩)
  ·exact(pZ ts (by decide)).le (zl 0x336138a49c11fdf1ca55 rfl p1)
  ·subst Z
   have e:=N d1 rfl;have C:ak 18=1000000000000000000:=rfl;have j:=ex (zl 0xe105689dec1021a901ee44269bf6dd54f5165f641ed5e4163c26cb8b rfl H d1 P N C);have:=gX Q;rw[←j]at this;show eG s ((1:Nat):Int) 48=_;rw[BR this,j,e]
 rintro s ⟨ts,E⟩;have a9:∀s,Tx 500 s→(d=1→a.natAbs≤24→m=0→s=aG n)→ex G (.cons (.iff (.D (.ag .lt (.sub (.d 0) (.p 0)) (.p 0))) (.cons (.ret (.w .add (.M ⟨#[45]⟩) (.d 3))) .nil) .nil) (.cons (.ret (.d 3)) .nil)) [.j (nv a d),vi m,vi q,.j (.str s)] (λρ=>K (.j .none) (ba [.j (nv a d),vi m] ρ)) (λ_=>False) (λr ρ=>K r (ba [.j (nv a d),vi m] ρ)) X:=by
  intro s ts E;refine ai (λ_ h=>h) (λz=> ?_) λz=>ae ?_
  ·have z:=of_decide_eq_true z
   refine⟨sU (bu 45 (by decide)) ts rfl,h _ (((bu 45 (by decide)).add ts).le (by decide)) λd1 P Z=> ?_⟩;rw[E d1 P (zl 4105157227 rfl Z)];have:=Ho ⟨n.toNat,zl 0x52a0c90d48a0446cb8b rfl H P⟩ (by show 0<n.toNat;rename_i u;exact zl 0x28b102bd01fcb8b rfl H (dT u:));rw[aD,show(n.toNat)=n from zl 47360773573515 rfl H,show-n=a by rename_i u;exact zl 0x9dfab1ec1fcb8b rfl H (dT u:)]at this;exact this
  ·have z:=of_decide_eq_false z
   refine h _ (ts.le (by decide)) λd1 P Z=> ?_;rw[E d1 P (zl 4105157227 rfl Z),show n=a from zl 0x255560425ffcb8b rfl H z]
 refine ai (λ_ h=>h) (λz=> ?_) λ_=>ae (a9 s (ts.le (by decide)) E);have z:=of_decide_eq_true z;have T:=bu 46 (by decide);have L:s.cps.toList.length≤aA:=Nat.le_trans ts.len (zl 0x55a24a959419da55 rfl S);have I:=uU ts 0 (ay s.cps.toList.length (s.cps.toList.length-m));have W:=uU ts (ay s.cps.toList.length (s.cps.toList.length-m)) s.cps.toList.length;refine aw (λk R=>⟨L,L,sU I T rfl,L,L,sU (I.add T) W rfl,R⟩) (iP rfl) (ae (a9 _ (((I.add T).add W).le (by decide)) λ_ _ Z=>by rename_i u _ _;exact(zl 659245633800 rfl (dT u:) Z).elim))
noncomputable def mx(a b:Int):Int:=match decide (a<b)with
 |true=>b
 |false=>a
theorem ua(a b):mx a b=max a b:=by
 show(match decide (a<b)with|true=>b|false=>a)=_;cases h:decide (a<b)with
 |true=>have:=of_decide_eq_true h;exact zl 11521834913 rfl (dT h:)
 |false=>have:=of_decide_eq_false h;exact zl 1394122046961 rfl (dF h:)
noncomputable def pg:Str:=⟨#[102,105,120,101,100]⟩
noncomputable def Jj:Str:=⟨#[115,99,105,101,110,116,105,102,105,99]⟩
theorem Hj(h:∀k,k [v] ρ→qS G I ρ k X)(H:bo ρ i)(h1:ex G b (ρ.set i (.j v)) (λρ=>ex G r ρ x C t X) (λρ=>ex G r ρ x C t X) t X):ex G (.cons (.bU i I b) r) ρ x C t X:=by
 apply h _;show bG ρ i (.j v) (λρ=>ex G b ρ (λρ=>ex G r ρ x C t X) (λρ=>ex G r ρ x C t X) t X);exact aT H h1
theorem Ii(h:∀k,k [] ρ→qS G I ρ k X)(h1:ex G r ρ x C t X):ex G (.cons (.bU i I b) r) ρ x C t X:=h _ h1
structure QE(a d g:Int)(p:Int×Int×Int×Int):Prop where
 c0:1≤p.1
 c1:p.1≤14
 l1:p.2.1≤24
 p0:0≤p.2.2.1
 p1:p.2.2.1≤33
 e0: -20≤p.2.2.2
 e1:p.2.2.2≤20
 sm:oR a d g→p.2.2.1=0∧p.2.1≤3
noncomputable abbrev GC(p:Int×Int×Int×Int):V:=.L [.int p.1,.int p.2.1,.int p.2.2.1,.int p.2.2.2]
theorem wm(hd:0<d)(b1:a.natAbs<2^64)(b2:d.natAbs<2^64)(g0:3≤g)(g1:g≤12)(h:∀p,QE a d g p→K (.j (GC p)) []):FF 22 [.j (nv a d),vi g] K X:=by
 refine fE 22 rfl rfl λG O=> ?_;refine u9 (ρ1:=[.j (nv a d),vi g,.y,.y,.y,.y,.y]) (λp:Int×Str×Int=>V.int p.1) (λp=>V.str p.2.1) (λp=>V.int p.2.2) (Mm a d g) ?_ (λp=>⟨aa rfl,aa rfl,aa rfl⟩) ?_
 ·intro k H
  exact O.c 18 rfl _ _ _ (jA hd b1 b2 (zl 180251891 rfl g0) (zl 798140408126 rfl g1) λS t e h1 h2 h3 h4 h5=>H (S,t,e) ⟨h1,h2,h3,h4,h5⟩)
 rintro⟨S,t,e⟩ ⟨E,Q,T,P,m⟩;have tl:dP t≤t.cps.toList.length:=ve ..;have L:=T.len;replace E: -20≤e:=E;replace Q:e≤20:=Q;replace L:t.cps.toList.length≤g.toNat+2:=L;refine aw (v:=.j (.int (dP t:Nat))) (ρ1:=[.j (nv a d),vi g,vi S,.j (.str t),vi e,.y,.y]) (λk H=> ?_) (aa rfl) ?_
 ·refine O.c 19 rfl _ _ _ (oJ (T.le (zl 0x574975e6cd5a13e rfl g1)) P λj I=>⟨?_,?_⟩)
  ·show j.cps.toList.length≤aA
   have Y:aA=1000000:=rfl;refine Nat.le_trans (Nat.le_of_eq I) (Nat.le_trans tl (Nat.le_trans L ?_));exact zl 0x68ac806f6c4e069e13e rfl g1 Y
  ·show k (.j (.int j.cps.toList.length)) _
   rw[I];exact H
 refine aw (λk H=>H) (aa rfl) ?_;have a9:∀l,l≤mx e 0+2→ex G (.cons (.ret (.L (.cons (.d 5) (.cons (.d 6) (.cons (.b2 .max (.w .sub (.w .sub (.d 5) (.p 1)) (.d 4)) (.p 0)) (.cons (.d 4) .nil)))))) .nil) [.j (nv a d),vi g,vi S,.j (.str t),vi e,vi (dP t),vi l] (λρ=>K (.j .none) (ba [.j (nv a d),vi g] ρ)) (λ_=>False) (λr ρ=>K r (ba [.j (nv a d),vi g] ρ)) X:=by
  intro l R;have h1:=ua e 0;have h2:=ua (((dP t))-1-e) 0;refine⟨af rfl,h ((dP t),l,mx (((dP t))-1-e) 0,e) ⟨?_,?_,?_,?_,?_,E,Q,λz=> ?_⟩⟩
  ·exact zl 2873428784 rfl (qU _ _ P)
  ·exact zl 0x10887ed97a9c31560f2613e rfl g1 tl L
  ·exact zl 0x1ea7293097fa2bd06b9e93e rfl ‹_› R h1
  ·exact zl 0x3bf19beeaa6af4b4 rfl h2
  ·exact zl 0x77a40864465d5703038f1d3671fbff43cf2e232613e rfl g1 tl E L h2
  ·obtain⟨W,w,N⟩:=m z
   replace W:0≤e:=W;replace w:e≤1:=w;replace N:(dP t)≤e+1:=N;exact⟨by show mx (((dP t))-1-e) 0=0;lia,by show l≤3;lia⟩
 refine ai (λ_ h=>h) (λ_=> ?_) λ_=>ae (a9 _ (zm 1914837771 rfl _));exact bM (λ_ h=>h) (ae (a9 _ (zm 1960795398507 rfl _)))
structure OU(a d g:Int)(p:Str×Int):Prop where
 or:(p.1=pg∧0≤p.2∧p.2≤33)∨(p.1=Jj∧1≤p.2∧p.2≤14)
 sm:oR a d g→p=(pg,0)
theorem D8(h:K (.j (.L [.str pg,.int 0])) []):FF 23 [.j (.o []),vi g] K X:=by
 refine cX 23 rfl rfl rfl λG H=> ?_;refine bM (ρ':=[.j (.o []),vi g,vi 1,.y,.y,.y,.y,.y,.y,.y,.y]) (λ_ h=>h) ?_;refine bM (ρ':=[.j (.o []),vi g,vi 1,vi 1,.y,.y,.y,.y,.y,.y,.y]) (λ_ h=>h) ?_;refine bM (ρ':=[.j (.o []),vi g,vi 1,vi 1,vi 0,.y,.y,.y,.y,.y,.y]) (λ_ h=>h) ?_;refine bM (λ_ h=>h) ?_;refine bM (λ_ h=>h) ?_;refine Ii (λ_ h=>h) ?_;refine bM (λ_ h=>h) ?_;refine bM (λ_ h=>h) ?_;exact ai (b:=true) (λ_ h=>h) (λ_=>⟨af rfl,h⟩) λq=>by cases q
theorem E7(hd:0<d)(b1:a.natAbs<2^64)(b2:d.natAbs<2^64)(g0:3≤g)(g1:g≤12)(h:∀p,OU a d g p→K (.j (.L [.str p.1,.int p.2])) []):FF 23 [.j (.o [nv a d]),vi g] K X:=by
 refine fE 23 rfl rfl λG O=> ?_;refine bM (ρ':=[.j (.o [nv a d]),vi g,vi 1,.y,.y,.y,.y,.y,.y,.y,.y]) (λ_ h=>h) ?_;refine bM (ρ':=[.j (.o [nv a d]),vi g,vi 1,vi 1,.y,.y,.y,.y,.y,.y,.y]) (λ_ h=>h) ?_;refine bM (λ_ h=>h) ?_;refine bM (λ_ h=>h) ?_;refine bM (λ_ h=>h) ?_;refine Hj (v:=nv a d) (λ_ h=>h) (aa rfl) ?_;refine cP GC (QE a d g) (ρ1:=[.j (.o [nv a d]),vi g,vi 1,vi 1,vi 0,vi 0,vi 0,.j (nv a d),.y,.y,.y]) ?_ (aa rfl) ?_
 ·intro k H
  exact O.c 22 rfl _ _ _ (wm hd b1 b2 g0 g1 H)
 rintro⟨c,l,p,e⟩ ⟨U,Y,L,p0,p1,E,Q,S⟩;have U:1≤c:=U;have Y:c≤14:=Y;have L:l≤24:=L;have p0:0≤p:=p0;have p1:p≤33:=p1;have E: -20≤e:=E;have Q:e≤20:=Q;have S:=S;refine bM (ρ':=[.j (.o [nv a d]),vi g,vi (mx 1 c),vi 1,vi 0,vi 0,vi 0,.j (nv a d),.j (GC (c,l,p,e)),.y,.y]) (λ_ h=>h) ?_;refine bM (ρ':=[.j (.o [nv a d]),vi g,vi (mx 1 c),vi (mx 1 l),vi 0,vi 0,vi 0,.j (nv a d),.j (GC (c,l,p,e)),.y,.y]) (λ_ h=>h) ?_;refine bM (ρ':=[.j (.o [nv a d]),vi g,vi (mx 1 c),vi (mx 1 l),vi (mx 0 p),vi 0,vi 0,.j (nv a d),.j (GC (c,l,p,e)),.y,.y]) (λ_ h=>h) ?_;have h1:=ua 1 c;have h2:=ua 1 l;have h3:=ua 0 p;generalize mx 1 c=C at*;generalize mx 1 l=l' at*;generalize mx 0 p=P at*;refine ai (b:=decide (100≤(e.natAbs:Int))) (λ_ h=>h) (λz=>by have:=of_decide_eq_true z;rename_i Z B _;exact(zl 0x6c3fcd112dae0ff297a927 rfl Z B (dT z:)).elim) λ_=>ae ?_;have a9:∀m,0≤m→ex G (.cons (.C 9 (.w .add (.d 3) (.ite (.D (.ag .gt (.d 4) (.p 0))) (.w .add (.d 4) (.p 1)) (.p 0)))) (.cons (.C 10 (.w .add (.w .add (.w .add (.d 6) (.ite (.D (.ag .gt (.d 2) (.p 1))) (.w .add (.d 2) (.p 1)) (.p 1))) (.p 4)) (.d 5))) (.cons (.iff (.D (.ag .le (.d 9) (.d 10))) (.cons (.ret (.L (.cons (.M ⟨#[102,105,120,101,100]⟩) (.cons (.d 4) .nil)))) .nil) .nil) (.cons (.ret (.L (.cons (.M ⟨#[115,99,105,101,110,116,105,102,105,99]⟩) (.cons (.d 2) .nil)))) .nil))))
  [.j (.o [nv a d]),vi g,vi C,vi l',vi P,vi 0,vi m,.j (nv a d),.j (GC (c,l,p,e)),.y,.y] (λρ=>K (.j .none) (ba [.j (.o [nv a d]),vi g] ρ)) (λ_=>False) (λr ρ=>K r (ba [.j (.o [nv a d]),vi g] ρ)) X:=by
  intro m m0;refine cP V.int (λw=>P=0→w=l') (ρ1:=[.j (.o [nv a d]),vi g,vi C,vi l',vi P,vi 0,vi m,.j (nv a d),.j (GC (c,l,p,e)),.y,.y]) ?_ (aa rfl) ?_
  ·intro k H
   refine bx (c:=decide (0<P)) (λ_ h=>h) (λz=> ?_) λz=> ?_
   ·have z:=of_decide_eq_true z
    exact H (l'+(P+1)) λy=>by rename_i Z;exact zl 0x146fe8a064193b28 rfl (dT Z:) y
   ·exact H (l'+0) λy=>zm 1484045 rfl _
  intro w W;refine cP V.int (λu=>5≤u) (ρ1:=[.j (.o [nv a d]),vi g,vi C,vi l',vi P,vi 0,vi m,.j (nv a d),.j (GC (c,l,p,e)),vi w,.y]) ?_ (aa rfl) ?_
  ·intro k H
   refine bx (c:=decide (1<C)) (λ_ h=>h) (λz=> ?_) λz=> ?_
   ·have z:=of_decide_eq_true z
    exact H (m+(C+1)+4+0) (by rename_i Z;exact zl 0x5378cb414b26e1123911d rfl m0 (dT Z:))
   ·exact H (m+1+4+0) (zl 0x33d1f842f74621d rfl m0)
  intro u F;refine ai (b:=decide (w≤u)) (λ_ h=>h) (λz=>⟨af rfl,?_⟩) λz=>ae ⟨af rfl,?_⟩
  ·refine h (pg,P) ⟨.inl ⟨rfl,by show 0≤P;exact zl 179954679988 rfl h3,by show P≤33;exact zl 0x14f6d36b301ed8e3e rfl ‹_› h3⟩,λy=> ?_⟩
   have:=S y;rw[show P=0 by lia]
  ·have z:=of_decide_eq_false z
   refine h (Jj,C) ⟨.inr ⟨rfl,by show 1≤C;exact zl 180129198772 rfl h1,by show C≤14;exact zl 0x143c0f68f9a64933e rfl ‹_› h1⟩,λy=> ?_⟩;have:=S y;have:=W (by lia)
   lia
 refine ai (b:=decide (a<0)) (λ_ h=>h) (λ_=> ?_) λ_=>ae (ae (a9 0 (zm 5445 rfl)));exact bM (λ_ h=>h) (ae (ae (a9 1 (zm 6149 rfl))))
structure NT(p:PR)(g:Int)(s:Str):Prop where
 tx:Tx 600 s
 ex:(p.2=0∨(p.2=1∧p.1.natAbs≤24))→g=3→s=a5 p
noncomputable abbrev P2(p:Str×Int):V:=.L [.str p.1,.int p.2]
theorem tA(H:n=1∨n= -1)(h:K (.j (.str (a5 (n,0)))) []):FF 24 [.j (nv n 0),.j f] K X:=by
 refine cX 24 rfl rfl rfl λG g=> ?_;refine aw (λk d=>g.c 16 rfl _ _ _ (qK H d)) (aa rfl) ?_;exact ai (b:=true) (λ_ h=>h) (λ_=>h) λq=>by cases q
theorem CK(hd:0<d)(b1:a.natAbs<2^64)(b2:d.natAbs<2^64)(H:OU a d g p)(h:∀s,NT (a,d) g s→K (.j (.str s)) []):FF 24 [.j (nv a d),.j (P2 p)] K X:=by
 refine cX 24 rfl rfl rfl λG O=> ?_;refine aw (λk R=>O.c 16 rfl _ _ _ (tR hd R)) (aa rfl) ?_;refine ai (ρ':=[.j (nv a d),.j (P2 p),.j .none]) (λ_ h=>h) (λq=>by cases q) λ_=>ae ?_;obtain⟨kd,P⟩:=p;have R:k8 kd=true:=by
  rcases H.or with⟨e,_⟩|⟨e,_⟩
  ·have e:=e
   subst e;rfl
  ·have e:=e
   subst e;rfl
 refine ai (λk=>kH R rfl (λ_ h=>h) (λ_ h=>h)) (λz=> ?_) λz=>ae ?_
 ·rw[aD]at z
  rcases H.or with⟨e,p0,p1⟩|⟨e,_⟩
  ·refine O.c 21 rfl _ _ _ (FQ hd b1 b2 p0 p1 λs ts ex=>h s ⟨ts,λy g3=> ?_⟩)
   have y:=y;rcases y with y|y
   ·exact(zl 31155043112 rfl hd y).elim
   ·have q:=H.sm ⟨y.1,y.2,g3⟩
    have q:=congrArg Prod.snd q;rw[ex y.1 y.2 q];unfold a5;rw[if_neg (by show¬d=0;exact zl 31155057764 rfl y.1)]
  ·have e:kd=Jj:=e
   rw[e]at z;have:=aD.mpr z;cases this
 ·rcases H.or with⟨e,_⟩|⟨e,p0,p1⟩
  ·have e:=e
   subst e;cases z
  ·refine O.c 20 rfl _ _ _ (sQ hd b1 b2 p0 p1 λs ts=>h s ⟨ts,λy g3=> ?_⟩)
   have y:=y;rcases y with y|y
   ·exact(zl 31155043112 rfl hd y).elim
   ·have q:=H.sm ⟨y.1,y.2,g3⟩
    have q:kd=pg:=congrArg Prod.fst q;subst q;cases z
theorem Dc(H:aM p)(g0:3≤g)(g1:g≤12)(h:∀s,NT p g s→K (.j (.o [.str s])) []):FF 25 [.j (.o [ah p]),vi g] K X:=by
 refine cX 25 rfl rfl rfl λG O=> ?_;obtain⟨a,d⟩:=p;obtain⟨x,b1,b2⟩:=H;have x:=x;have b1:=b1;have b2:=b2;refine aw (ρ1:=[.j (.o [ah (a,d)]),vi g,.y,.y,.y,.y]) (λk R=>gv (j6 (λ_ h=>h) (af rfl) (aa rfl) t8 (λv=>v) (λv V k R=> ?_) (λv V _ k R=>R (.j v) rfl) R)) (aa rfl) ?_
 ·rw[mem_singleton]at V;subst V
  refine aU (λ_ h=>h) (λ_=> ?_) λq=>by cases q
  refine bO (λ_ h=>h) (λq=> ?_) λq=> ?_
  ·change k (decide (0<d)) _ at R
   rw[q]at R;exact R
  ·change k (decide (0<d)) _ at R
   rw[q]at R;exact R
 rcases x with⟨hd,_⟩|⟨rfl,n⟩
 ·have e:(([ah (a,d)].filter t8).map λv=>v)=[nv a d]:=by
   show((match decide (0<d)with|true=>[nv a d]|false=>[]).map λv=>v)=_;rw[decide_eq_true hd];rfl
  rw[e];refine cP P2 (OU a d g) (λk R=>O.c 23 rfl _ _ _ (E7 hd b1 b2 g0 g1 R)) (aa rfl) λp H=> ?_;refine⟨af rfl,O.c 24 rfl _ _ _ (CK hd b1 b2 H λs S=> ?_)⟩;exact h s S
 ·refine aw (λk R=>O.c 23 rfl _ _ _ (D8 R)) (aa rfl) ?_
  refine⟨af rfl,O.c 24 rfl _ _ _ (tA n ?_)⟩;exact h _ ⟨(oH ⟨.inr ⟨rfl,n⟩,b1,b2⟩).le (by decide),λ_ _=>rfl⟩
theorem qD(H:aM p)(g0:3≤g)(g1:g≤12)(h:∀s,NT p g s→K (.j (.str s)) []):FF 26 [.j (ah p),vi g] K X:=by
 refine fE 26 rfl rfl λG O=> ?_;exact⟨af rfl,O.c 25 rfl _ _ _ (Dc H g0 g1 λs S=>h s S)⟩
noncomputable def lK{Y U:Type}(Qv:Y→U→Prop)(as:List Y):List U→Prop:=List.rec (λbs=>bs=[]) (λa _ r bs=>∃b B,bs=b::B∧Qv a b∧r B) as
theorem lK.len{Qv:α→β→Prop}:∀{bs},lK Qv as bs→bs.length=as.length:=by
 induction as with
 |nil=>exactλh=>congrArg List.length h
 |cons a as I=>exactλ⟨b,B,e,_,h⟩=>e▸congrArg (·+1) (I h)
theorem lK.mem{Qv:α→β→Prop}{P:β→Prop}(f:∀a b,Qv a b→P b):∀{bs},lK Qv as bs→∀b∈bs,P b:=by
 induction as with
 |nil=>exactλh b hb=>by rw[(h:_=[])]at hb;cases hb
 |cons a as I=>
  intro bs ⟨c,B,e,q,h⟩ b hb;rw[e]at hb;rcases mem_cons.mp hb with z|z
  ·rw[z];exact f a c q
  ·exact I h b z
theorem lK.eq{Qv:α→β→Prop}{f:α→β}:∀{bs},(∀a∈as,∀b,Qv a b→b=f a)→lK Qv as bs→bs=as.map f:=by
 induction as with
 |nil=>exactλ_ h=>h
 |cons a as I=>exactλg⟨b,B,e,q,h⟩=>by rw[e,g a (.head _) b q,I (λa H=>g a (.tail _ H)) h];rfl
theorem Dh{k:Rv→R→Prop}(g)(f:U→V)(Qv)(H:bo ρ j){items:List Y}(O:∀a∈items,∀k:Rv→R→Prop,(∀b r,Qv a b→r.v=f b→k r (ρ.set j (.j (g a))))→ev G J (ρ.set j (.j (g a))) k (λ_=>False))
 (C)(ρ1)(h1:AY ρ j ρ1)(h:∀bs,lK Qv items bs→k (.U (C++bs.map f)) (ρ.set j .y)):
 ((items.map g).foldr (λv t C ρ=>bG ρ j (.j v) λρ=>GV G .no ρ (λc ρ=>match c with
  |true=>ev G J ρ (λr ρ=>t (C++[r.v]) ρ) (λ_=>False)
  |false=>t C ρ) (λ_=>False)) (λC ρ=>bG ρ j .y λρ=>k (.U C) ρ)) C ρ1:=by
 rw[List.foldr_map];exact lT (λl C ρ1=>AY ρ j ρ1∧∀bs,lK Qv l bs→k (.U (C++bs.map f)) (ρ.set j .y)) (λC ρ1 h=>kQ H h.1 (List.append_nil C▸h.2 [] rfl))
  (λv u l C ρ1 h t y=>kQ H h.1 (O v u _ λb r hb e=>y _ _ ⟨.inr ⟨_,rfl⟩,λbs s=>by rw[e,List.append_assoc];exact h.2 (b::bs) ⟨b,bs,rfl,hb,s⟩⟩)) C ρ1 ⟨h1,h⟩
theorem HM(g:Y→V)(f:U→V)(Qv)(H:∀k,k (items.map g) ρ→qS G I ρ k X)(L:items.length≤aA)(J:bo ρ j)
 (O:∀a∈items,∀k:Rv→R→Prop,(∀b r,Qv a b→r.v=f b→k r (ρ.set j (.j (g a))))→ev G t (ρ.set j (.j (g a))) k (λ_=>False))(h:∀bs,lK Qv items bs→k (.U (bs.map f)) (ρ.set j .y)):ev G (.comp j I .no t) ρ k X:=
 H _ ⟨by rw[List.length_map];exact L,Dh g f Qv J O [] ρ (.inl rfl) (by simpa using h)⟩
noncomputable def jF(bs:List PR):Prop:=∀p∈bs,p.2=0∨(p.2=1∧p.1.natAbs≤24)
noncomputable def Fv(i:Nat):Str:=match blt i 49 with
 |true=>aG (i-24)
 |false=>match beq i 49 with
  |true=>Lx
  |false=>F4
theorem Az:∀i j:Fin 51,ax (Fv i.1) (Fv j.1)=true→i=j:=by decide+kernel
noncomputable def EK(p:PR):Nat:=if p.2=0 then(if 0<p.1 then 49 else 50)else(p.1+24).toNat
theorem xN(H:aM p)(h:p.2=0∨(p.2=1∧p.1.natAbs≤24)):EK p<51∧a5 p=Fv (EK p):=by
 unfold EK a5
 by_cases z:p.2=0
 ·rw[if_pos z,if_pos z]
  by_cases y:0<p.1
  ·rw[if_pos y,if_pos y];exact⟨by decide,rfl⟩
  ·rw[if_neg y,if_neg y];exact⟨by decide,rfl⟩
 ·rw[if_neg z,if_neg z]
  refine⟨zl 0x9258dc008628c4c94391c5f8d19038 rfl ‹_› z,?_⟩;unfold Fv;rw[show Nat.blt (p.1+24).toNat 49=true from Nat.ble_eq_true_of_le (by show _+1≤49;exact zl 0x24751466e9bc3f988378f39c5f8d19038 rfl ‹_› z)];rw[show(((p.1+24).toNat:Nat):Int)-24=p.1 from zl 0x113a43517635b9efe9c5dda1c5f8d19038 rfl ‹_› z]
theorem z8(H:aM p)(Q:aM q)(h1:p.2=0∨(p.2=1∧p.1.natAbs≤24))(h2:q.2=0∨(q.2=1∧q.1.natAbs≤24))(h:a5 p=a5 q):p=q:=by
 obtain⟨W,M⟩:=xN H h1;obtain⟨b1,b2⟩:=xN Q h2;rw[M,b2]at h;have e:=congrArg Fin.val (Az ⟨_,W⟩ ⟨_,b1⟩ (aD.mpr h));have e:=e;unfold EK at e;obtain⟨P,pb⟩:=p;obtain⟨A,b⟩:=q;have E:=H.ext;have j:=Q.ext;simp only at E j e h1 h2
 by_cases z:pb=0
 ·subst z
  by_cases y:b=0
  ·subst y
   simp only[if_true]at e;have E:P=1∨P= -1:=zl 0x3b3027112957cc383f33d50e2fd29f rfl E;have j:A=1∨A= -1:=zl 0x3b3027112957cc383f33d50e2fd29f rfl j;rcases E with rfl|rfl<;>rcases j with rfl|rfl<;>first|rfl|(simp at e)
  ·rw[if_pos rfl,if_neg y]at e
   split at e<;>(first|exact(zl 0x4635fd4d2d58f603690669c5f8d19038 rfl h2 y e).elim|exact(zl 0x4635fd4d3033aeebff9769c5f8d19038 rfl h2 y e).elim)
 ·by_cases y:b=0
  ·subst y
   rw[if_neg z,if_pos rfl]at e;split at e<;>(first|exact(zl 0x467d5c73705687eeea69a9c5f8d19038 rfl h1 z e).elim|exact(zl 0x4680372c58ed18eeea69a9c5f8d19038 rfl h1 z e).elim)
  ·rw[if_neg z,if_neg y]at e
   rw[show pb=b from zl 0x3f13de1e6c86b5b28cb78ca0b2a268bb3355f8d19038 rfl h1 h2 z y,show P=A from zl 0x7735ccfdcfba914c75a4ef8746fa9e745cf030f06a268bb3355f8d19038 rfl h1 h2 e z y]
theorem y5(H:∀t∈ts,Tx 600 t)(g:ts≠[])(L:ts.length≤100)(h:∀b,(b=true→∃(i:Nat)(t:Str),ts[i]? =some t∧ts[i+1]? =some t)→K (.j (.bool b)) []):FF 71 [.j (.o (ts.map V.str))] K X:=by
 refine cX 71 rfl rfl rfl λG O=> ?_;refine cU (items:=ao 0 ((ts.length:Int)-1).toNat 1) (λk d=> ?_) (λj ρ=>∃S,fu S∧ρ=[.j (.o (ts.map V.str)),S]) ⟨.y,.inl rfl,rfl⟩ ?_ ?_
 ·refine hZ (m:=((ts.map V.str).length:Int)-1) ?_ (by rw[length_map];exact zl 4379253220425 rfl (List.length_pos_iff.mpr g)) (by rw[List.length_map];exact zl 0x2db170b3f113b1cf rfl L) (by rw[List.length_map];exact d)
  exactλ_ h=>h
 ·rintro j v ρ e ⟨S,h1,rfl⟩
  refine⟨aq rfl h1,λR r=> ?_⟩;obtain⟨J,rfl⟩:j+1<ts.length∧v=.int (0+1*j):=by
   unfold ao at e;rw[getElem?_map]at e;obtain⟨N,E,rfl⟩:=Option.map_eq_some_iff.mp e;obtain⟨h1,h2⟩:=List.getElem?_eq_some_iff.mp E;simp at h1 h2;subst h2;exact⟨zl 24675297543562 rfl h1,rfl⟩
  have F:ts[j]? =some ts[j]:=by simp[(zl 23760357803 rfl J:j<ts.length)]
  have E:ts[j+1]? =some ts[j+1]:=by simp[J]
  have m0:=H _ (mem_of_getElem? F);have m1:=H _ (mem_of_getElem? E);generalize ts[j]=a at F m0;generalize ts[j+1]=b at E m1;refine ai (b:=ax a b) (ρ':=[.j (.o (ts.map V.str)),vi (0+1*(j:Int))]) (λk d=> ?_) (λq=> ?_) λq=>ae (ae (r _ ⟨_,.inr ⟨_,rfl⟩,rfl⟩))
  ·rw[show(0+1*j)=(j:Int)from zm 776670703789 rfl _]at d⊢
   refine az (aC (by rw[getElem?_map,F];rfl)) (az ?_ (cY (nQ m0.strOk m1.strOk) d));rw[show((j)+1)=((j+1):Int)from zm 1157607680429 rfl _];exact aC (by rw[getElem?_map,E];rfl)
  ·exact h true λ_=>⟨j,a,F,by rw[aD]at q;rw[E,q]⟩
 ·rintro ρ ⟨S,h1,rfl⟩
  exact h false λz=>by cases z
theorem pF(H:Sub 72 G)(hb:∀p∈bs,aM p)(L:bs.length≤100)(g0:3≤g)(g1:g≤12)(J:bo ρ j)(I:j≠2)(C:ρ[0]? =some (.j (.o (bs.map ah))))(f:ρ[2]? =some (vi g))
 (h:∀ts:List Str,lK (λp s=>NT p g s) bs ts→k (.U (ts.map V.str)) (ρ.set j .y)):ev G (.comp j (.D (.d 0)) .no (.call 26 (.cons (.d j) (.cons (.d 2) .nil)))) ρ k X:=by
 have d:aA=1000000:=rfl;obtain⟨s,S,_,_⟩:=J;refine HM ah V.str (λp=>NT p g) (λk K=> ?_) (zl 0x29d4ecdc00e2926bb1cf rfl L d) ⟨s,S,‹_›,‹_›⟩ (λp P k K=> ?_) h
 ·show DH ρ 0 _
  unfold DH;rw[C];exact K
 ·have O:j<ρ.length:=by
   obtain⟨z,_⟩:=List.getElem?_eq_some_iff.mp S;exact z
  show DH (ρ.set j (.j (ah p))) j _;unfold DH;rw[getElem?_set_self O];show DH (ρ.set j (.j (ah p))) 2 _;unfold DH;rw[getElem?_set_ne I,f];exact H.c 26 rfl _ _ _ (qD (hb p P) g0 g1 λs S=>K s _ S rfl)
theorem qr(hb:GK bs)(h:∀ts:List Str,ts.length=bs.length→(∀t∈ts,Tx 600 t)→(jF bs→ts=bs.map a5)→K (.j (.o (ts.map V.str))) []):FF 72 [.j (.o (bs.map ah)),vi 3] K X:=by
 refine cX 72 rfl rfl rfl λG O=> ?_;have L:=hb.Dz;refine aw (λ_ h=>h) (aa rfl) ?_;refine cP (λts:List Str=>V.o (ts.map V.str)) (lK (λp s=>NT p 3 s) bs) (λk d=>gv (pF O hb.num L (by decide) (by decide) (aa rfl) (by decide) rfl rfl λts H=>d ts H)) (aa rfl) λW F=> ?_;refine jG (λρ=>∃g ts,3≤g∧g≤12∧lK (λp=>NT p g) bs ts∧(jF bs→g=3)∧ρ=[.j (.o (bs.map ah)),vi 3,vi g,.j (.o (ts.map V.str)),.y,.y]) (λρ=>match ρ with|[_,_,.j (.int g),_,_,_]=>(12-g).toNat|_=>0) ⟨3,W,by decide,by decide,F,λ_=>rfl,rfl⟩ ?_;rintro ρ ⟨g,ts,g0,g1,H,B,rfl⟩ I Z;have len:=H.len;have T:=H.mem (λa b q=>q.tx);have E:=λw=>H.eq λp u s q=>q.ex (w p u) (B w);refine aU (λ_ h=>h) (λq=> ?_) λq=>h ts len T E;have q:=of_decide_eq_true q;refine O.c 71 rfl _ _ _ (y5 T (λz=>by subst z;simp at len;exact zl 20207877410 rfl hb.vz len) (zl 0x2849ae447e0bb1cf rfl L len) λb J=> ?_);cases b with
 |false=>exact h ts len T E
 |true=>
  obtain⟨i,t,Q,j⟩:=J rfl;refine bM (λ_ h=>h) ?_;refine cP (λts:List Str=>V.o (ts.map V.str)) (λts=>lK (λp s=>NT p (g+1) s) bs ts) (λk d=>gv (pF O hb.num L (zl 226114115827 rfl g0) (zl 805957090337097 rfl q) (aa rfl) (by decide) rfl rfl λts H=>d ts H)) (iP rfl) λD h1=> ?_;refine ae (Z _ ⟨g+1,D,zl 226114115827 rfl g0,zl 805957090337097 rfl q,h1,λw=> ?_,rfl⟩ (by show(12-(g+1)).toNat<(12-g).toNat;exact zl 0xa87b8ce484a0633606149 rfl q));exfalso;rw[(E w),getElem?_map]at Q j;obtain⟨p,p1,p2⟩:=Option.map_eq_some_iff.mp Q;obtain⟨P,N,R⟩:=Option.map_eq_some_iff.mp j;have m1:=mem_of_getElem? p1;have m2:=mem_of_getElem? N;have e:=z8 (hb.num p m1) (hb.num P m2) (w p m1) (w P m2) (p2.trans R.symm);subst e;have:=f9 hb.num hb.strict (lt_succ_self i) p1 N;have:=cF p;exact zl 31155055817 rfl ‹_› this
theorem yh{a b:Str}(h:a.cps.toList=b.cps.toList):a=b:=by
 cases a;cases b;simp only[Str.mk.injEq];exact Array.toList_inj.mp h
noncomputable def BH(right:Bool):Str:=match right with
 |true=>⟨#[40]⟩
 |false=>⟨#[91]⟩
noncomputable def qu(right:Bool):Str:=match right with
 |true=>⟨#[93]⟩
 |false=>⟨#[41]⟩
noncomputable def eY(right:Bool)(a b:Str):Str:=(((BH right++a)++⟨#[44]⟩)++b)++qu right
theorem AD(r):Tx 1 (BH r):=by cases r<;>exact bu _ (by decide)
theorem AS(r):Tx 1 (qu r):=by cases r<;>exact bu _ (by decide)
noncomputable def cw(right:Bool)(ts:List Str):List Str:=(range (ts.length-1)).map λi=>eY right (ts.getD i ⟨#[]⟩) (ts.getD (i+1) ⟨#[]⟩)
theorem iX(g:ts[i]? =some a)(j:ts[i+1]? =some b):(cw right ts)[i]? =some (eY right a b):=by
 unfold cw;rw[getElem?_map,getElem?_range (by exact zl 25950139074987 rfl ((List.getElem?_eq_some_iff.mp j).1))];simp[g,j]
theorem sG(g:ts[i]? =some a)(j:ts[i+1]? =some b):(bH right closed ts)[i]? =some (nk right closed ts.length i a b):=by
 unfold bH;rw[getElem?_map,getElem?_range (by exact zl 25950139074987 rfl ((List.getElem?_eq_some_iff.mp j).1))];simp[g,j]
theorem dE:(cw right ts).length=ts.length-1:=by unfold cw;simp
theorem ko:(bH right closed ts).length=ts.length-1:=by unfold bH;simp
theorem lR{ts:List Str}(h:i+1<ts.length):∃a b,ts[i]? =some a∧ts[i+1]? =some b:=⟨ts[i],ts[i+1],by simp[(zl 23760357803 rfl h:i<ts.length)],by simp[h]⟩
theorem o5(h:closed=true→right=true→i≠0)(h2:closed=true→right=false→i+2≠m):nk right closed m i a b=eY right a b:=by
 unfold nk eY;cases right<;>cases closed<;>simp_all [BH,qu]
theorem DI:bH right false ts=cw right ts:=by
 unfold bH cw;refine map_congr_left λi _=> ?_;exact o5 (λq=>by cases q) λq=>by cases q
theorem AJ(n):ay (n+1) (-1)=n:=by
 have e:bX (n+1) (-1)=n:=by
  exact zm 24900892457069 rfl _
 unfold ay;rw[e];exact zm 6215221858935666 rfl _
theorem Dg:(⟨#[91]⟩)++(⟨(((eY true a b).cps.toList.take (eY true a b).cps.toList.length).drop (ay (eY true a b).cps.toList.length 1)).toArray⟩)=nk true true m 0 a b:=by
 have l:(eY true a b).cps.toList=40::(a.cps.toList++[44]++b.cps.toList++[93]):=by
  unfold eY;rw[cV,cV,cV,cV];rfl
 have cl:ay (eY true a b).cps.toList.length ((1:Nat):Int)=1:=lM (by rw[l];simp);have cl:ay (eY true a b).cps.toList.length 1=1:=cl;rw[cl,take_length,l];apply yh;unfold nk;rw[cV,cV,cV,cV,cV];simp
theorem B7(i)(H:i+2=m):(⟨(((eY false a b).cps.toList.take (ay (eY false a b).cps.toList.length (-1))).drop 0).toArray⟩)++(⟨#[93]⟩)=nk false true m i a b:=by
 have l:(eY false a b).cps.toList=([91]++a.cps.toList++[44]++b.cps.toList)++[41]:=by
  unfold eY;rw[cV,cV,cV,cV];rfl
 have L:(eY false a b).cps.toList.length=([91]++a.cps.toList++[44]++b.cps.toList).length+1:=by rw[l,List.length_append];rfl
 have cl:ay (eY false a b).cps.toList.length (-1)=([91]++a.cps.toList++[44]++b.cps.toList).length:=L▸AJ _;rw[cl,l,take_left,drop_zero];apply yh;unfold nk;rw[cV,cV,cV,cV,cV];simp[H]
theorem FN(g:ts[0]? =some a)(j:ts[0+1]? =some b):(cw true ts).set 0 (nk true true ts.length 0 a b)=bH true true ts:=by
 refine ext_getElem? λi=> ?_;rcases Nat.lt_or_ge (i+1) ts.length with h|h
 ·obtain⟨A,B,f1,F⟩:=lR h
  rw[sG f1 F,getElem?_set,iX f1 F,dE]
  by_cases z:0=i
  ·subst z
   rw[g]at f1;rw[j]at F;cases f1;cases F;rw[if_pos rfl,if_pos (by exact zl 0x7f6a8c25078b rfl h)]
  ·rw[if_neg z,o5 (λ_ _=>λq=>z q.symm) λ_ q=>by cases q]
 ·rw[getElem?_eq_none (by rw[length_set,dE];exact zl 24675464068591 rfl h),getElem?_eq_none (ko▸zl 24675464068591 rfl h)]
theorem FX(H:ts.length=n+2)(g:ts[n]? =some a)(j:ts[n+1]? =some b):(cw false ts).set n (nk false true ts.length n a b)=bH false true ts:=by
 refine ext_getElem? λi=> ?_;rcases Nat.lt_or_ge (i+1) ts.length with h|h
 ·obtain⟨A,B,f1,F⟩:=lR h
  rw[sG f1 F,getElem?_set,iX f1 F,dE]
  by_cases z:n=i
  ·subst z
   rw[g]at f1;rw[j]at F;cases f1;cases F;rw[if_pos rfl,if_pos (by exact zl 25905654844933 rfl H)]
  ·rw[if_neg z,o5 (λ_ q=>by cases q) λ_ _=>by exact zl 0x1e8f4958025badbce05 rfl H z]
 ·rw[getElem?_eq_none (by rw[length_set,dE];exact zl 24675464068591 rfl h),getElem?_eq_none (ko▸zl 24675464068591 rfl h)]
theorem mn{l:List Str}:(l.map V.str).set n (.str s)=(l.set n s).map V.str:=by rw[map_set]
theorem w6(h:l.length=n+1):eM l (-1) v=some (l.set n v):=by
 have e:bX l.length (-1)=n:=by
  exact zl 0xb1ea619ebc63e05 rfl h
 unfold eM;rw[e,decide_eq_true (show(0:Int)≤n from zm 92741 rfl _),decide_eq_true (show(n:Int)<l.length from zl 23028924628485 rfl h)];rfl
theorem xq(h1:Tx n a)(h2:Tx n b):Tx (2*n+3) (eY right a b):=
 (((((AD right).add h1).add (bu 44 (by decide))).add h2).add (AS right)).le (zm 0x123e95e1bbbbb5ad6e rfl _)
theorem sY(hb:GK bs)(h:∀ls:List Str,ls.length+1=bs.length→(∀t∈ls,Tx 1300 t)→(jF bs→ls=bH right closed (bs.map a5))→K (.j (.o (ls.map V.str))) []):FF 73 [.j (.o (bs.map ah)),.j (.bool right),.j (.bool closed),vi 3] K X:=by
 refine cX 73 rfl rfl rfl λG O=> ?_;have d:aA=1000000:=rfl;have L:=hb.vz;have F:=hb.Dz;refine cP (λts:List Str=>V.o (ts.map V.str)) (λts=>ts.length=bs.length∧(∀t∈ts,Tx 600 t)∧(jF bs→ts=bs.map a5)) (λk H=>O.c 72 rfl _ _ _ (qr hb λts h1 h2 h3=>H ts ⟨h1,h2,h3⟩)) (aa rfl) λts⟨len,T,B⟩=> ?_;refine aw (v:=.j (.str (BH right))) (ρ1:=[.j (.o (bs.map ah)),.j (.bool right),.j (.bool closed),vi 3,.j (.o (ts.map V.str)),.y,.y,.y,.y]) (λk H=>bx (c:=right) (λ_ h=>h) (λq=>by subst q;exact H) λq=>by subst q;exact H) (aa rfl) ?_;refine aw (v:=.j (.str (qu right))) (ρ1:=[.j (.o (bs.map ah)),.j (.bool right),.j (.bool closed),vi 3,.j (.o (ts.map V.str)),.j (.str (BH right)),.y,.y,.y]) (λk H=>bx (c:=right) (λ_ h=>h) (λq=>by subst q;exact H) λq=>by subst q;exact H) (aa rfl) ?_;refine aw (v:=.U []) (λ_ h=>⟨af rfl,h⟩) (aa rfl) ?_;refine cU (items:=ao 0 ((ts.length:Int)-1).toNat 1) (λk H=> ?_) (λj ρ=>∃S,fu S∧ρ=[.j (.o (bs.map ah)),.j (.bool right),.j (.bool closed),vi 3,.j (.o (ts.map V.str)),.j (.str (BH right)),.j (.str (qu right)),.U (((cw right ts).take j).map V.str),S]) ⟨.y,.inl rfl,rfl⟩ ?_ ?_
 ·refine hZ (m:=((ts.map V.str).length:Int)-1) ?_ (by rw[List.length_map];rename_i Z;exact zl 0x1650309af3c8022 rfl L Z.1) (by rw[List.length_map];rename_i Z;exact zl 0x1424d9a4ec112e0bb1cf rfl F Z.1) (by rw[List.length_map];exact H)
  exactλ_ h=>h
 ·rintro j v ρ e ⟨S,h8,rfl⟩
  refine⟨aq rfl h8,λs y=> ?_⟩;obtain⟨g,rfl⟩:j+1<ts.length∧v=.int (0+1*(j:Int)):=by
   unfold ao at e;rw[List.getElem?_map]at e;obtain⟨x,E,rfl⟩:=Option.map_eq_some_iff.mp e;obtain⟨h1,h2⟩:=List.getElem?_eq_some_iff.mp E;simp at h1 h2;subst h2;exact⟨zl 24675297543562 rfl h1,rfl⟩
  obtain⟨a,b,E,f⟩:=lR g;have I:=T a (List.mem_of_getElem? E);have W:=T b (List.mem_of_getElem? f);have M:=iX (right:=right) E f;have R:List.map V.str ((cw right ts).take (j+1))=List.map V.str ((cw right ts).take j)++[.str (eY right a b)]:=by
   rw[List.take_add_one,M,List.map_append];rfl
  have lt:(List.map V.str ((cw right ts).take j)).length<aA:=by
   rw[List.length_map,List.length_take];rename_i Z;exact zl 0x213c3b2c78f85d7550490f7d4465f55 rfl d F Z.1 g
  generalize List.map V.str ((cw right ts).take j)=tk at R lt;have u:(0+1*(j:Int))=((j:Nat):Int):=zm 776670703789 rfl _;rw[u];have Q:cu (ts.map V.str) ((j:Nat):Int)=some (.str a):=aC (by rw[List.getElem?_map,E];rfl);have P:cu (ts.map V.str) (((j:Nat):Int)+1)=some (.str b):=by
   rw[show(((j:Nat):Int)+1)=((j+1:Nat):Int)from zm 1157607680429 rfl _];exact aC (by rw[List.getElem?_map,f];rfl)
  have o:=AD right;have C:=AS right;have D:=bu 44 (by decide);refine eV (l:=tk) rfl (λk H=>az Q ⟨sU o I rfl,sU (o.add I) D rfl,az P ⟨sU ((o.add I).add D) W rfl,sU (((o.add I).add D).add W) C rfl,H⟩⟩) rfl lt (ae (y _ ⟨vi (j:Nat),.inr ⟨_,rfl⟩,?_⟩));rw[R];rfl
 ·rintro ρ ⟨S,h8,rfl⟩
  have A:(ao 0 ((ts.length:Int)-1).toNat 1).length=(cw right ts).length:=by
   unfold ao;rw[List.length_map,List.length_range,dE];exact zm 1157819611250 rfl _
  rw[A,List.take_length];have a9:∀ls,ls=bH right closed ts→ex G (.cons (.ret (.d 7)) .nil) [.j (.o (bs.map ah)),.j (.bool right),.j (.bool closed),vi 3,.j (.o (ts.map V.str)),.j (.str (BH right)),.j (.str (qu right)),.U (ls.map V.str),S] (λρ=>K (.j .none) (ba [.j (.o (bs.map ah)),.j (.bool right),.j (.bool closed),vi 3] ρ)) (λ_=>False) (λr ρ=>K r (ba [.j (.o (bs.map ah)),.j (.bool right),.j (.bool closed),vi 3] ρ)) X:=by
   rintro ls rfl;refine h _ (by rw[ko];rename_i Z;exact zl 0x9ff86276ddb4022 rfl L Z.1) (λt p=> ?_) λw=>by rw[B w]
   obtain⟨i,J⟩:=List.getElem?_of_mem p;have:i<ts.length-1:=by
    have:=(List.getElem?_eq_some_iff.mp J).1;rw[ko]at this;exact this
   obtain⟨a,b,E,f⟩:=lR (ts:=ts) (i:=i) (zl 24675297543562 rfl this);rw[sG E f]at J;cases J;exact(Jf (T a (List.mem_of_getElem? E)) (T b (List.mem_of_getElem? f))).le (by decide)
  have qq:∀k,k (closed&&right) [.j (.o (bs.map ah)),.j (.bool right),.j (.bool closed),vi 3,.j (.o (ts.map V.str)),.j (.str (BH right)),.j (.str (qu right)),.U ((cw right ts).map V.str),S]→tr G (.Q (.cons (.D (.d 2)) (.cons (.D (.d 1)) .nil))) [.j (.o (bs.map ah)),.j (.bool right),.j (.bool closed),vi 3,.j (.o (ts.map V.str)),.j (.str (BH right)),.j (.str (qu right)),.U ((cw right ts).map V.str),S] k X:=by
   intro k H;cases closed<;>cases right<;>exact H
  refine ai (b:=closed&&right) qq (λq=> ?_) λq=> ?_
  ·rw[Bool.and_eq_true]at q
   obtain⟨rfl,rfl⟩:=q;obtain⟨a,b,E,f⟩:=lR (ts:=ts) (i:=0) (by rename_i Z;exact zl 0xa9ca146af0022 rfl L Z.1);have I:=T a (List.mem_of_getElem? E);have W:=T b (List.mem_of_getElem? f);have M:=iX (right:=true) E f;have tl:=xq (right:=true) I W;have Y:(eY true a b).cps.toList.length≤aA:=Nat.le_trans tl.len (zl 0x5a33c15c7abc59419da55 rfl d);refine iy (l':=((cw true ts).map V.str).set 0 (.str (nk true true ts.length 0 a b))) (j:=((0:Nat):Int)) (v:=.j (.str (nk true true ts.length 0 a b))) (ρ1:=[.j (.o (bs.map ah)),.j (.bool true),.j (.bool true),vi 3,.j (.o (ts.map V.str)),.j (.str (BH true)),.j (.str (qu true)),.U ((cw true ts).map V.str),S]) (λk H=> ?_) rfl rfl (eA (by rw[List.length_map,dE];rename_i Z;exact zl 0xb27d0f96d8022 rfl L Z.1)) (ae ?_)
   ·rw[←Dg]at H
    refine az (j:=((0:Nat):Int)) (v:=.str (eY true a b)) (aC (by rw[List.getElem?_map,M];rfl)) ⟨Y,sU (bu 91 (by decide)) (uU tl _ _) rfl,H⟩
   ·have:=a9 _ (FN E f)
    rw[mn];exact this
  ·refine ai (b:=closed) (λ_ h=>h) (λz=> ?_) λz=> ?_
   ·subst z
    cases right with
    |true=>cases q
    |false=>
     obtain⟨n,N⟩:∃n,ts.length=n+2:=⟨ts.length-2,by rename_i Z;exact zl 0xb55c97831100022 rfl L Z.1⟩;obtain⟨a,b,E,f⟩:=lR (ts:=ts) (i:=n) (zl 23251730288133 rfl N);have I:=T a (List.mem_of_getElem? E);have W:=T b (List.mem_of_getElem? f);have M:=iX (right:=false) E f;have tl:=xq (right:=false) I W;have Y:(eY false a b).cps.toList.length≤aA:=Nat.le_trans tl.len (zl 0x5a33c15c7abc59419da55 rfl d);have U:((cw false ts).map V.str).length=n+1:=by rw[List.length_map,dE];exact zl 0x5e66f6d53ece05 rfl N
     have la:((cw false ts).map V.str).getLast? =some (.str (eY false a b)):=by
      rw[List.getLast?_eq_getElem?,U,List.getElem?_map,Nat.add_sub_cancel,M];rfl
     refine iy (l':=((cw false ts).map V.str).set n (.str (nk false true ts.length n a b))) (j:= -1) (v:=.j (.str (nk false true ts.length n a b))) (ρ1:=[.j (.o (bs.map ah)),.j (.bool false),.j (.bool true),vi 3,.j (.o (ts.map V.str)),.j (.str (BH false)),.j (.str (qu false)),.U ((cw false ts).map V.str),S]) (λk H=> ?_) rfl rfl (w6 U) (ae (ae ?_))
     ·rw[←B7 n N.symm]at H
      refine az (j:= -1) (gM la) ⟨Y,sU (uU tl _ _) (bu 93 (by decide)) rfl,H⟩
     ·have:=a9 _ (FX N E f)
      rw[mn];exact this
   ·subst z
    exact ae (ae (a9 _ DI.symm))
theorem qz(H:∀p∈l,aM p)(h:∀(i:Nat)(a b:PR),l[i]? =some a→l[i+1]? =some b→aK a b≤0):dI l:=by
 refine pairwise_iff_getElem.mpr λi j I J W=> ?_;obtain⟨d,rfl⟩:∃d,j=i+1+d:=⟨j-(i+1),zl 0x178f4c90e21a5e82 rfl W⟩;clear W;induction d with
 |zero=>exact h i _ _ (getElem?_eq_getElem I) (getElem?_eq_getElem J)
 |succ d Q=>
  have m:=lt_of_succ_lt J;exact cT (H _ (getElem_mem I)) (H _ (getElem_mem m)) (H _ (getElem_mem _)) (Q m) (h (i+1+d) _ _ (List.getElem?_eq_getElem m) (List.getElem?_eq_getElem (show i+1+d+1<l.length from zl 0x468a88285e6ee9fe52fcb rfl J)))
theorem rh(H:∀p∈l,aM p):aI l=l↔dI l:=
 ⟨λh=>by have:=de H;rw[h]at this;exact this,λh=>(rm H (Perm.refl _) h).symm⟩
noncomputable def mV:Str:=⟨#[39,118,101,99,39,32,109,117,115,116,32,98,101,32,115,111,114,116,101,100,32,110,111,110,45,100,101,99,114,101,97,115,105,110,103,108,121,32,97,110,100,32,110,111,116,32,99,111,110,116,97,105,110,32,78,65,115]⟩
noncomputable def zB(bs:List PR):It→V
|.nu x=>.int (bs.filter λb=>decide (aK b x≤0)).length
|_=>.none
noncomputable def Nc(x:PR):V→Bool
|.L [.int a,.int b]=>decide (aK (a,b) x≤0)
|_=>false
theorem yp{bs:List PR}:(((bs.map ah).filter (Nc x)).map λv=>v).length=(bs.filter λb=>decide (aK b x≤0)).length:=by
 rw[length_map,filter_map,length_map];rfl
theorem km{xs:List It}(Q:∀I∈xs,ip true I)(L:xs.length≤1000)(hb:∀p∈bs,aM p)(H:bs.length≤100)(g:bs≠[])(h1:aI bs=bs→K (.j (.o (xs.map (zB bs)))) [])(h2:aI bs≠bs→X mV):FF 74 [.j (.o (xs.map wv)),.j (.o (bs.map ah))] K X:=by
 refine cX 74 rfl rfl rfl λG O=> ?_;have P:aA=1000000:=rfl;have Y:0<bs.length:=List.length_pos_iff.mpr g;refine cU (λ_ h=>h) (λj ρ=>∃S,fu S∧ρ=[.j (.o (xs.map wv)),.j (.o (bs.map ah)),S,.y,.y,.y,.y]) ⟨.y,.inl rfl,rfl⟩ ?_ ?_
 ·rintro j v ρ e ⟨S,h2,rfl⟩
  refine⟨aq rfl h2,λR r=> ?_⟩;rw[getElem?_map]at e;obtain⟨p,E,rfl⟩:=Option.map_eq_some_iff.mp e;have y:=hb p (List.mem_of_getElem? E);refine ai (λk d=>O.c 65 rfl _ _ _ (sO (by rw[y.na];exact d))) (λq=>by cases q) λ_=>ae (ae (r _ ⟨_,.inr ⟨_,rfl⟩,rfl⟩))
 rintro ρ ⟨S,F,rfl⟩;refine cU (items:=ao 0 ((bs.length:Int)-1).toNat 1) (λk d=> ?_) (λj ρ=>(∃Z,fu Z∧ρ=[.j (.o (xs.map wv)),.j (.o (bs.map ah)),S,Z,.y,.y,.y])∧∀i a b,i<j→bs[i]? =some a→bs[i+1]? =some b→aK a b≤0) ⟨⟨.y,.inl rfl,rfl⟩,λi a b M=>absurd M (not_lt_zero _)⟩ ?_ ?_
 ·refine hZ (m:=((bs.map ah).length:Int)-1) ?_ (by rw[length_map];exact zl 4379253220425 rfl Y) (by rw[List.length_map];exact zl 0x2db170b3f113b1cf rfl H) (by rw[List.length_map];exact d)
  exactλ_ h=>h
 ·rintro j v ρ e ⟨⟨Z,h3,rfl⟩,A⟩
  refine⟨aq rfl h3,λR r=> ?_⟩;obtain⟨N,rfl⟩:j+1<bs.length∧v=.int (0+1*(j:Int)):=by
   unfold ao at e;rw[getElem?_map]at e;obtain⟨j',E,rfl⟩:=Option.map_eq_some_iff.mp e;obtain⟨h1,h2⟩:=List.getElem?_eq_some_iff.mp E;simp at h1 h2;subst h2;exact⟨zl 24675297543562 rfl h1,rfl⟩
  have J:bs[j]? =some bs[j]:=by simp[show j<bs.length from zl 23760357803 rfl N]
  have E:bs[j+1]? =some bs[j+1]:=by simp[N]
  have m0:=hb _ (mem_of_getElem? J);have m1:=hb _ (mem_of_getElem? E);generalize bs[j]=a at J m0;generalize bs[j+1]=b at E m1;have f:(0+1*(j:Int))=((j:Nat):Int):=zm 776670703789 rfl _;rw[f];have t:cu (bs.map ah) ((j:Nat):Int)=some (ah a):=aC (by rw[List.getElem?_map,J];rfl);have D:cu (bs.map ah) (((j:Nat):Int)+1)=some (ah b):=by
   rw[show(((j:Nat):Int)+1)=((j+1:Nat):Int)from zm 1157607680429 rfl _];exact aC (by rw[List.getElem?_map,E];rfl)
  refine ai (λk d=>az t (az D (O.c 14 rfl _ _ _ (cR m0 m1 d)))) (λq=> ?_) λq=> ?_
  ·have q:=of_decide_eq_true q
   refine h2 λz=> ?_;have s:=(rh hb).mp z;obtain⟨C,W⟩:=List.getElem?_eq_some_iff.mp J;obtain⟨U,T⟩:=List.getElem?_eq_some_iff.mp E;have:=pairwise_iff_getElem.mp s j (j+1) C U (zm 1103964 rfl _);rw[W,T]at this;rename_i u;exact zl 31154361640 rfl (dT u:) this
  ·have q:=of_decide_eq_false q
   refine ae (ae (r _ ⟨⟨_,.inr ⟨_,rfl⟩,rfl⟩,λi c n M f1 F=> ?_⟩))
   by_cases z:i=j
   ·subst z
    rw[J]at f1;rw[E]at F;cases f1;cases F;rename_i u;exact zl 26060190910 rfl (dF u:)
   ·exact A i c n (zl 0x4f1d2d4a6e3dfa rfl M z) f1 F
 rintro ρ ⟨⟨Z,f3,rfl⟩,A⟩;have l:(ao 0 ((bs.length:Int)-1).toNat 1).length=bs.length-1:=by
  unfold ao;rw[length_map,length_range];exact zm 1157819611250 rfl _
 rw[l]at A;have o:aI bs=bs:=(rh hb).mpr (qz hb λi a b f1 F=>A i a b (by have:=(List.getElem?_eq_some_iff.mp F).1;exact zl 25950139074987 rfl this) f1 F);have h1:=h1 o;refine aw (λ_ h=>⟨af rfl,h⟩) (aa rfl) ?_;refine cU (λ_ h=>h) (λj ρ=>∃B,fu B∧ρ=[.j (.o (xs.map wv)),.j (.o (bs.map ah)),S,Z,.U ((xs.take j).map (zB bs)),B,.y]) ⟨.y,.inl rfl,rfl⟩ ?_ ?_
 ·rintro j v ρ e ⟨B,h5,rfl⟩
  refine⟨aq rfl h5,λR r=> ?_⟩;rw[getElem?_map]at e;obtain⟨I,E,rfl⟩:=Option.map_eq_some_iff.mp e;have M:=Q I (mem_of_getElem? E);have w:(xs.take (j+1)).map (zB bs)=(xs.take j).map (zB bs)++[zB bs I]:=by
   rw[take_add_one,E,map_append];rfl
  have lt:((xs.take j).map (zB bs)).length<aA:=by
   rw[length_map,length_take];exact zl 0x825450b2dc00e2941515cf rfl L P
  rw[w]at r;generalize(xs.take j).map (zB bs)=tk at*;refine ai (λk d=>ji O rfl M d) (λq=> ?_) λq=> ?_
  ·have en:zB bs I=.none:=by cases I with|nu p=>cases q|na=>rfl|lH=>rfl
   rw[en]at r;exact eV rfl (λ_ h=>h) rfl lt (ae (ae (r _ ⟨.j (wv I),.inr ⟨_,rfl⟩,rfl⟩)))
  ·cases I with
   |na=>cases q
   |lH=>cases q
   |nu x=>
    have RA:aM x:=M.1.num;refine eV (ρ1:=[.j (.o (xs.map wv)),.j (.o (bs.map ah)),S,Z,.U tk,.j (ah x),.y]) (v:=.j (zB bs (.nu x))) rfl (λk d=> ?_) rfl lt (ae (ae (r _ ⟨.j (ah x),.inr ⟨_,rfl⟩,rfl⟩)));refine vQ (j6 (λ_ h=>h) (by rw[List.length_map];exact zl 0x29d4ecdc00e2926bb1cf rfl H P) (aa rfl) (Nc x) (λv=>v) ?_ (λv _ _ k d=>d _ rfl) ?_)
    ·intro v hv k d
     obtain⟨b,RB,rfl⟩:=mem_map.mp hv;exact O.c 14 rfl _ _ _ (cR (hb b RB) RA d)
    ·show k (.j (.int (((_:List V).length:Nat):Int))) _
     rw[yp];exact d
 ·rintro ρ ⟨B,f5,rfl⟩
  rw[length_map,take_length];exact h1
noncomputable def nH:Str:=⟨#[102,97,99,116,111,114]⟩
noncomputable def Ke:Str:=⟨#[111,114,100,101,114,101,100]⟩
noncomputable def wG(o:Bool):List Str:=match o with
 |true=>[Ke,nH]
 |false=>[nH]
noncomputable abbrev Kw(o:Bool):V:=gP bJ (.o ((wG o).map V.str)) .none
noncomputable abbrev Lj(ts:List Str):V:=gP bJ (.o (ts.map V.str)) .none
noncomputable abbrev MC(ts:List Str)(o:Bool):List (Str×V):=[(xS,Lj ts),(Jh,Kw o)]
noncomputable abbrev iK(l:List V)(ts:List Str)(o:Bool):V:=gP aS (.o l) (.lI (MC ts o))
theorem qj(h:K (.j (Kw o)) []):FF 76 [.j (.bool o)] K X:=by
 refine cX 76 rfl rfl rfl λG H=> ?_;refine ai (λ_ h=>h) (λq=> ?_) λq=>ae ?_
 ·subst q
  exact⟨af rfl,H.c 31 rfl _ _ _ (iO h)⟩
 ·subst q
  exact⟨af rfl,H.c 31 rfl _ _ _ (iO h)⟩
noncomputable def Ju(l:List V)(d:List (Str×V)):List (Nat×FK):=[(0,.j (.str aS)),(1,.j (.o l)),(2,.od d),(3,.j (.bool false)),(4,.j (.bool false))]
theorem jw(h:K (.j (iK l ts o)) []):FF 77 [.oi 0 (G9 aS (.o l) .none),.j (.o (ts.map V.str)),.j (.bool o)] K X:=by
 refine cX 77 rfl rfl rfl λG H=> ?_;refine ai (λ_ h=>h) (λ_=> ?_) λq=>by cases q
 refine bM (ρ':=[.oi 0 (Ju l []),.j (.o (ts.map V.str)),.j (.bool o)]) (λ_ h=>h) (ae ?_);refine bM (ρ':=[.oi 0 (Ju l [(xS,Lj ts)]),.j (.o (ts.map V.str)),.j (.bool o)]) (λN h=>H.c 31 rfl _ _ _ (iO h)) ?_;refine bM (ρ':=[.oi 0 (Ju l (MC ts o)),.j (.o (ts.map V.str)),.j (.bool o)]) (λN h=>H.c 76 rfl _ _ _ (qj h)) ?_;exact h
theorem sL(H:ts.length≤1000)(h:K (.j (.o (ts.map V.str))) []):FF 78 [.j (Lj ts)] K X:=by
 refine cX 78 rfl rfl rfl λG g=> ?_;refine ai (b:=false) (λk d=>kH rfl rfl (λ_ h=>h) (λ_ h=>h) d) (λq=>by cases q) λ_=>ae ?_;refine ai (b:=false) (λk d=>g.c 34 rfl _ _ _ (dU rfl rfl d)) (λq=>by cases q) λ_=>ae ?_;exact g.c 37 rfl _ _ _ (jB H h)
theorem jt(H:ts.length≤1000)(h:K (.j (.o (ts.map V.str))) []):FF 75 [.j (iK l ts o)] K X:=by
 refine cX 75 rfl rfl rfl λG g=> ?_;have L:aA=1000000:=rfl;refine aw (v:=.j (Lj ts)) (ρ1:=[.j (iK l ts o),.y,.y]) (λk d=>g.c 35 rfl _ _ _ (tB d)) (aa rfl) ?_;refine ai (λk d=>g.c 34 rfl _ _ _ (dU rfl rfl d)) (λq=>by cases q) λ_=>ae ?_;refine iJ (gv (fC (λk d=>g.c 37 rfl _ _ _ (jB H d)) (by rw[length_map];exact zl 0x29d4ecdc00e2941515cf rfl H L) (aa rfl) (λv=>v) ?_ ?_))
 ·intro v R k d
  obtain⟨t,T,rfl⟩:=mem_map.mp R;exact d _ rfl
 ·rw[map_id']
  exact h
noncomputable abbrev cp(xs:List It):V:=gP aW (.o (xs.map wv)) .none
noncomputable abbrev aV(xs cut:List It)(right closed:Bool):List (Option Str×V):=[(none,cp xs),(none,cp cut),(some dA,bf right),(some ck,bf closed)]
theorem rR(H:Sub 79 G)(x:∀I∈xs,ip true I)(L:xs.length≤1000)(c:iW cut)
 (C:∀K:Rv→List Mine.Internal.S→Prop,K (.j (.o [cp xs,cp cut,e,bf closed,bf right,.none,f,.o []])) []→G 54 [.j as,.j (.o (kj.map V.str)),.j .none] K X)
 (h1:∀m,brk xs cut=.inl m→X m)(h2:∀bs,brk xs cut=.inr bs→ex G r [.j .none,.j as,.j .none,.j (.o (kj.map V.str)),.j (cp xs),.j (cp cut),.j e,.j (bf closed),.j (bf right),.j .none,.j f,.j (.o []),.j (.o (xs.map wv)),.j (.bool closed),.j (.bool right),.j (.o (bs.map ah)),.j (.o (xs.map (iD bs right closed))),.y,.y] t U Y X):
 ex G (.cons (.C 3 (.Y (.Z (.cons (.M ⟨#[120]⟩) (.cons (.M ⟨#[98,114,101,97,107,115]⟩) (.cons (.M ⟨#[108,97,98,101,108,115]⟩) (.cons (.M ⟨#[105,110,99,108,117,100,101,46,108,111,119,101,115,116]⟩) (.cons (.M ⟨#[114,105,103,104,116]⟩) (.cons (.M ⟨#[100,105,103,46,108,97,98]⟩) (.cons (.M ⟨#[111,114,100,101,114,101,100,95,114,101,115,117,108,116]⟩) (.cons (.M ⟨#[46,46,46]⟩) .nil))))))))))) (.cons (.jn [4,5,6,7,8,9,10,11] (.call 54 (.cons (.d 1) (.cons (.d 3) (.cons .dN .nil))))) (.cons (.iff (.D (.ag .eQ (.J (.call 53 (.cons (.d 4) (.cons (.M ⟨#[120]⟩) .nil))) 0) (.L (.cons (.M ⟨#[105,110,116,101,103,101,114]⟩) (.cons (.M ⟨#[100,111,117,98,108,101]⟩) (.cons (.M ⟨#[108,111,103,105,99,97,108]⟩) .nil)))))) .K .nil) (.cons (.ex (.call 53 (.cons (.d 5) (.cons (.M ⟨#[98,114,101,97,107,115]⟩) .nil)))) (.cons (.C 12 (.J (.call 42 (.cons (.d 4) (.cons (.M ⟨#[100,111,117,98,108,101]⟩) (.cons (.Z .nil) .nil)))) 1)) (.cons (.C 13 (.call 44 (.cons (.d 7) (.cons (.cB false) .nil)))) (.cons (.C 14 (.call 44 (.cons (.d 8) (.cons (.cB true) .nil)))) (.cons (.C 15 (.call 68 (.cons (.d 12) (.cons (.J (.call 42 (.cons (.d 5) (.cons (.M ⟨#[100,111,117,98,108,101]⟩) (.cons (.Z .nil) .nil)))) 1) .nil)))) (.cons (.C 16 (.call 70 (.cons (.d 12) (.cons (.d 15) (.cons (.d 14) (.cons (.d 13) .nil)))))) r))))))))) [.j .none,.j as,.j .none,.y,.y,.y,.y,.y,.y,.y,.y,.y,.y,.y,.y,.y,.y,.y,.y] t U Y X:=by
 refine bM (ρ':=[.j .none,.j as,.j .none,.j (.o (kj.map V.str)),.y,.y,.y,.y,.y,.y,.y,.y,.y,.y,.y,.y,.y,.y,.y]) (λ_ h=>⟨af rfl,h⟩) ?_;refine bM (ρ':=[.j .none,.j as,.j .none,.j (.o (kj.map V.str)),.j (cp xs),.j (cp cut),.j e,.j (bf closed),.j (bf right),.j .none,.j f,.j (.o []),.y,.y,.y,.y,.y,.y,.y]) (λt h=>C _ h) ?_;refine ai (b:=false) (ρ':=[.j .none,.j as,.j .none,.j (.o (kj.map V.str)),.j (cp xs),.j (cp cut),.j e,.j (bf closed),.j (bf right),.j .none,.j f,.j (.o []),.y,.y,.y,.y,.y,.y,.y]) (λk d=>H.c 53 rfl _ _ _ (uZ ⟨af rfl,Cz (s:=aW) (ss:=[aS,aW,eZ]) rfl rfl d⟩)) (λq=>by cases q) λ_=>ae ?_;refine bM (ρ':=[.j .none,.j as,.j .none,.j (.o (kj.map V.str)),.j (cp xs),.j (cp cut),.j e,.j (bf closed),.j (bf right),.j .none,.j f,.j (.o []),.y,.y,.y,.y,.y,.y,.y]) (λt h=>H.c 53 rfl _ _ _ (uZ h)) ?_;refine aw (v:=.j (.o (xs.map wv))) (ρ1:=[.j .none,.j as,.j .none,.j (.o (kj.map V.str)),.j (cp xs),.j (cp cut),.j e,.j (bf closed),.j (bf right),.j .none,.j f,.j (.o []),.y,.y,.y,.y,.y,.y,.y]) (λk d=>⟨af rfl,H.c 42 rfl _ _ _ (gh d)⟩) (aa rfl) ?_;refine aw (v:=.j (.bool closed)) (ρ1:=[.j .none,.j as,.j .none,.j (.o (kj.map V.str)),.j (cp xs),.j (cp cut),.j e,.j (bf closed),.j (bf right),.j .none,.j f,.j (.o []),.j (.o (xs.map wv)),.y,.y,.y,.y,.y,.y]) (λk d=>H.c 44 rfl _ _ _ (rE d)) (aa rfl) ?_;refine aw (v:=.j (.bool right)) (ρ1:=[.j .none,.j as,.j .none,.j (.o (kj.map V.str)),.j (cp xs),.j (cp cut),.j e,.j (bf closed),.j (bf right),.j .none,.j f,.j (.o []),.j (.o (xs.map wv)),.j (.bool closed),.y,.y,.y,.y,.y]) (λk d=>H.c 44 rfl _ _ _ (rE d)) (aa rfl) ?_;cases hb:brk xs cut with
 |inl m=>
  refine⟨af rfl,H.c 42 rfl _ _ _ (gh ?_)⟩;refine H.c 68 rfl _ _ _ (iN x L c ?_);rw[hb];exact h1 m hb
 |inr bs=>
  have ok:=pT x c hb;refine aw (v:=.j (.o (bs.map ah))) (ρ1:=[.j .none,.j as,.j .none,.j (.o (kj.map V.str)),.j (cp xs),.j (cp cut),.j e,.j (bf closed),.j (bf right),.j .none,.j f,.j (.o []),.j (.o (xs.map wv)),.j (.bool closed),.j (.bool right),.y,.y,.y,.y]) (λk d=>⟨af rfl,H.c 42 rfl _ _ _ (gh (H.c 68 rfl _ _ _ (iN x L c ?_)))⟩) (aa rfl) ?_
  ·rw[hb];exact d
  refine aw (v:=.j (.o (xs.map (iD bs right closed)))) (ρ1:=[.j .none,.j as,.j .none,.j (.o (kj.map V.str)),.j (cp xs),.j (cp cut),.j e,.j (bf closed),.j (bf right),.j .none,.j f,.j (.o []),.j (.o (xs.map wv)),.j (.bool closed),.j (.bool right),.j (.o (bs.map ah)),.y,.y,.y]) (λk d=>H.c 70 rfl _ _ _ (uI x L ok.num ok.strict ok.Dz ok.vz d)) (aa rfl) ?_;exact h2 bs hb
noncomputable def JH:Str:=⟨#[110,117,109,98,101,114,32,111,102,32,105,110,116,101,114,118,97,108,115,32,97,110,100,32,108,101,110,103,116,104,32,111,102,32,39,108,97,98,101,108,115,39,32,100,105,102,102,101,114]⟩
theorem Dq(H:∀I∈xs,ip true I)(L:xs.length≤1000)(c:iW cut)(h1:∀m,brk xs cut=.inl m→X m)(h2:∀bs,brk xs cut=.inr bs→K (.j (gP aS (.o (xs.map (iD bs right closed))) .none)) []):
 FF 79 [.j .none,.j (.o ([(none,cp xs),(none,cp cut),(some dA,bf right),(some ck,bf closed),(some d9,bf false)].map aX)),.j .none] K X:=by
 refine cX 79 rfl rfl rfl λG g=> ?_;refine rR g H L c (λK h=>g.c 54 rfl _ _ _ (E4 h)) h1 λbs hb=> ?_;refine ai (λk d=>aU (λ_ h=>h) (λ_=>aU (b:=true) (λk d=>kH rfl rfl (λ_ h=>h) (λ_ h=>h) d) (λ_=>bO (λk d=>⟨af rfl,cY (b:=true) rfl d⟩) (λ_=>d) λq=>by cases q) λq=>by cases q) λq=>by cases q) (λ_=> ?_) λq=>by cases q
 exact g.c 29 rfl _ _ _ (jd (h2 bs hb))
theorem HV(H:∀I∈xs,ip true I)(L:xs.length≤1000)(C:iW cut)(hb:brk xs cut=.inr bs)(h2:∀ls:List Str,ls.length+1=bs.length→(∀t∈ls,Tx 1300 t)→(jF bs→ls=bH right closed (bs.map a5))→K (.j (iK (xs.map (iD bs right closed)) ls false)) []):
 FF 79 [.j .none,.j (.o ((aV xs cut right closed).map aX)),.j .none] K X:=by
 refine cX 79 rfl rfl rfl λG g=> ?_;refine rR g H L C (λK h=>g.c 54 rfl _ _ _ (Fb h)) (λm M=>by rw[hb]at M;cases M) λB J=> ?_;have e:B=bs:=by rw[hb]at J;cases J;rfl
 subst e;refine ai (λk d=>aU (λ_ h=>h) (λq=>by cases q) λ_=>d) (λq=>by cases q) λ_=>ae ?_;refine ai (λk d=>d8 (λ_ h=>h) (λ_=>d) λq=>by cases q) (λ_=> ?_) λq=>by cases q
 refine aw (λk d=>bx (λ_ h=>h) (λ_=>d) λq=>by cases q) (aa rfl) ?_;refine cP (λls:List Str=>V.o (ls.map V.str)) (λls=>ls.length+1=B.length∧(∀t∈ls,Tx 1300 t)∧(jF B→ls=bH right closed (B.map a5))) (λk d=>g.c 73 rfl _ _ _ (sY (pT H C hb) λls a b c=>d ls ⟨a,b,c⟩)) (aa rfl) λls⟨a,b,c⟩=>ae ?_;refine g.c 29 rfl _ _ _ (jd ?_);refine g.c 44 rfl _ _ _ (tF ?_);exact g.c 77 rfl _ _ _ (jw (h2 ls a b c))
theorem IG(H:∀I∈xs,ip true I)(L:xs.length≤1000)(c:iW cut)(hb:brk xs cut=.inr bs)(t:ts.length≤1000)(h1:ts.length+1≠bs.length→X JH)(h2:ts.length+1=bs.length→K (.j (iK (xs.map (iD bs right closed)) ts true)) []):
 FF 79 [.j .none,.j (.o ([(none,cp xs),(none,cp cut),(some dA,bf right),(some ck,bf closed),(some d9,Lj ts),(some iC,bf true)].map aX)),.j .none] K X:=by
 refine cX 79 rfl rfl rfl λG g=> ?_;refine rR g H L c (λK h=>g.c 54 rfl _ _ _ (Eo h)) (λm M=>by rw[hb]at M;cases M) λB J=> ?_;have e:B=bs:=by rw[hb]at J;cases J;rfl
 subst e;have ok:=pT H c hb;refine ai (λk d=>aU (λ_ h=>h) (λ_=>aU (λk d=>kH rfl rfl (λ_ h=>h) (λ_ h=>h) d) (λq=>by cases q) λ_=>d) λq=>by cases q) (λq=>by cases q) λ_=>ae ?_;refine ai (λk d=>d8 (λ_ h=>h) (λq=>by cases q) λ_=>gz (λk d=>⟨af rfl,GQ (ss:=[⟨#[78,85,76,76]⟩,eZ]) rfl rfl d⟩) (λq=>by cases q) λ_=>d) (λq=>by cases q) λ_=> ?_;refine aw (λk d=>g.c 78 rfl _ _ _ (sL t d)) (aa rfl) ?_;refine ai (b:= !(decide ((((ts.map V.str).length:Nat):Int)=(((B.map ah).length:Nat):Int)-1))) (λk d=>d) (λq=> ?_) λq=>ae (ae ?_)
 ·rw[length_map,length_map]at q
  refine h1 λz=> ?_;rw[decide_eq_true (show((ts.length:Nat):Int)=((B.length:Nat):Int)-1 from zl 0x5e6a945e7d49b6 rfl z)]at q;cases q
 ·rw[length_map,length_map]at q
  have z:ts.length+1=B.length:=by
   by_cases w:(ts.length)=(B.length:Int)-1
   ·exact zl 0x59c4ab45534e6b rfl w
   ·rw[decide_eq_false w]at q;cases q
  refine g.c 29 rfl _ _ _ (jd ?_);refine g.c 44 rfl _ _ _ (rE ?_);exact g.c 77 rfl _ _ _ (jw (h2 z))
theorem Ic(H:∀I∈xs,ip true I)(L:xs.length≤1000)(hb:∀p∈bs,aM p)(C:bs.length≤100)(g:bs≠[])(h1:aI bs=bs→K (.j (gP aS (.o (xs.map (zB bs))) .none)) [])(h2:aI bs≠bs→X mV):
 FF 80 [.j .none,.j (.o ([((none:Option Str),cp xs),((none:Option Str),gP aW (.o (bs.map ah)) .none)].map aX)),.j .none] K X:=by
 refine cX 80 rfl rfl rfl λG O=> ?_;refine bM (λN h=>⟨af rfl,O.c 54 rfl _ _ _ (FW h)⟩) ?_;refine ai (b:=false) (λk d=>d8 (b:=false) (ρ':=[.j .none,.j (.o ([((none:Option Str),cp xs),((none:Option Str),gP aW (.o (bs.map ah)) .none)].map aX)),.j .none,.j (cp xs),.j (gP aW (.o (bs.map ah)) .none),.j (.o [])]) (λ_ h=>h) (λq=>by cases q) λ_=>d8 (b:=false) (λ_ h=>h) (λq=>by cases q) λ_=>d8 (b:=false) (λk d=>O.c 34 rfl _ _ _ (dU rfl rfl d)) (λq=>by cases q) λ_=>gz (b:=false) (ρ':=[.j .none,.j (.o ([((none:Option Str),cp xs),((none:Option Str),gP aW (.o (bs.map ah)) .none)].map aX)),.j .none,.j (cp xs),.j (gP aW (.o (bs.map ah)) .none),.j (.o [])]) (λk d=>O.c 34 rfl _ _ _ (dU rfl rfl d)) (λq=>by cases q) λ_=>d) (λq=>by cases q) λ_=>ae ?_;refine⟨af rfl,O.c 42 rfl _ _ _ (gh ?_)⟩;refine⟨af rfl,O.c 42 rfl _ _ _ (gh ?_)⟩;refine O.c 74 rfl _ _ _ (km H L hb C g (λz=> ?_) h2);exact O.c 29 rfl _ _ _ (jd (h1 z))
theorem DU:brk xs cut=.inl m→k8 m=true:=by
 refine lN (P:=λz=>z=.inl m→k8 m=true) (λh=>Sum.inl.inj h▸rfl) (λp _=> ?_) λps _ _ h=> ?_
 ·exact l7 (P:=λz=>z=.inl m→k8 m=true) (λs e h=>Sum.inl.inj h▸e) λ_ _ _ _ h=>nomatch h
 ·by_cases na:Dj (aI ps)=true
  ·rw[if_pos na]at h;exact Sum.inl.inj h▸rfl
  ·rw[if_neg na]at h;cases h
theorem lO(hd:0<d)(h:mw n d<2):d∣n:=by
 have h2:=LW (n:=n) (d:=d);rw[show mw n d=1 from zl 6841381433321 rfl h (cq (n:=n) hd),Int.one_mul]at h2;have:=Int.gcd_dvd_left n d;rw[h2]at this;exact this
theorem yH(H:n≠0)(h:n.natAbs<2^8)(hd:(1000:Int)∣n):False:=by
 obtain⟨z,rfl⟩:=hd;rcases Int.lt_trichotomy z 0 with q|q|q
 ·exact zl 0x3a07b8fadc3c8b2413 rfl h q
 ·exact H (by rw[q];rfl)
 ·exact zl 0x394c1032dc3c8b2413 rfl h q
theorem xj(H:Sm low)(C:Sm top)(L:0<low.2)(t:0<top.2)(m2:2≤m):∃p∈fe low top m,2≤p.2:=by
 have b1:low.1.natAbs<2^5:=by rcases H with h|h<;>(first|exact zl 920200751983464 rfl h.2.2.2|exact zl 379053015251752 rfl L h.1)
 have b2:low.2.natAbs<2^2:=by rcases H with h|h<;>(first|exact zl 0xd5e355420528 rfl h.1 h.2.2.1|exact zl 0x674d8b933b28 rfl L h.1)
 have b:top.1.natAbs<2^5:=by rcases C with h|h<;>(first|exact zl 920200751983464 rfl h.2.2.2|exact zl 379053015251752 rfl t h.1)
 have I:top.2.natAbs<2^2:=by rcases C with h|h<;>(first|exact zl 0xd5e355420528 rfl h.1 h.2.2.1|exact zl 0x674d8b933b28 rfl t h.1)
 unfold fe;split
 ·generalize E:(if low.1≠0 then(low.1.natAbs:Int)else 1)=n
  have d:n.natAbs<2^8:=by subst E;split<;>(first|exact zl 0xbb3ededf4c6aab73 rfl b1|exact zm 92607431 rfl)
  have P:n≠0:=by subst E;split<;>(first|exact zl 0xdb6e2f9bf0a22 rfl ‹_›|exact zm 1299205 rfl)
  have g:0<low.2*low.2*1000:=by have:=Int.mul_pos L L;exact zl 0xf7afbc6e5d28 rfl this
  have S:0<(rd (low.1*low.2*1000-n*low.2) (low.2*low.2*1000)).2:=cq g;have s:Int.gcd (rd (low.1*low.2*1000-n*low.2) (low.2*low.2*1000)).1 (rd (low.1*low.2*1000-n*low.2) (low.2*low.2*1000)).2=1:=oW g;have B:¬(rd (low.1*low.2*1000-n*low.2) (low.2*low.2*1000)).2<2:=λz=>by
   obtain⟨z,Z⟩:=lO g z;have e:low.2*n=low.2*(1000*(low.1-low.2*z)):=by
    have Q:low.2*n=low.1*low.2*1000-low.2*low.2*1000*z:=by rw[←Z,Int.mul_comm n];exact zm 0x1656041f85e041f80a rfl ..
    rw[Q,Int.mul_comm low.1,Int.mul_sub,Int.mul_sub];simp only[Int.mul_assoc,Int.mul_left_comm,Int.mul_comm]
   have e:=Int.eq_of_mul_eq_mul_left (zl 31155043112 rfl L) e;exact yH P d ⟨_,e⟩
  show∃p∈(List.range (m+1).toNat).map λ(i:Nat)=>rd ((rd (low.1*low.2*1000-n*low.2) (low.2*low.2*1000)).1*(low.2*1000)*m+(0+1*(i:Int))*(2*n)*(rd (low.1*low.2*1000-n*low.2) (low.2*low.2*1000)).2) ((rd (low.1*low.2*1000-n*low.2) (low.2*low.2*1000)).2*(low.2*1000)*m),2≤p.2;generalize rd (low.1*low.2*1000-n*low.2) (low.2*low.2*1000)=st at S s B;refine⟨_,mem_map.mpr ⟨0,mem_range.mpr (zl 7235504212481 rfl m2),rfl⟩,?_⟩;rcases Int.lt_or_le (mw (st.1*(low.2*1000)*m+(0+1*((0:Nat)))*(2*n)*st.2) (st.2*(low.2*1000)*m)) 2 with z|z
  ·exfalso
   have D:=lO (dQ S (zl 0xf7afbc6e5d28 rfl L) (zl 179601153 rfl m2)) z;rw[show(0+1*((0:Nat)))*(2*n)*st.2=0 by simp,Int.add_zero,Int.mul_assoc,Int.mul_assoc st.1]at D;have D:=Int.dvd_of_mul_dvd_mul_right (zl 31155043112 rfl (Int.mul_pos (zl 0xf7afbc6e5d28 rfl L) (zl 179601153 rfl m2))) D;have:=Int.dvd_coe_gcd D (Int.dvd_refl _);rw[s]at this;have:=Int.le_of_dvd (by decide) this;exact B (zl 7241483134 rfl this)
  ·exact z
 ·rename_i N
  unfold B9;generalize E:top.1*low.2-low.1*top.2=n at N;have M:n.natAbs<2^8:=E▸x9 (ml b b2) (ml b1 I);have g:0<low.2*(top.2*low.2)*1000:=by have:=Int.mul_pos L (Int.mul_pos t L);exact zl 0xf7afbc6e5d28 rfl this
  refine⟨_,mem_of_getElem? (i:=0) (a:=rd (low.1*(top.2*low.2)*1000-n*low.2) (low.2*(top.2*low.2)*1000)) ?_,?_⟩
  ·rw[getElem?_set_ne (by exact zl 996961694977 rfl m2),getElem?_set_self (by simp;exact zl 226112102145 rfl m2)]
  ·rcases Int.lt_or_le (mw (low.1*(top.2*low.2)*1000-n*low.2) (low.2*(top.2*low.2)*1000)) 2 with z|z
   ·exfalso
    obtain⟨z,Z⟩:=lO g z;have e:low.2*n=low.2*(1000*(top.2*(low.1-low.2*z))):=by
     have Q:low.2*n=low.1*(top.2*low.2)*1000-low.2*(top.2*low.2)*1000*z:=by rw[←Z,Int.mul_comm n];exact zm 0x1656041f85e041f80a rfl ..
     rw[Q,Int.mul_sub,Int.mul_sub,Int.mul_sub];simp only[Int.mul_assoc,Int.mul_left_comm,Int.mul_comm]
    exact yH N M ⟨_,Int.eq_of_mul_eq_mul_left (zl 31155043112 rfl L) e⟩
   ·exact z
theorem zv(x:∀I∈xs,ip true I)(c:iW cut)(h:brk xs cut=.inr l)(H:∀p∈l,p.2<2):jF l:=by
 revert h;refine lN (P:=λz=>z=.inr l→jF l) (λh=>nomatch h) (λp E=> ?_) λps L E h=> ?_
 ·refine l7 (P:=λz=>z=.inr l→jF l) (λ_ _ h=>nomatch h) λm2 low r e h=> ?_
  cases h;have s:=yJ x;rw[e]at s;have h1:=s low (.head _);have h2:=s _ (getLast_mem (cons_ne_nil low r));obtain⟨q,Q,R⟩:=xj h1.1 h2.1 h1.2 h2.2 m2;exact absurd (H q Q) (Int.not_lt.mpr R)
 ·by_cases na:Dj (aI ps)=true
  ·rw[if_pos na]at h;cases h
  ·rw[if_neg na]at h
   cases h;intro p u;rcases(c.ok (.nu p) (E▸List.mem_map.mpr ⟨p,(aZ ps).mem_iff.mp u,rfl⟩)).1 with h2|h2
   ·right;exact zl 0x126cd55aae4f3bc4fd050afe9 rfl (H p u) h2.2.2.2 h2.1
   ·left;exact h2.1
theorem Ft(H:iW cut)(h:brk xs cut=.inr l):∃ps,cut=ps.map .nu∧ps≠[]∧(∀p∈ps,aM p)∧ps.length≤100:=by
 unfold brk at h;split at h
 ·cases h
 ·rename_i N
  have E:=n4 λI i=>by
   cases q:hK I with
   |false=>rfl
   |true=>exact absurd (.inr (mem_map.mpr ⟨I,i,q⟩)) N
  refine⟨DA cut,E,λz=>N (.inl (by rw[E,z];rfl)),λp P=>(H.ok (.nu p) (E▸List.mem_map.mpr ⟨p,P,rfl⟩)).1.num,?_⟩;have:=H.len;rw[E,length_map]at this;exact this
theorem Ar(h:ip w I):ip true I:=by
 cases I with
 |na=>rfl
 |lH=>rfl
 |nu p=>exact⟨h.1,λq=>by cases q⟩
theorem gw{Y:Type}(st:Y→R)(P:Y→Prop)(h:∀x:R→Prop,(∀a,P a→x (st a))→ex G s ρ x C t X)(h1:∀a,P a→ex G r (st a) x C t X):ex G (.cons s r) ρ x C t X:=h _ h1
theorem Cb{k:Rv→R→Prop}{Y:Type}(f)(P:Y→Prop)(Pv:V→Prop)(Inv:R→Prop)(H:∀ρ,Inv ρ→bo ρ j)
 (O:∀ρ v,Inv ρ→Pv v→∀k:Rv→R→Prop,(∀a r ρ',P a→r.v=f a→Inv ρ'→k r ρ')→ev G J (ρ.set j (.j v)) k (λ_=>False))(items C:List V)(ρ)(p:∀v∈items,Pv v)(i:Inv ρ)
 (h:∀(as:List Y)ρ',as.length=items.length→(∀a∈as,P a)→Inv ρ'→k (.U (C++as.map f)) (ρ'.set j .y)):
 (items.foldr (λv t C ρ=>bG ρ j (.j v) λρ=>GV G .no ρ (λc ρ=>match c with
  |true=>ev G J ρ (λr ρ=>t (C++[r.v]) ρ) (λ_=>False)
  |false=>t C ρ) (λ_=>False)) (λC ρ=>bG ρ j .y λρ=>k (.U C) ρ)) C ρ:=
 lT (λl C ρ=>Inv ρ∧∀(as:List Y)ρ',as.length=l.length→(∀a∈as,P a)→Inv ρ'→k (.U (C++as.map f)) (ρ'.set j .y)) (λC ρ h=>aT (H ρ h.1) (append_nil C▸h.2 [] ρ rfl (λ_ q=>nomatch q) h.1))
  (λv u l C ρ h t y=>aT (H ρ h.1) (O ρ v h.1 (p v u) _ λa r ρ' A e U=>y _ ρ' ⟨U,λas F h1 h2 h3=>by
   rw[e,List.append_assoc];exact h.2 (a::as) F (congrArg (·+1) h1) (λb hb=>(mem_cons.mp hb).elim (λz=>z▸A) (h2 b)) h3⟩)) C ρ ⟨i,h⟩
theorem yk{Y:Type}(f)(P:Y→Prop)(Pv:V→Prop)(N:Nat→Prop)(Inv:R→Prop)(H:∀n,N n→n≤1000)(i:∀k:List V→R→Prop,(∀items ρ',N items.length→(∀v∈items,Pv v)→Inv ρ'→k items ρ')→qS G I ρ k X)(J:∀ρ,Inv ρ→bo ρ j)
 (O:∀ρ v,Inv ρ→Pv v→∀k:Rv→R→Prop,(∀a r ρ',P a→r.v=f a→Inv ρ'→k r ρ')→ev G t (ρ.set j (.j v)) k (λ_=>False))(h:∀(as:List Y)ρ',N as.length→(∀a∈as,P a)→Inv ρ'→k (.U (as.map f)) (ρ'.set j .y)):ev G (.comp j I .no t) ρ k X:=
 i _ λitems ρ' U p u=>⟨Nat.le_trans (H _ U) (by decide),Cb f P Pv Inv J O items [] ρ' p u λas F h1 h2 h3=>h as F (h1▸U) h2 h3⟩
noncomputable abbrev LS(s:V)(U Q H I t y m f d J C j D O:Mine.Internal.S:=.y):R:=[.j s,U,Q,H,I,t,y,m,f,d,J,C,j,D,O,.y,.y,.y,.y,.y,.y,.y,.y]
noncomputable abbrev Lq(s:V)(l:List Int)(xs cut:List It)(w:Int)(right closed:Bool)(Q f d U C j H O:Mine.Internal.S:=.y):R:=LS s (.U (iV l)) (.j (.o (xs.map wv))) (vi w) (.j (.o (cut.map wv))) (.j (.bool right)) (.j (.bool closed)) Q f d U C j H O
theorem x8(h:v∈ao 0 m.toNat 1):∃i,v=.int i∧0≤i∧i<m:=by
 unfold ao at h;obtain⟨i,H,rfl⟩:=mem_map.mp h;have:=mem_range.mp H;exact⟨_,rfl,zm 97271027205 rfl _,zl 0x96da979a0b6caa rfl this⟩
theorem uP(H:Sub 93 G)(h1:ρ[1]? =some (.U (iV l)))(m0:0<m)(m1:m≤50)(d:∀items l',items.length<m.toNat→(∀v∈items,∃i:Int,v=.int i∧0≤i∧i<60)→k items (ρ.set 1 (.U (iV l')))):qS G (.eX (.cons (.w .fmod (.P 81 1 .nil) (.p m)) .nil)) ρ k X:=by
 show(match ρ[1]?,mW .nil ρ with
  |some o,some V=>(match mB o with
   |some s=>G 81 (s::V.map .j) (λr ss=>match ss with|[S]=>(match oM o S with|some O=>JE .fmod r.v (.int m) λr=>(match dG [r.v]with|some l=>k l (ρ.set 1 O)|.none=>False)|.none=>False)|_=>False) X
   |.none=>False)
  |_,_=>False)
 rw[h1];refine H.c 81 rfl _ _ _ (bc λi l'=>⟨zl 31155043112 rfl m0,?_⟩);obtain⟨a,b⟩:=fm m0 i;show(match dG [.int (i.fmod m)]with|some l=>k l (ρ.set 1 (.U (iV l')))|.none=>False);rw[iR a (zl 0x4f9b5d98992d73e rfl m1 b)];refine d _ l' ?_ λv R=> ?_
 ·unfold ao;rw[length_map,length_range];exact zl 0x4eeaec78ab228 rfl m0 b
 ·obtain⟨i,e,h1,h2⟩:=x8 R
  exact⟨i,e,h1,zl 0x1f4e7554678a02d73e rfl m1 b h2⟩
theorem q8(H:Sub 93 G)(h1:ρ[1]? =some (.U (iV l)))(L:0≤a)(t:a≤5)(m0:0<m)(m1:m≤50)(d:∀items l',a.toNat≤items.length→items.length<a.toNat+m.toNat→(∀v∈items,∃i:Int,v=.int i∧0≤i∧i<60)→k items (ρ.set 1 (.U (iV l')))):qS G (.eX (.cons (.w .add (.p a) (.w .fmod (.P 81 1 .nil) (.p m))) .nil)) ρ k X:=by
 show(match ρ[1]?,mW .nil ρ with
  |some o,some V=>(match mB o with
   |some s=>G 81 (s::V.map .j) (λr ss=>match ss with|[S]=>(match oM o S with|some O=>JE .fmod r.v (.int m) λr=>JE .add (.int a) r.v λr=>(match dG [r.v]with|some l=>k l (ρ.set 1 O)|.none=>False)|.none=>False)|_=>False) X
   |.none=>False)
  |_,_=>False)
 rw[h1];refine H.c 81 rfl _ _ _ (bc λi l'=>⟨zl 31155043112 rfl m0,?_⟩);obtain⟨b,c⟩:=fm m0 i;show(match dG [.int (a+i.fmod m)]with|some l=>k l (ρ.set 1 (.U (iV l')))|.none=>False);rw[iR (by exact zl 5707093782690845 rfl L b) (by exact zl 0x7941b0681da0370af0e8e rfl t m1 c)];refine d _ l' ?_ ?_ λv R=> ?_
 ·unfold ao;rw[length_map,length_range];exact zl 45914881759005 rfl b
 ·unfold ao;rw[length_map,length_range];exact zl 0x1ffb9ecc06d0b72b228 rfl m0 c
 ·obtain⟨i,e,h1,h2⟩:=x8 R
  exact⟨i,e,h1,zl 0xb1c5f6d744358f9acb0af0e8e rfl t m1 c h2⟩
theorem tH(H:Sub 93 G)(Y:j≠1){N:Nat→Prop}(g:∀n,N n→n≤1000){st:List Int→Mine.Internal.S→R}(d:∀l s,(st l s)[1]? =some (.U (iV l)))(Q:∀l s,(st l s)[j]? =some s)(m:∀l l' s,(st l s).set 1 (.U (iV l'))=st l' s)(U:∀l s t,(st l s).set j t=st l t)(M:∀k:List V→R→Prop,(∀items l',N items.length→k items (st l' .y))→qS G I ρ k X)(h:∀(J:List It)(l':List Int),N J.length→(∀i∈J,ip w i)→k (.U (J.map wv)) (st l' .y)):ev G (.comp j I .no (.P 84 1 (.cons (.cB w) .nil))) ρ k X:=by
 apply yk wv (ip w) (λ_=>True) N (λρ=>∃l s,fu s∧ρ=st l s) g (λk K=>M k λitems l' f=>K items _ f (λ_ _=>trivial) ⟨l',.y,.inl rfl,rfl⟩) (λρ⟨l,s,S,e⟩=>by subst e;exact aq (Q l s) S)
 ·rintro ρ v ⟨l,s,S,rfl⟩ _ k K
  rw[U];show(match(st l (.j v))[1]?,mW (.cons (.cB w) .nil) (st l (.j v))with
   |some o,some C=>(match mB o with
    |some s=>G 84 (s::C.map .j) (λr ss=>match ss with|[t]=>(match oM o t with|some O=>k r ((st l (.j v)).set 1 O)|.none=>False)|_=>False) (λ_=>False)
    |.none=>False)
   |_,_=>False)
  rw[d];refine H.c 84 rfl _ _ _ (rU λI l' T=> ?_);show k (.j (wv I)) ((st l (.j v)).set 1 (.U (iV l')));rw[m];exact K I _ _ T rfl ⟨l',.j v,.inr ⟨_,rfl⟩,rfl⟩
 ·rintro as ρ' f A ⟨l,s,S,rfl⟩
  rw[U];exact h as l f A
theorem jg(h:∀I∈cut,ip true I)(l:cut.length≤100)(L:cut.length≠1):iW cut:=⟨h,l,λp e=>by subst e;exact absurd rfl L⟩
theorem oq(h:ev G e ρ (λr ρ=>bG ρ i r.s x) X):ex G (.C i e) ρ x C t X:=h
theorem Hg(h:∀k,k b ρ'→tr G c ρ k X)(h1:b=true→ex G A ρ' x C t X)(h2:b=false→ex G B ρ' x C t X):ex G (.iff c A B) ρ x C t X:=AW h h1 h2
theorem DO(H:Sub 93 G){xs:List It}(h:∀(cut:List It)(l:List Int),iW cut→x (LS s (.U (iV l)) (.j (.o (xs.map wv))) (vi w) (.U (cut.map wv)))):ex G (.iff (.D (.ag .eq (.d 3) (.p 0))) (.cons (.C 4 (.Z (.cons (.L (.cons (.w .fmod (.P 81 1 .nil) (.p 6)) (.cons (.p 1) .nil))) .nil))) .nil) (.cons (.iff (.D (.ag .eq (.d 3) (.p 1))) (.cons (.C 4 (.comp 16 (.eX (.cons (.w .fmod (.P 81 1 .nil) (.p 4)) .nil)) .no (.P 84 1 (.cons (.cB true) .nil)))) (.cons (.iff (.Q (.cons (.D (.ag .eq (.j5 (.v 4)) (.p 1))) (.cons (.D (.ag .dr (.dZ (.v 4) (.p 0)) .X)) (.cons (.cD (.cons (.D (.ag .ne (.sub (.dZ (.v 4) (.p 0)) (.p 1)) (.p 1))) (.cons (.D (.ag .gt (.sub (.dZ (.v 4) (.p 0)) (.p 0)) (.p 40))) .nil))) .nil)))) (.cons (.C 4 (.Z .nil)) .nil) .nil) .nil)) (.cons (.C 4 (.comp 17 (.eX (.cons (.w .add (.p 2) (.w .fmod (.P 81 1 .nil) (.p 4))) .nil)) .no (.P 84 1 (.cons (.cB false) .nil)))) (.cons (.iff (.D (.ag .eq (.d 3) (.p 2))) (.cons (.dB (.v 4) (.p 0) (.L (.cons (.p 1) (.cons (.p 0) .nil)))) (.cons (.dB (.v 4) (.p 1) (.L (.cons (.neg (.p 1)) (.cons (.p 0) .nil)))) .nil)) .nil) .nil))) .nil)) (LS s (.U (iV l)) (.j (.o (xs.map wv))) (vi w)) x C t X:=by
 refine Hg (b:=decide (w=0)) (ρ':=(LS s (.U (iV l)) (.j (.o (xs.map wv))) (vi w))) (λ_ h=>h) (λ_=> ?_) λ_=> ?_
 ·refine H.c 81 rfl _ _ _ (bc λi l'=>⟨by decide,af rfl,af rfl,?_⟩)
  obtain⟨a,b⟩:=fm (show(0:Int)<6 by decide) i;exact h [.nu (i.fmod 6,1)] l' ⟨λT I=>by
   rw[List.mem_singleton]at I;subst I;exact⟨.inl ⟨(by decide:(0:Int)<1),Int.gcd_one_right _,(by decide:(1:Int)≤3),by show(i.fmod 6).natAbs≤24;lia⟩,λq=>by cases q⟩,by simp,λp e=>by cases e;exact⟨rfl,by show i.fmod 6≤40;lia⟩⟩
 refine ai (b:=decide (w=1)) (ρ':=(LS s (.U (iV l)) (.j (.o (xs.map wv))) (vi w))) (λ_ h=>h) (λ_=> ?_) λ_=> ?_
 ·refine gw (λp:List It×List Int=>(LS s (.U (iV p.2)) (.j (.o (xs.map wv))) (vi w) (.U (p.1.map wv)))) (λp=>(∀T∈p.1,ip true T)∧p.1.length<4) (λx h=>oq (tH (j:=16) (w:=true) H (by decide) (N:=λn=>n<4) (λn f=>zl 176629479978 rfl f) (st:=λl E=>[.j s,(.U (iV l)),(.j (.o (xs.map wv))),vi w,.y,.y,.y,.y,.y,.y,.y,.y,.y,.y,.y,.y,E,.y,.y,.y,.y,.y,.y]) (λ_ _=>rfl) (λ_ _=>rfl) (λ_ _ _=>rfl) (λ_ _ _=>rfl) (λk K=>uP H (l:=l) rfl (by decide) (by decide) λitems l' f _=>K items l' f) λS l' f I=>h (S,l') ⟨I,f⟩)) ?_
  rintro⟨cut,l⟩ ⟨I,f⟩
  match cut with
  |[]=>exact ai (b:=false) (λk K=>aU (b:=false) (ρ':=(LS s (.U (iV l)) (.j (.o (xs.map wv))) (vi w) (.U []))) (λ_ h=>h) (λq=>by cases q) λ_=>K) (λq=>by cases q) λ_=>ae (ae (ae (h [] l (jg I (by decide) (by decide)))))
  |a::b::r=>exact ai (b:=false) (λk K=>aU (b:=false) (λk K=>by
   show k (decide (((((a::b::r).map wv).length:Nat):Int)=1)) _;rw[decide_eq_false (by rw[List.length_map,List.length_cons,List.length_cons];exact zm 22396990256779 rfl _)];exact K) (λq=>by cases q) λ_=>K) (λq=>by cases q) λ_=>ae (ae (ae (h (a::b::r) l (jg I (Nat.le_of_lt (Nat.lt_of_lt_of_le f (by decide))) (by simp)))))
  |[.na]=>exact ai (b:=false) (λk K=>aU (b:=true) (ρ':=(LS s (.U (iV l)) (.j (.o (xs.map wv))) (vi w) (.U [.none]))) (λ_ h=>h) (λ_=>aU (b:=false) (λ_ h=>h) (λq=>by cases q) λ_=>K) (λq=>by cases q)) (λq=>by cases q) λ_=>ae (ae (ae (h [.na] l ⟨I,by decide,λp e=>by cases e⟩)))
  |[.lH]=>exact ai (b:=true) (λk K=>aU (b:=true) (λ_ h=>h) (λ_=>aU (b:=true) (ρ':=(LS s (.U (iV l)) (.j (.o (xs.map wv))) (vi w) (.U [nv 0 0]))) (λ_ h=>h) (λ_=>bO (b:=true) (λk K=>d8 (b:=true) (λ_ h=>h) (λ_=>K) λq=>by cases q) (λ_=>K) λq=>by cases q) λq=>by cases q) (λq=>by cases q)) (λ_=>⟨af rfl,h [] l (jg (λT I=>by cases I) (by decide) (by decide))⟩) λq=>by cases q
  |[.nu (a,d)]=>
   refine ai (b:= !decide (d=1)||decide (40<a)) (ρ':=(LS s (.U (iV l)) (.j (.o (xs.map wv))) (vi w) (.U [nv a d]))) (λk K=>aU (b:=true) (λ_ h=>h) (λ_=>aU (b:=true) (ρ':=(LS s (.U (iV l)) (.j (.o (xs.map wv))) (vi w) (.U [nv a d]))) (λ_ h=>h) (λ_=> ?_) λq=>by cases q) (λq=>by cases q)) (λ_=>⟨af rfl,h [] l (jg (λT I=>by cases I) (by decide) (by decide))⟩) λq=> ?_
   ·refine bO (b:= !decide (d=1)||decide (40<a)) (D2 (λ_ h=>h) λ_=>yZ λ_ h=>h) (λq=>by rw[q]at K;exact K) λq=>by rw[q]at K;exact K
   ·rw[Bool.or_eq_false_iff]at q
    have Q:d=1:=by
     by_cases z:d=1
     ·exact z
     ·have:=q.1;rw[decide_eq_false z]at this;cases this
    have R:=of_decide_eq_false q.2;exact ae (ae (ae (h [.nu (a,d)] l ⟨I,by simp,λp e=>by cases e;exact⟨Q,by show a≤40;exact zl 0x67ced7a420ee rfl (dF q.2:)⟩⟩)))
 ·refine gw (λp:List It×List Int=>(LS s (.U (iV p.2)) (.j (.o (xs.map wv))) (vi w) (.U (p.1.map wv)))) (λp=>(∀T∈p.1,ip false T)∧2≤p.1.length∧p.1.length<6) (λx h=>oq (tH (j:=17) (w:=false) H (by decide) (N:=λn=>2≤n∧n<6) (λn f=>zl 0xa47fbec0b6a rfl f.2) (st:=λl m=>[.j s,(.U (iV l)),(.j (.o (xs.map wv))),(vi w),.y,.y,.y,.y,.y,.y,.y,.y,.y,.y,.y,.y,.y,m,.y,.y,.y,.y,.y]) (λ_ _=>rfl) (λ_ _=>rfl) (λ_ _ _=>rfl) (λ_ _ _=>rfl) (λk K=>q8 H (l:=l) rfl (by decide) (by decide) (by decide) (by decide) λitems l' f P _=>K items l' ⟨f,P⟩) λS l' f I=>h (S,l') ⟨I,f⟩)) ?_
  rintro⟨cut,l⟩ ⟨I,h2,h6⟩
  match cut,h2 with
  |a::b::r,_=>
   have h6:=h6;refine ai (b:=decide (w=2)) (λ_ h=>h) (λ_=> ?_) λ_=>ae (ae (ae (h (a::b::r) l (jg (λT h=>Ar (I T h)) (by lia) (by simp)))));refine iy (l:=(a::b::r).map wv) (l':=(.nu (1,0)::b::r).map wv) (j:=((0:Nat):Int)) (v:=.j (wv (.nu (1,0)))) (λk K=>⟨af rfl,K⟩) rfl rfl (eA (by simp)) ?_;refine iy (l:=(.nu (1,0)::b::r).map wv) (l':=(.nu (1,0)::.nu (-1,0)::r).map wv) (j:=((1:Nat):Int)) (v:=.j (wv (.nu (-1,0)))) (λk K=>⟨af rfl,K⟩) rfl rfl (eA (by simp)) ?_;refine ae (ae (ae (h (.nu (1,0)::.nu (-1,0)::r) l (jg (λT h=> ?_) (by rw[List.length_cons,List.length_cons]at h6⊢;exact zl 0x5b62e4064342cd4a52fcb rfl h6) (by simp)))));rcases List.mem_cons.mp h with rfl|h
   ·exact⟨.inr ⟨rfl,.inl rfl⟩,λq=>by cases q⟩
   ·rcases List.mem_cons.mp h with rfl|h
    ·exact⟨.inr ⟨rfl,.inr rfl⟩,λq=>by cases q⟩
    ·exact Ar (I T (.tail _ (.tail _ h)))
theorem zE(H:Sub 93 G)(h:∀(xs cut:List It)(w:Int)(l:List Int),(∀I∈xs,ip true I)→xs.length≤8→iW cut→ex G (.cons (.C 5 (.ag .eq (.w .fmod (.P 81 1 .nil) (.p 2)) (.p 1))) (.cons (.C 6 (.ag .eq (.w .fmod (.P 81 1 .nil) (.p 2)) (.p 1))) (.cons (.C 7 (.Y (.Z (.cons (.L (.cons .X (.cons (.new 0 27 (.cons (.M ⟨#[100,111,117,98,108,101]⟩) (.cons (.d 2) (.cons .dN .nil)))) .nil))) (.cons (.L (.cons .X (.cons (.new 0 27 (.cons (.M ⟨#[100,111,117,98,108,101]⟩) (.cons (.d 4) (.cons .dN .nil)))) .nil))) (.cons (.L (.cons (.M ⟨#[114,105,103,104,116]⟩) (.cons (.call 32 (.cons (.d 5) .nil)) .nil))) (.cons (.L (.cons (.M ⟨#[105,110,99,108,117,100,101,46,108,111,119,101,115,116]⟩) (.cons (.call 32 (.cons (.d 6) .nil)) .nil))) .nil))))))) (.cons (.C 8 (.call 89 (.cons (.d 2) (.cons (.d 4) .nil)))) (.cons (.C 9 (.cZ 94 [7] (.call 79 (.cons .X (.cons (.w .add (.d 7) (.Z (.cons (.L (.cons (.M ⟨#[108,97,98,101,108,115]⟩) (.cons (.call 32 (.cons (.cB false) .nil)) .nil))) .nil))) (.cons .X .nil)))))) (.cons (.iff (.cD (.cons (.D (.tT (.d 8) 3)) (.cons (.D (.tT (.d 9) 3)) .nil))) (.cons (.ret (.ag .eq (.d 9) (.d 8))) .nil) .nil) (.cons (.C 10 (.Y (.comp 18 (.D (.d 2)) .no (.call 90 (.cons (.d 18) (.cons (.d 8) (.cons (.d 5) (.cons (.d 6) .nil)))))))) (.cons (.iff (.cD (.cons (.D (.ag .ne (.J (.d 9) 0) (.M ⟨#[105,110,116,101,103,101,114]⟩))) (.cons (.D (.ag .ne (.J (.d 9) 1) (.d 10))) (.cons (.D (.ag .dr (.J (.d 9) 2) .X)) .nil)))) (.cons (.ret (.cB false)) .nil) .nil) (.cons (.C 9 (.call 79 (.cons .X (.cons (.d 7) (.cons .X .nil))))) (.cons (.iff (.cD (.cons (.D (.ag .ne (.J (.d 9) 1) (.d 10))) (.cons (.D (.ag .ne (.J (.sub (.J (.d 9) 2) (.M ⟨#[99,108,97,115,115]⟩)) 1) (.Z (.cons (.M ⟨#[102,97,99,116,111,114]⟩) .nil)))) .nil))) (.cons (.ret (.cB false)) .nil) .nil) (.cons (.iff (.Q (.cons (.D (.ag .eQ (.cB false) (.comp 19 (.D (.d 8)) .no (.ag .lt (.sub (.d 19) (.p 1)) (.p 2))))) (.cons (.D (.ag .ne (.call 75 (.cons (.d 9) .nil)) (.call 92 (.cons (.d 8) (.cons (.d 5) (.cons (.d 6) .nil)))))) .nil))) (.cons (.ret (.cB false)) .nil) .nil) (.cons (.C 11 (.Y (.comp 20 (.eX (.cons (.w .add (.p 1) (.w .fmod (.P 81 1 .nil) (.p 5))) .nil)) .no (.w .add (.M ⟨#[107]⟩) (.b1 .str (.d 20)))))) (.cons (.C 9 (.cZ 94 [7,11] (.call 79 (.cons .X (.cons (.w .add (.d 7) (.Z (.cons (.L (.cons (.M ⟨#[108,97,98,101,108,115]⟩) (.cons (.new 0 27 (.cons (.M ⟨#[99,104,97,114,97,99,116,101,114]⟩) (.cons (.d 11) (.cons .dN .nil)))) .nil))) (.cons (.L (.cons (.M ⟨#[111,114,100,101,114,101,100,95,114,101,115,117,108,116]⟩) (.cons (.call 32 (.cons (.cB true) .nil)) .nil))) .nil)))) (.cons .X .nil)))))) (.cons (.iff (.D (.ag .ne (.b1 .len (.d 11)) (.w .sub (.b1 .len (.d 8)) (.p 1)))) (.cons (.iff (.D (.ag .ne (.d 9) (.M ⟨#[110,117,109,98,101,114,32,111,102,32,105,110,116,101,114,118,97,108,115,32,97,110,100,32,108,101,110,103,116,104,32,111,102,32,39,108,97,98,101,108,115,39,32,100,105,102,102,101,114]⟩))) (.cons (.ret (.cB false)) .nil) .nil) .nil) (.cons (.iff (.cD (.cons (.D (.ag .ne (.call 75 (.cons (.d 9) .nil)) (.d 11))) (.cons (.D (.ag .ne (.J (.d 9) 1) (.d 10))) (.cons (.D (.ag .ne (.J (.sub (.J (.d 9) 2) (.M ⟨#[99,108,97,115,115]⟩)) 1) (.Z (.cons (.M ⟨#[111,114,100,101,114,101,100]⟩) (.cons (.M ⟨#[102,97,99,116,111,114]⟩) .nil))))) .nil)))) (.cons (.ret (.cB false)) .nil) .nil) .nil)) (.cons (.C 12 (.Y (.sl (.d 4) .no .no))) (.cons (.C 13 (.ite (.D (.ag .gt (.w .fmod (.P 81 1 .nil) (.p 3)) (.p 0))) (.d 8) (.d 12))) (.cons (.C 14 (.Y (.Z (.cons (.L (.cons .X (.cons (.new 0 27 (.cons (.M ⟨#[100,111,117,98,108,101]⟩) (.cons (.d 2) (.cons .dN .nil)))) .nil))) (.cons (.L (.cons .X (.cons (.new 0 27 (.cons (.M ⟨#[100,111,117,98,108,101]⟩) (.cons (.d 13) (.cons .dN .nil)))) .nil))) .nil))))) (.cons (.C 9 (.cZ 94 [14] (.call 80 (.cons .X (.cons (.d 14) (.cons .X .nil)))))) (.cons (.iff (.D (.ag .ne (.call 87 (.cons (.d 13) .nil)) (.d 13))) (.cons (.ret (.ag .eq (.d 9) (.M ⟨#[39,118,101,99,39,32,109,117,115,116,32,98,101,32,115,111,114,116,101,100,32,110,111,110,45,100,101,99,114,101,97,115,105,110,103,108,121,32,97,110,100,32,110,111,116,32,99,111,110,116,97,105,110,32,78,65,115]⟩))) .nil) .nil) (.cons (.ret (.ag .eq (.J (.d 9) 1) (.comp 21 (.D (.d 2)) .no (.ite (.D (.call 86 (.cons (.d 21) .nil))) .X (.b1 .len (.comp 22 (.D (.d 13)) (.D (.D (.ag .le (.call 85 (.cons (.d 22) (.cons (.d 21) .nil))) (.p 0)))) (.d 22))))))) .nil)))))))))))))))))))) (LS (.o (iV s)) (.U (iV l)) (.j (.o (xs.map wv))) (vi w) (.U (cut.map wv))) x C t X):
 ex G yB (LS (.o (iV s))) x C t X:=by
 refine gw (λl=>(LS (.o (iV s)) (.U (iV l)))) (λ_=>True) (λx h=>H.c 82 rfl _ _ _ (Aj λl'=>h l' trivial)) ?_;intro l _;refine gw (λp:List It×List Int=>(LS (.o (iV s)) (.U (iV p.2)) (.j (.o (p.1.map wv))))) (λp=>(∀I∈p.1,ip true I)∧p.1.length<9) (λx h=>oq (gv (tH H (by decide) (N:=λn=>n<9) (λn=>zl 0xa47fbed766a rfl) (st:=λl S=>[.j (.o (iV s)),(.U (iV l)),.y,.y,.y,.y,.y,.y,.y,.y,.y,.y,.y,.y,.y,S,.y,.y,.y,.y,.y,.y,.y]) (λ_ _=>rfl) (λ_ _=>rfl) (λ_ _ _=>rfl) (λ_ _ _=>rfl) (λk K=>uP H rfl (by decide) (by decide) λitems l' f _=>K items l' f) λJ l' f M=>h (J,l') ⟨M,f⟩))) ?_;rintro⟨xs,l⟩ ⟨Q,L⟩;refine gw (λp:Int×List Int=>(LS (.o (iV s)) (.U (iV p.2)) (.j (.o (xs.map wv))) (vi p.1))) (λ_=>True) (λx h=>H.c 81 rfl _ _ _ (bc λi l'=>⟨by decide,h (i.fmod 8,l') trivial⟩)) ?_;rintro⟨w,l⟩ _;refine gw (λp:List It×List Int=>(LS (.o (iV s)) (.U (iV p.2)) (.j (.o (xs.map wv))) (vi w) (.U (p.1.map wv)))) (λp=>iW p.1) (λx h=>DO H λcut l c=>h (cut,l) c) ?_;rintro⟨cut,l⟩ c;exact h xs cut w l Q (le_of_lt_succ L) c
noncomputable abbrev aN(xs:List It)(bs:List PR)(right closed:Bool):List V:=xs.map (iD bs right closed)
theorem oB:∀v∈aN xs bs right closed,Sc v:=by
 intro v H;obtain⟨I,_,rfl⟩:=mem_map.mp H;cases I with
 |na=>exact .inl rfl
 |lH=>exact .inl rfl
 |nu x=>
  show Sc (DF bs right closed x);unfold DF;split
  ·exact .inr (.inl ⟨_,rfl⟩)
  ·split
   ·exact .inr (.inl ⟨_,rfl⟩)
   ·split
    ·exact .inr (.inl ⟨_,rfl⟩)
    ·exact .inl rfl
theorem Jv{xs:List It}:∀v∈xs.map (zB bs),Sc v:=by
 intro v H;obtain⟨I,_,rfl⟩:=mem_map.mp H;cases I with
 |na=>exact .inl rfl
 |lH=>exact .inl rfl
 |nu x=>exact .inr (.inl ⟨_,rfl⟩)
theorem nD{ts:List Str}(h:∀t∈ts,Tx n t):∀v∈ts.map V.str,Sc v:=by
 intro v H;obtain⟨t,T,rfl⟩:=mem_map.mp H;exact .inr (.inr ⟨t,rfl,(h t T).strOk⟩)
theorem Lg(H:∀k,k x ρ1→ev G a ρ k X)(hb:ev G b ρ1 (λy ρ=>qn o x.v y.v λc=>k (.j (.bool c)) ρ) X):ev G (.ag o a b) ρ k X:=H _ hb
theorem I6{Y:Type}(st:Y→R)(h:∀k,(∀b l',k b (st l'))→tr G t ρ k X)(h1:∀l',ev G a (st l') k X)(h2:∀l',ev G b (st l') k X):ev G (.ite t a b) ρ k X:=h _ λc l'=>by
 cases c
 ·exact h2 l'
 ·exact h1 l'
theorem JO(H:Sub 93 G)(L:∀I∈xs,ip true I)(J:xs.length≤8)(ok:GK bs)(C:cut=ps.map .nu)(p0:ps≠[])(d:∀p∈ps,aM p)(f:ps.length≤100)(m:∀ρ,M (.j (.bool true)) (.j s::ρ)):
 ex G (.cons (.C 12 (.Y (.sl (.d 4) .no .no))) (.cons (.C 13 (.ite (.D (.ag .gt (.w .fmod (.P 81 1 .nil) (.p 3)) (.p 0))) (.d 8) (.d 12))) (.cons (.C 14 (.Y (.Z (.cons (.L (.cons .X (.cons (.new 0 27 (.cons (.M ⟨#[100,111,117,98,108,101]⟩) (.cons (.d 2) (.cons .dN .nil)))) .nil))) (.cons (.L (.cons .X (.cons (.new 0 27 (.cons (.M ⟨#[100,111,117,98,108,101]⟩) (.cons (.d 13) (.cons .dN .nil)))) .nil))) .nil))))) (.cons (.C 9 (.cZ 94 [14] (.call 80 (.cons .X (.cons (.d 14) (.cons .X .nil)))))) (.cons (.iff (.D (.ag .ne (.call 87 (.cons (.d 13) .nil)) (.d 13))) (.cons (.ret (.ag .eq (.d 9) (.M ⟨#[39,118,101,99,39,32,109,117,115,116,32,98,101,32,115,111,114,116,101,100,32,110,111,110,45,100,101,99,114,101,97,115,105,110,103,108,121,32,97,110,100,32,110,111,116,32,99,111,110,116,97,105,110,32,78,65,115]⟩))) .nil) .nil) (.cons (.ret (.ag .eq (.J (.d 9) 1) (.comp 21 (.D (.d 2)) .no (.ite (.D (.call 86 (.cons (.d 21) .nil))) .X (.b1 .len (.comp 22 (.D (.d 13)) (.D (.D (.ag .le (.call 85 (.cons (.d 22) (.cons (.d 21) .nil))) (.p 0)))) (.d 22))))))) .nil)))))) (Lq s l xs cut w right closed t (.j (.o (bs.map ah))) (.j U) Q u) Y j M X:=by
 have S:aA=1000000:=rfl;refine aw (v:=.j (.o (cut.map wv))) (ρ1:=(Lq s l xs cut w right closed t (.j (.o (bs.map ah))) (.j U) Q u)) (λk K=> ?_) (aa rfl) ?_
 ·show k (.j (.o (((cut.map wv).take (cut.map wv).length).drop 0))) _
  rw[take_length,drop_zero];exact K
 refine gw (λp:List PR×List Int=>(Lq s p.2 xs cut w right closed t (.j (.o (bs.map ah))) (.j U) Q u (.j (.o (cut.map wv))) (.j (.o (p.1.map ah))))) (λp=>p.1≠[]∧(∀q∈p.1,aM q)∧p.1.length≤100) (λY h=>oq (I6 (λl=>(Lq s l xs cut w right closed t (.j (.o (bs.map ah))) (.j U) Q u (.j (.o (cut.map wv))))) (λk K=>H.c 81 rfl _ _ _ (bc λi l'=>⟨by decide,K _ l'⟩)) (λl'=>h (bs,l') ⟨λz=>by have:=ok.vz;have z:bs=[]:=z;rw[z]at this;simp at this,ok.num,ok.Dz⟩) λl'=> ?_)) ?_
 ·have:=h (ps,l') ⟨p0,d,f⟩
  have e:(ps.map ah)=cut.map wv:=by rw[C,map_map];rfl
  rw[e]at this;exact this
 rintro⟨F,l⟩ ⟨Z,fn,yR⟩;have yR:F.length≤100:=yR;have fn:=fn;have Z:F≠[]:=Z;refine bM (ρ':=(Lq s l xs cut w right closed t (.j (.o (bs.map ah))) (.j U) Q u (.j (.o (cut.map wv))) (.j (.o (F.map ah))) (.j (.o ([((none:Option Str),cp xs),((none:Option Str),gP aW (.o (F.map ah)) .none)].map aX))))) (λY h=>H.c 27 rfl _ _ _ (dm ⟨af rfl,H.c 27 rfl _ _ _ (dm ⟨af rfl,af rfl,h⟩)⟩)) ?_;refine gw (λv=>(Lq s l xs cut w right closed t (.j (.o (bs.map ah))) (.j v) Q u (.j (.o (cut.map wv))) (.j (.o (F.map ah))) (.j (.o ([((none:Option Str),cp xs),((none:Option Str),gP aW (.o (F.map ah)) .none)].map aX))))) (λv=>(aI F=F→v=gP aS (.o (xs.map (zB F))) .none)∧(aI F≠F→v=.str mV)) (λY h=>H.c 80 rfl _ _ _ (Ic L (zl 0xa47fbecfd5f rfl J) fn yR Z (λz=>h _ ⟨λ_=>rfl,λy=>absurd z y⟩) λz=>h _ ⟨λy=>absurd y z,λ_=>rfl⟩)) ?_;rintro v ⟨v1,A⟩;refine ai (λk K=>H.c 87 rfl _ _ _ (gD fn (by lia) (gE (k:=λc=>k c (Lq s l xs cut w right closed t (.j (.o (bs.map ah))) (.j v) Q u (.j (.o (cut.map wv))) (.j (.o (F.map ah))) (.j (.o ([((none:Option Str),cp xs),((none:Option Str),gP aW (.o (F.map ah)) .none)].map aX))))) (Bq (aI F) F) K))) (λq=> ?_) λq=>ae ?_
 ·have z:aI F≠F:=λz=>by rw[decide_eq_true z]at q;cases q
  rw[A z];exact CR rfl rfl (m _)
 ·have z:aI F=F:=by
   by_cases z:aI F=F
   ·exact z
   ·rw[decide_eq_false z]at q;cases q
  rw[v1 z];refine iJ (Lg (λ_ h=>h) (fC (λ_ h=>h) (by rw[length_map];exact zl 0x29d4ecdc00e2927fd5f rfl J S) (aa rfl) (λv=>zB F (KI v)) ?_ ?_))
  ·intro v R k K
   obtain⟨I,N,rfl⟩:=mem_map.mp R;rw[tM (L I N)]at K;refine bx (λk K=>lC H rfl (L I N) K) (λq=> ?_) λq=> ?_
   ·refine K (.j .none) ?_
    cases I with|nu p=>cases q|na=>rfl|lH=>rfl
   ·cases I with
    |na=>cases q
    |lH=>cases q
    |nu x=>
     refine vQ (j6 (λ_ h=>h) (by rw[length_map];lia) (aa rfl) (Nc x) (λv=>v) ?_ (λv _ _ k K=>K _ rfl) ?_)
     ·intro v R k K
      obtain⟨b,g,rfl⟩:=mem_map.mp R;exact H.c 85 rfl _ _ _ (iv (fn b g) (L _ N).1.num K)
     ·show k (.j (.int (((_:List V).length:Nat):Int))) _
      rw[yp];exact K _ rfl
  ·rw[wg L]
   exact cY (dX Jv) (m _)
noncomputable def mK:Str:=⟨#[107]⟩
theorem MF(H:Sub 93 G){xs cut:List It}{bs:List PR}{w:Int}{right closed:Bool}{U:V}(Q:∀I∈xs,ip true I)(L:xs.length≤8)(C:iW cut)(hb:brk xs cut=.inr bs)(m:∀ρ,f (.j (.bool true)) (.j s::ρ)):
 ex G (.cons (.C 11 (.Y (.comp 20 (.eX (.cons (.w .add (.p 1) (.w .fmod (.P 81 1 .nil) (.p 5))) .nil)) .no (.w .add (.M ⟨#[107]⟩) (.b1 .str (.d 20)))))) (.cons (.C 9 (.cZ 94 [7,11] (.call 79 (.cons .X (.cons (.w .add (.d 7) (.Z (.cons (.L (.cons (.M ⟨#[108,97,98,101,108,115]⟩) (.cons (.new 0 27 (.cons (.M ⟨#[99,104,97,114,97,99,116,101,114]⟩) (.cons (.d 11) (.cons .dN .nil)))) .nil))) (.cons (.L (.cons (.M ⟨#[111,114,100,101,114,101,100,95,114,101,115,117,108,116]⟩) (.cons (.call 32 (.cons (.cB true) .nil)) .nil))) .nil)))) (.cons .X .nil)))))) (.cons (.iff (.D (.ag .ne (.b1 .len (.d 11)) (.w .sub (.b1 .len (.d 8)) (.p 1)))) (.cons (.iff (.D (.ag .ne (.d 9) (.M ⟨#[110,117,109,98,101,114,32,111,102,32,105,110,116,101,114,118,97,108,115,32,97,110,100,32,108,101,110,103,116,104,32,111,102,32,39,108,97,98,101,108,115,39,32,100,105,102,102,101,114]⟩))) (.cons (.ret (.cB false)) .nil) .nil) .nil) (.cons (.iff (.cD (.cons (.D (.ag .ne (.call 75 (.cons (.d 9) .nil)) (.d 11))) (.cons (.D (.ag .ne (.J (.d 9) 1) (.d 10))) (.cons (.D (.ag .ne (.J (.sub (.J (.d 9) 2) (.M ⟨#[99,108,97,115,115]⟩)) 1) (.Z (.cons (.M ⟨#[111,114,100,101,114,101,100]⟩) (.cons (.M ⟨#[102,97,99,116,111,114]⟩) .nil))))) .nil)))) (.cons (.ret (.cB false)) .nil) .nil) .nil)) (.cons (.C 12 (.Y (.sl (.d 4) .no .no))) (.cons (.C 13 (.ite (.D (.ag .gt (.w .fmod (.P 81 1 .nil) (.p 3)) (.p 0))) (.d 8) (.d 12))) (.cons (.C 14 (.Y (.Z (.cons (.L (.cons .X (.cons (.new 0 27 (.cons (.M ⟨#[100,111,117,98,108,101]⟩) (.cons (.d 2) (.cons .dN .nil)))) .nil))) (.cons (.L (.cons .X (.cons (.new 0 27 (.cons (.M ⟨#[100,111,117,98,108,101]⟩) (.cons (.d 13) (.cons .dN .nil)))) .nil))) .nil))))) (.cons (.C 9 (.cZ 94 [14] (.call 80 (.cons .X (.cons (.d 14) (.cons .X .nil)))))) (.cons (.iff (.D (.ag .ne (.call 87 (.cons (.d 13) .nil)) (.d 13))) (.cons (.ret (.ag .eq (.d 9) (.M ⟨#[39,118,101,99,39,32,109,117,115,116,32,98,101,32,115,111,114,116,101,100,32,110,111,110,45,100,101,99,114,101,97,115,105,110,103,108,121,32,97,110,100,32,110,111,116,32,99,111,110,116,97,105,110,32,78,65,115]⟩))) .nil) .nil) (.cons (.ret (.ag .eq (.J (.d 9) 1) (.comp 21 (.D (.d 2)) .no (.ite (.D (.call 86 (.cons (.d 21) .nil))) .X (.b1 .len (.comp 22 (.D (.d 13)) (.D (.D (.ag .le (.call 85 (.cons (.d 22) (.cons (.d 21) .nil))) (.p 0)))) (.d 22))))))) .nil))))))))) (Lq s l xs cut w right closed (.j (.o ((aV xs cut right closed).map aX))) (.j (.o (bs.map ah))) (.j U) (.j (.o (aN xs bs right closed)))) Y g f X:=by
 have d:aA=1000000:=rfl;have ok:=pT Q C hb;have o:=ok.vz;obtain⟨ps,P,p0,N,Z⟩:=Ft C hb;refine gw (λp:List Str×List Int=>(Lq s p.2 xs cut w right closed (.j (.o ((aV xs cut right closed).map aX))) (.j (.o (bs.map ah))) (.j U) (.j (.o (aN xs bs right closed))) (.j (.o (p.1.map V.str))))) (λp=>p.1.length≤6∧∀t∈p.1,Tx 30 t) (λY h=>oq (gv (yk (j:=20) V.str (Tx 30) (λv=>∃i,v=.int i∧0≤i∧i<60) (λn=>n≤6) (λρ=>∃l S,fu S∧ρ=[.j s,.U (iV l),.j (.o (xs.map wv)),vi w,.j (.o (cut.map wv)),.j (.bool right),.j (.bool closed),.j (.o ((aV xs cut right closed).map aX)),.j (.o (bs.map ah)),.j U,.j (.o (aN xs bs right closed)),.y,.y,.y,.y,.y,.y,.y,.y,.y,S,.y,.y]) (λn O=>zl 0xa47fbec0b5f rfl O) (λk K=>q8 H (l:=l) rfl (by decide) (by decide) (by decide) (by decide) λitems l' h1 h2 h3=>K items _ (by change items.length<6 at h2;exact zl 396197628778 rfl h2) h3 ⟨l',.y,.inl rfl,rfl⟩) (λρ⟨l,S,B,e⟩=>by subst e;exact aq rfl B) ?_ ?_))) ?_
 ·rintro ρ v ⟨l,S,B,rfl⟩ ⟨i,rfl,E,A⟩ k K
  have M:=jT (k:=2) (by decide) (zl 0xa5068b320cab881d rfl E A);have tk:=bu 107 (by decide);exact⟨bg (i:=10) (zl 0xa05a2b8448cab881d rfl E A) (by decide),sU tk M rfl,K (mK++aG i) (.j (.str (mK++aG i))) _ ((tk.add M).le (by decide)) rfl ⟨l,vi i,.inr ⟨_,rfl⟩,rfl⟩⟩
 ·rintro as ρ' h6 W ⟨l,S,B,rfl⟩
  exact h (as,l) ⟨h6,W⟩
 rintro⟨ts,l⟩ ⟨T,D⟩;have T:=T;have D:∀t∈ts,Tx 30 t:=D;refine gw (λv=>(Lq s l xs cut w right closed (.j (.o ((aV xs cut right closed).map aX))) (.j (.o (bs.map ah))) (.j v) (.j (.o (aN xs bs right closed))) (.j (.o (ts.map V.str))))) (λv=>(ts.length+1≠bs.length→v=.str JH)∧(ts.length+1=bs.length→v=iK (aN xs bs right closed) ts true)) (λY h=>H.c 27 rfl _ _ _ (dm ⟨af rfl,H.c 32 rfl _ _ _ (pN ⟨af rfl,af rfl,af rfl,?_⟩)⟩)) ?_
 ·exact H.c 79 rfl _ _ _ (IG (xs:=xs) (cut:=cut) (right:=right) (closed:=closed) (ts:=ts) Q (zl 0xa47fbecfd5f rfl L) C hb (Nat.le_trans T (by decide)) (λz=>h (.str JH) ⟨λ_=>rfl,λy=>absurd y z⟩) λz=>h (iK (aN xs bs right closed) ts true) ⟨λy=>absurd z y,λ_=>rfl⟩)
 rintro v ⟨v1,u⟩;have a9:∀v,ex G (.cons (.C 12 (.Y (.sl (.d 4) .no .no))) (.cons (.C 13 (.ite (.D (.ag .gt (.w .fmod (.P 81 1 .nil) (.p 3)) (.p 0))) (.d 8) (.d 12))) (.cons (.C 14 (.Y (.Z (.cons (.L (.cons .X (.cons (.new 0 27 (.cons (.M ⟨#[100,111,117,98,108,101]⟩) (.cons (.d 2) (.cons .dN .nil)))) .nil))) (.cons (.L (.cons .X (.cons (.new 0 27 (.cons (.M ⟨#[100,111,117,98,108,101]⟩) (.cons (.d 13) (.cons .dN .nil)))) .nil))) .nil))))) (.cons (.C 9 (.cZ 94 [14] (.call 80 (.cons .X (.cons (.d 14) (.cons .X .nil)))))) (.cons (.iff (.D (.ag .ne (.call 87 (.cons (.d 13) .nil)) (.d 13))) (.cons (.ret (.ag .eq (.d 9) (.M ⟨#[39,118,101,99,39,32,109,117,115,116,32,98,101,32,115,111,114,116,101,100,32,110,111,110,45,100,101,99,114,101,97,115,105,110,103,108,121,32,97,110,100,32,110,111,116,32,99,111,110,116,97,105,110,32,78,65,115]⟩))) .nil) .nil) (.cons (.ret (.ag .eq (.J (.d 9) 1) (.comp 21 (.D (.d 2)) .no (.ite (.D (.call 86 (.cons (.d 21) .nil))) .X (.b1 .len (.comp 22 (.D (.d 13)) (.D (.D (.ag .le (.call 85 (.cons (.d 22) (.cons (.d 21) .nil))) (.p 0)))) (.d 22))))))) .nil)))))) (Lq s l xs cut w right closed (.j (.o ((aV xs cut right closed).map aX))) (.j (.o (bs.map ah))) (.j v) (.j (.o (aN xs bs right closed))) (.j (.o (ts.map V.str)))) Y g f X:=λv=>JO H Q L ok P p0 N Z m;refine ai (b:= !decide (((ts.map V.str).length:Nat)=(((bs.map ah).length:Nat):Int)-1)) (ρ':=(Lq s l xs cut w right closed (.j (.o ((aV xs cut right closed).map aX))) (.j (.o (bs.map ah))) (.j v) (.j (.o (aN xs bs right closed))) (.j (.o (ts.map V.str))))) (λk K=>K) (λq=> ?_) λq=> ?_
 ·rw[List.length_map,List.length_map]at q
  have z:ts.length+1≠bs.length:=λz=>by
   rw[decide_eq_true (show((ts.length:Nat):Int)=((bs.length:Nat):Int)-1 from zl 0x5e6a945e7d49b6 rfl z)]at q;cases q
  have e:=v1 z;subst e;exact ai (b:=false) (ρ':=(Lq s l xs cut w right closed (.j (.o ((aV xs cut right closed).map aX))) (.j (.o (bs.map ah))) (.j (.str JH)) (.j (.o (aN xs bs right closed))) (.j (.o (ts.map V.str))))) (λk K=>uH (a:=JH) (b:=JH) rfl rfl (λ_ h=>h) (λ_ h=>h) K) (λq=>by cases q) λ_=>ae (ae (a9 _))
 ·rw[List.length_map,List.length_map]at q
  have z:ts.length+1=bs.length:=by
   by_cases w:((ts.length:Nat):Int)=((bs.length:Nat):Int)-1
   ·exact zl 0x59c4ab45534e6b rfl w
   ·rw[decide_eq_false w]at q;cases q
  have e:=u z;subst e;refine ai (b:=false) (ρ':=(Lq s l xs cut w right closed (.j (.o ((aV xs cut right closed).map aX))) (.j (.o (bs.map ah))) (.j (iK (aN xs bs right closed) ts true)) (.j (.o (aN xs bs right closed))) (.j (.o (ts.map V.str))))) (λk K=>d8 (b:=false) (ρ':=(Lq s l xs cut w right closed (.j (.o ((aV xs cut right closed).map aX))) (.j (.o (bs.map ah))) (.j (iK (aN xs bs right closed) ts true)) (.j (.o (aN xs bs right closed))) (.j (.o (ts.map V.str))))) (λk K=>H.c 75 rfl _ _ _ (jt (Nat.le_trans T (by decide)) (gE (x:=.o (ts.map V.str)) (y:=.o (ts.map V.str)) (k:=λc=>k c (Lq s l xs cut w right closed (.j (.o ((aV xs cut right closed).map aX))) (.j (.o (bs.map ah))) (.j (iK (aN xs bs right closed) ts true)) (.j (.o (aN xs bs right closed))) (.j (.o (ts.map V.str))))) (b:=true) (dX (nD D)) K))) (λq=>by cases q) λ_=>d8 (b:=false) (ρ':=(Lq s l xs cut w right closed (.j (.o ((aV xs cut right closed).map aX))) (.j (.o (bs.map ah))) (.j (iK (aN xs bs right closed) ts true)) (.j (.o (aN xs bs right closed))) (.j (.o (ts.map V.str))))) (λk K=>gE (x:=.o (aN xs bs right closed)) (y:=.o (aN xs bs right closed)) (k:=λc=>k c (Lq s l xs cut w right closed (.j (.o ((aV xs cut right closed).map aX))) (.j (.o (bs.map ah))) (.j (iK (aN xs bs right closed) ts true)) (.j (.o (aN xs bs right closed))) (.j (.o (ts.map V.str))))) (b:=true) (dX oB) K) (λq=>by cases q) λ_=>gz (b:=false) (ρ':=(Lq s l xs cut w right closed (.j (.o ((aV xs cut right closed).map aX))) (.j (.o (bs.map ah))) (.j (iK (aN xs bs right closed) ts true)) (.j (.o (aN xs bs right closed))) (.j (.o (ts.map V.str))))) (λk K=>⟨af rfl,gE (x:=.o ((wG true).map V.str)) (y:=.o ((wG true).map V.str)) (k:=λc=>k c (Lq s l xs cut w right closed (.j (.o ((aV xs cut right closed).map aX))) (.j (.o (bs.map ah))) (.j (iK (aN xs bs right closed) ts true)) (.j (.o (aN xs bs right closed))) (.j (.o (ts.map V.str))))) (b:=true) (dX (l:=(wG true).map V.str) (nD (n:=100) ?_)) K⟩) (λq=>by cases q) λ_=>K) (λq=>by cases q) λ_=>ae (ae (a9 _));intro t J;change t∈[Ke,nH]at J;simp only[List.mem_cons,List.not_mem_nil,or_false]at J;rcases J with rfl|rfl
  ·exact⟨by decide,by decide⟩
  ·exact⟨by decide,by decide⟩
noncomputable def QC:V→V
|.L [_,.int d]=>.bool (decide (d<2))
|_=>.none
theorem JY(g:Sub 93 G)(H:∀I∈xs,ip true I)(L:xs.length≤8)(C:iW cut)(hb:brk xs cut=.inr bs)(m:∀ρ,Y (.j (.bool true)) (.j s::ρ)):
 ex G (.cons (.C 10 (.Y (.comp 18 (.D (.d 2)) .no (.call 90 (.cons (.d 18) (.cons (.d 8) (.cons (.d 5) (.cons (.d 6) .nil)))))))) (.cons (.iff (.cD (.cons (.D (.ag .ne (.J (.d 9) 0) (.M ⟨#[105,110,116,101,103,101,114]⟩))) (.cons (.D (.ag .ne (.J (.d 9) 1) (.d 10))) (.cons (.D (.ag .dr (.J (.d 9) 2) .X)) .nil)))) (.cons (.ret (.cB false)) .nil) .nil) (.cons (.C 9 (.call 79 (.cons .X (.cons (.d 7) (.cons .X .nil))))) (.cons (.iff (.cD (.cons (.D (.ag .ne (.J (.d 9) 1) (.d 10))) (.cons (.D (.ag .ne (.J (.sub (.J (.d 9) 2) (.M ⟨#[99,108,97,115,115]⟩)) 1) (.Z (.cons (.M ⟨#[102,97,99,116,111,114]⟩) .nil)))) .nil))) (.cons (.ret (.cB false)) .nil) .nil) (.cons (.iff (.Q (.cons (.D (.ag .eQ (.cB false) (.comp 19 (.D (.d 8)) .no (.ag .lt (.sub (.d 19) (.p 1)) (.p 2))))) (.cons (.D (.ag .ne (.call 75 (.cons (.d 9) .nil)) (.call 92 (.cons (.d 8) (.cons (.d 5) (.cons (.d 6) .nil)))))) .nil))) (.cons (.ret (.cB false)) .nil) .nil) (.cons (.C 11 (.Y (.comp 20 (.eX (.cons (.w .add (.p 1) (.w .fmod (.P 81 1 .nil) (.p 5))) .nil)) .no (.w .add (.M ⟨#[107]⟩) (.b1 .str (.d 20)))))) (.cons (.C 9 (.cZ 94 [7,11] (.call 79 (.cons .X (.cons (.w .add (.d 7) (.Z (.cons (.L (.cons (.M ⟨#[108,97,98,101,108,115]⟩) (.cons (.new 0 27 (.cons (.M ⟨#[99,104,97,114,97,99,116,101,114]⟩) (.cons (.d 11) (.cons .dN .nil)))) .nil))) (.cons (.L (.cons (.M ⟨#[111,114,100,101,114,101,100,95,114,101,115,117,108,116]⟩) (.cons (.call 32 (.cons (.cB true) .nil)) .nil))) .nil)))) (.cons .X .nil)))))) (.cons (.iff (.D (.ag .ne (.b1 .len (.d 11)) (.w .sub (.b1 .len (.d 8)) (.p 1)))) (.cons (.iff (.D (.ag .ne (.d 9) (.M ⟨#[110,117,109,98,101,114,32,111,102,32,105,110,116,101,114,118,97,108,115,32,97,110,100,32,108,101,110,103,116,104,32,111,102,32,39,108,97,98,101,108,115,39,32,100,105,102,102,101,114]⟩))) (.cons (.ret (.cB false)) .nil) .nil) .nil) (.cons (.iff (.cD (.cons (.D (.ag .ne (.call 75 (.cons (.d 9) .nil)) (.d 11))) (.cons (.D (.ag .ne (.J (.d 9) 1) (.d 10))) (.cons (.D (.ag .ne (.J (.sub (.J (.d 9) 2) (.M ⟨#[99,108,97,115,115]⟩)) 1) (.Z (.cons (.M ⟨#[111,114,100,101,114,101,100]⟩) (.cons (.M ⟨#[102,97,99,116,111,114]⟩) .nil))))) .nil)))) (.cons (.ret (.cB false)) .nil) .nil) .nil)) (.cons (.C 12 (.Y (.sl (.d 4) .no .no))) (.cons (.C 13 (.ite (.D (.ag .gt (.w .fmod (.P 81 1 .nil) (.p 3)) (.p 0))) (.d 8) (.d 12))) (.cons (.C 14 (.Y (.Z (.cons (.L (.cons .X (.cons (.new 0 27 (.cons (.M ⟨#[100,111,117,98,108,101]⟩) (.cons (.d 2) (.cons .dN .nil)))) .nil))) (.cons (.L (.cons .X (.cons (.new 0 27 (.cons (.M ⟨#[100,111,117,98,108,101]⟩) (.cons (.d 13) (.cons .dN .nil)))) .nil))) .nil))))) (.cons (.C 9 (.cZ 94 [14] (.call 80 (.cons .X (.cons (.d 14) (.cons .X .nil)))))) (.cons (.iff (.D (.ag .ne (.call 87 (.cons (.d 13) .nil)) (.d 13))) (.cons (.ret (.ag .eq (.d 9) (.M ⟨#[39,118,101,99,39,32,109,117,115,116,32,98,101,32,115,111,114,116,101,100,32,110,111,110,45,100,101,99,114,101,97,115,105,110,103,108,121,32,97,110,100,32,110,111,116,32,99,111,110,116,97,105,110,32,78,65,115]⟩))) .nil) .nil) (.cons (.ret (.ag .eq (.J (.d 9) 1) (.comp 21 (.D (.d 2)) .no (.ite (.D (.call 86 (.cons (.d 21) .nil))) .X (.b1 .len (.comp 22 (.D (.d 13)) (.D (.D (.ag .le (.call 85 (.cons (.d 22) (.cons (.d 21) .nil))) (.p 0)))) (.d 22))))))) .nil)))))))))))))) (Lq s l xs cut w right closed (.j (.o ((aV xs cut right closed).map aX))) (.j (.o (bs.map ah))) (.j (gP aS (.o (aN xs bs right closed)) .none))) D U Y X:=by
 have S:aA=1000000:=rfl;have ok:=pT H C hb;have o:=ok.vz;have F:=ok.Dz;refine aw (v:=.j (.o (aN xs bs right closed))) (ρ1:=(Lq s l xs cut w right closed (.j (.o ((aV xs cut right closed).map aX))) (.j (.o (bs.map ah))) (.j (gP aS (.o (aN xs bs right closed)) .none)))) (λk K=>gv (fC (items:=xs.map wv) (λ_ h=>h) (by rw[List.length_map];exact zl 0x29d4ecdc00e2927fd5f rfl L S) (aa rfl) (λv=>iD bs right closed (KI v)) ?_ ?_)) (aa rfl) ?_
 ·intro v R k K
  obtain⟨I,i,rfl⟩:=List.mem_map.mp R;refine g.c 90 rfl _ _ _ (vR (H I i) ok.num F (λz=>by rw[z]at o;simp at o) (K _ ?_));rw[tM (H I i)];rfl
 ·rw[wg H]
  exact K
 refine ai (b:=false) (λk K=>d8 (b:=false) (λk K=>uH (a:=aS) (b:=aS) rfl rfl (λ_ h=>h) (λ_ h=>h) K) (λq=>by cases q) λ_=>d8 (b:=false) (λk K=>(gE (x:=.o (aN xs bs right closed)) (y:=.o (aN xs bs right closed)) (k:=λc=>k c (Lq s l xs cut w right closed (.j (.o ((aV xs cut right closed).map aX))) (.j (.o (bs.map ah))) (.j (gP aS (.o (aN xs bs right closed)) .none)) (.j (.o (aN xs bs right closed))))) (b:=true) (dX oB) K)) (λq=>by cases q) λ_=>gz (b:=false) (λ_ h=>h) (λq=>by cases q) λ_=>K) (λq=>by cases q) λ_=>ae ?_;refine gw (λls:List Str=>(Lq s l xs cut w right closed (.j (.o ((aV xs cut right closed).map aX))) (.j (.o (bs.map ah))) (.j (iK (aN xs bs right closed) ls false)) (.j (.o (aN xs bs right closed))))) (λls=>ls.length+1=bs.length∧(∀t∈ls,Tx 1300 t)∧(jF bs→ls=bH right closed (bs.map a5))) (λD h=>g.c 79 rfl _ _ _ (HV (xs:=xs) (cut:=cut) (right:=right) (closed:=closed) H (zl 0xa47fbecfd5f rfl L) C hb λls a b c=>h ls ⟨a,b,c⟩)) ?_;rintro ls ⟨J,Q,W⟩;refine ai (b:=false) (λk K=>d8 (b:=false) (λk K=>(gE (x:=.o (aN xs bs right closed)) (y:=.o (aN xs bs right closed)) (k:=λc=>k c (Lq s l xs cut w right closed (.j (.o ((aV xs cut right closed).map aX))) (.j (.o (bs.map ah))) (.j (iK (aN xs bs right closed) ls false)) (.j (.o (aN xs bs right closed))))) (b:=true) (dX oB) K)) (λq=>by cases q) λ_=>gz (b:=false) (λk K=>⟨af rfl,gE (x:=.o ((wG false).map V.str)) (y:=.o ((wG false).map V.str)) (b:=true) (dX (l:=(wG false).map V.str) (nD (n:=100) ?_)) K⟩) (λq=>by cases q) λ_=>K) (λq=>by cases q) λ_=>ae ?_
 ·intro t T
  change t∈[nH]at T;simp only[List.mem_cons,List.not_mem_nil,or_false]at T;subst T;exact⟨by decide,by decide⟩
 refine ai (b:=false) (λk K=>aU (b:= !decide (false∈bs.map λp=>decide (p.2<2))) (ρ':=(Lq s l xs cut w right closed (.j (.o ((aV xs cut right closed).map aX))) (.j (.o (bs.map ah))) (.j (iK (aN xs bs right closed) ls false)) (.j (.o (aN xs bs right closed))))) (λk K=>He (fC (items:=bs.map ah) (λ_ h=>h) (by rw[List.length_map];exact zl 0x27ab66bdf6b19419da55 rfl S F) (aa rfl) QC ?_ ?_)) (λq=> ?_) λ_=>K) (λq=>by cases q) λ_=>ae ?_
 ·intro v R k K
  obtain⟨p,P,rfl⟩:=List.mem_map.mp R;exact K _ rfl
 ·have e:(bs.map ah).map QC=(bs.map λp=>decide (p.2<2)).map V.bool:=by rw[List.map_map,List.map_map];rfl
  rw[e];exact Fu (uu false _) K
 ·have wb:=zv H C hb λp P=>by
   by_cases z:p.2<2
   ·exact z
   ·rw[decide_eq_true (List.mem_map.mpr ⟨p,P,decide_eq_false z⟩)]at q
    cases q
  have e:=W wb;refine bO (b:=false) (λk K=>g.c 75 rfl _ _ _ (jt (zl 0xc3b584c86f8d47b1cf rfl F J) (g.c 92 rfl _ _ _ (sJ ok.num F ?_)))) (λq=>by cases q) λ_=>K;rw[←e];exact gE (x:=.o (ls.map V.str)) (y:=.o (ls.map V.str)) (b:=true) (dX (nD Q)) K
 ·exact MF g H L C hb m
theorem KW(H:Sub 93 G){s:V}{w:Int}(x:∀I∈xs,ip true I)(L:xs.length≤8)(C:iW cut)(y:∀ρ,Y (.j (.bool true)) (.j s::ρ)):
 ex G (.cons (.C 8 (.call 89 (.cons (.d 2) (.cons (.d 4) .nil)))) (.cons (.C 9 (.cZ 94 [7] (.call 79 (.cons .X (.cons (.w .add (.d 7) (.Z (.cons (.L (.cons (.M ⟨#[108,97,98,101,108,115]⟩) (.cons (.call 32 (.cons (.cB false) .nil)) .nil))) .nil))) (.cons .X .nil)))))) (.cons (.iff (.cD (.cons (.D (.tT (.d 8) 3)) (.cons (.D (.tT (.d 9) 3)) .nil))) (.cons (.ret (.ag .eq (.d 9) (.d 8))) .nil) .nil) (.cons (.C 10 (.Y (.comp 18 (.D (.d 2)) .no (.call 90 (.cons (.d 18) (.cons (.d 8) (.cons (.d 5) (.cons (.d 6) .nil)))))))) (.cons (.iff (.cD (.cons (.D (.ag .ne (.J (.d 9) 0) (.M ⟨#[105,110,116,101,103,101,114]⟩))) (.cons (.D (.ag .ne (.J (.d 9) 1) (.d 10))) (.cons (.D (.ag .dr (.J (.d 9) 2) .X)) .nil)))) (.cons (.ret (.cB false)) .nil) .nil) (.cons (.C 9 (.call 79 (.cons .X (.cons (.d 7) (.cons .X .nil))))) (.cons (.iff (.cD (.cons (.D (.ag .ne (.J (.d 9) 1) (.d 10))) (.cons (.D (.ag .ne (.J (.sub (.J (.d 9) 2) (.M ⟨#[99,108,97,115,115]⟩)) 1) (.Z (.cons (.M ⟨#[102,97,99,116,111,114]⟩) .nil)))) .nil))) (.cons (.ret (.cB false)) .nil) .nil) (.cons (.iff (.Q (.cons (.D (.ag .eQ (.cB false) (.comp 19 (.D (.d 8)) .no (.ag .lt (.sub (.d 19) (.p 1)) (.p 2))))) (.cons (.D (.ag .ne (.call 75 (.cons (.d 9) .nil)) (.call 92 (.cons (.d 8) (.cons (.d 5) (.cons (.d 6) .nil)))))) .nil))) (.cons (.ret (.cB false)) .nil) .nil) (.cons (.C 11 (.Y (.comp 20 (.eX (.cons (.w .add (.p 1) (.w .fmod (.P 81 1 .nil) (.p 5))) .nil)) .no (.w .add (.M ⟨#[107]⟩) (.b1 .str (.d 20)))))) (.cons (.C 9 (.cZ 94 [7,11] (.call 79 (.cons .X (.cons (.w .add (.d 7) (.Z (.cons (.L (.cons (.M ⟨#[108,97,98,101,108,115]⟩) (.cons (.new 0 27 (.cons (.M ⟨#[99,104,97,114,97,99,116,101,114]⟩) (.cons (.d 11) (.cons .dN .nil)))) .nil))) (.cons (.L (.cons (.M ⟨#[111,114,100,101,114,101,100,95,114,101,115,117,108,116]⟩) (.cons (.call 32 (.cons (.cB true) .nil)) .nil))) .nil)))) (.cons .X .nil)))))) (.cons (.iff (.D (.ag .ne (.b1 .len (.d 11)) (.w .sub (.b1 .len (.d 8)) (.p 1)))) (.cons (.iff (.D (.ag .ne (.d 9) (.M ⟨#[110,117,109,98,101,114,32,111,102,32,105,110,116,101,114,118,97,108,115,32,97,110,100,32,108,101,110,103,116,104,32,111,102,32,39,108,97,98,101,108,115,39,32,100,105,102,102,101,114]⟩))) (.cons (.ret (.cB false)) .nil) .nil) .nil) (.cons (.iff (.cD (.cons (.D (.ag .ne (.call 75 (.cons (.d 9) .nil)) (.d 11))) (.cons (.D (.ag .ne (.J (.d 9) 1) (.d 10))) (.cons (.D (.ag .ne (.J (.sub (.J (.d 9) 2) (.M ⟨#[99,108,97,115,115]⟩)) 1) (.Z (.cons (.M ⟨#[111,114,100,101,114,101,100]⟩) (.cons (.M ⟨#[102,97,99,116,111,114]⟩) .nil))))) .nil)))) (.cons (.ret (.cB false)) .nil) .nil) .nil)) (.cons (.C 12 (.Y (.sl (.d 4) .no .no))) (.cons (.C 13 (.ite (.D (.ag .gt (.w .fmod (.P 81 1 .nil) (.p 3)) (.p 0))) (.d 8) (.d 12))) (.cons (.C 14 (.Y (.Z (.cons (.L (.cons .X (.cons (.new 0 27 (.cons (.M ⟨#[100,111,117,98,108,101]⟩) (.cons (.d 2) (.cons .dN .nil)))) .nil))) (.cons (.L (.cons .X (.cons (.new 0 27 (.cons (.M ⟨#[100,111,117,98,108,101]⟩) (.cons (.d 13) (.cons .dN .nil)))) .nil))) .nil))))) (.cons (.C 9 (.cZ 94 [14] (.call 80 (.cons .X (.cons (.d 14) (.cons .X .nil)))))) (.cons (.iff (.D (.ag .ne (.call 87 (.cons (.d 13) .nil)) (.d 13))) (.cons (.ret (.ag .eq (.d 9) (.M ⟨#[39,118,101,99,39,32,109,117,115,116,32,98,101,32,115,111,114,116,101,100,32,110,111,110,45,100,101,99,114,101,97,115,105,110,103,108,121,32,97,110,100,32,110,111,116,32,99,111,110,116,97,105,110,32,78,65,115]⟩))) .nil) .nil) (.cons (.ret (.ag .eq (.J (.d 9) 1) (.comp 21 (.D (.d 2)) .no (.ite (.D (.call 86 (.cons (.d 21) .nil))) .X (.b1 .len (.comp 22 (.D (.d 13)) (.D (.D (.ag .le (.call 85 (.cons (.d 22) (.cons (.d 21) .nil))) (.p 0)))) (.d 22))))))) .nil))))))))))))))))) (Lq s l xs cut w right closed (.j (.o ((aV xs cut right closed).map aX)))) t U Y X:=by
 have S:aA=1000000:=rfl;have d:xs.length≤1000:=zl 0xa47fbecfd5f rfl L;cases hb:brk xs cut with
 |inl m=>
  have O:=DU hb;refine bM (ρ':=(Lq s l xs cut w right closed (.j (.o ((aV xs cut right closed).map aX))) (.j (.str m)))) (λt h=>H.c 89 rfl _ _ _ (ki x d C (by rw[hb];exact h))) ?_;refine bM (ρ':=(Lq s l xs cut w right closed (.j (.o ((aV xs cut right closed).map aX))) (.j (.str m)) (.j (.str m)))) (λt h=>H.c 32 rfl _ _ _ (pN ⟨af rfl,af rfl,af rfl,H.c 79 rfl _ _ _ (Dq (xs:=xs) (cut:=cut) (right:=right) (closed:=closed) x d C (λm' M=> ?_) λbs J=>by rw[hb]at J;cases J)⟩)) ?_
  ·rw[hb]at M;cases M;exact h
  refine ai (b:=true) (ρ':=(Lq s l xs cut w right closed (.j (.o ((aV xs cut right closed).map aX))) (.j (.str m)) (.j (.str m)))) (λk K=>d8 (b:=true) (ρ':=(Lq s l xs cut w right closed (.j (.o ((aV xs cut right closed).map aX))) (.j (.str m)) (.j (.str m)))) (λ_ h=>h) (λ_=>K) λq=>by cases q) (λ_=> ?_) λq=>by cases q
  refine CR (a:=m) (b:=m) (k:=λc=>Y (.j (.bool c)) (Lq s l xs cut w right closed (.j (.o ((aV xs cut right closed).map aX))) (.j (.str m)) (.j (.str m)))) O O ?_;rw[aD.mpr rfl];exact y _
 |inr bs=>
  refine bM (ρ':=(Lq s l xs cut w right closed (.j (.o ((aV xs cut right closed).map aX))) (.j (.o (bs.map ah))))) (λt h=>H.c 89 rfl _ _ _ (ki x d C (by rw[hb];exact h))) ?_;refine bM (ρ':=(Lq s l xs cut w right closed (.j (.o ((aV xs cut right closed).map aX))) (.j (.o (bs.map ah))) (.j (gP aS (.o (aN xs bs right closed)) .none)))) (λt h=>H.c 32 rfl _ _ _ (pN ⟨af rfl,af rfl,af rfl,H.c 79 rfl _ _ _ (Dq (xs:=xs) (cut:=cut) (right:=right) (closed:=closed) x d C (λm' M=>by rw[hb]at M;cases M) λB J=> ?_)⟩)) ?_
  ·rw[hb]at J;cases J;exact h
  refine ai (b:=false) (ρ':=(Lq s l xs cut w right closed (.j (.o ((aV xs cut right closed).map aX))) (.j (.o (bs.map ah))) (.j (gP aS (.o (aN xs bs right closed)) .none)))) (λk K=>d8 (b:=false) (ρ':=(Lq s l xs cut w right closed (.j (.o ((aV xs cut right closed).map aX))) (.j (.o (bs.map ah))) (.j (gP aS (.o (aN xs bs right closed)) .none)))) (λ_ h=>h) (λq=>by cases q) λ_=>gz (b:=false) (ρ':=(Lq s l xs cut w right closed (.j (.o ((aV xs cut right closed).map aX))) (.j (.o (bs.map ah))) (.j (gP aS (.o (aN xs bs right closed)) .none)))) (λ_ h=>h) (λq=>by cases q) λ_=>K) (λq=>by cases q) λ_=>ae ?_;exact JY H x L C hb y
theorem K8(H:Sub 93 G){xs cut:List It}(Q:∀I∈xs,ip true I)(L:xs.length≤8)(C:iW cut)(m:∀ρ,Y (.j (.bool true)) (.j s::ρ)):
 ex G (.cons (.C 5 (.ag .eq (.w .fmod (.P 81 1 .nil) (.p 2)) (.p 1))) (.cons (.C 6 (.ag .eq (.w .fmod (.P 81 1 .nil) (.p 2)) (.p 1))) (.cons (.C 7 (.Y (.Z (.cons (.L (.cons .X (.cons (.new 0 27 (.cons (.M ⟨#[100,111,117,98,108,101]⟩) (.cons (.d 2) (.cons .dN .nil)))) .nil))) (.cons (.L (.cons .X (.cons (.new 0 27 (.cons (.M ⟨#[100,111,117,98,108,101]⟩) (.cons (.d 4) (.cons .dN .nil)))) .nil))) (.cons (.L (.cons (.M ⟨#[114,105,103,104,116]⟩) (.cons (.call 32 (.cons (.d 5) .nil)) .nil))) (.cons (.L (.cons (.M ⟨#[105,110,99,108,117,100,101,46,108,111,119,101,115,116]⟩) (.cons (.call 32 (.cons (.d 6) .nil)) .nil))) .nil))))))) (.cons (.C 8 (.call 89 (.cons (.d 2) (.cons (.d 4) .nil)))) (.cons (.C 9 (.cZ 94 [7] (.call 79 (.cons .X (.cons (.w .add (.d 7) (.Z (.cons (.L (.cons (.M ⟨#[108,97,98,101,108,115]⟩) (.cons (.call 32 (.cons (.cB false) .nil)) .nil))) .nil))) (.cons .X .nil)))))) (.cons (.iff (.cD (.cons (.D (.tT (.d 8) 3)) (.cons (.D (.tT (.d 9) 3)) .nil))) (.cons (.ret (.ag .eq (.d 9) (.d 8))) .nil) .nil) (.cons (.C 10 (.Y (.comp 18 (.D (.d 2)) .no (.call 90 (.cons (.d 18) (.cons (.d 8) (.cons (.d 5) (.cons (.d 6) .nil)))))))) (.cons (.iff (.cD (.cons (.D (.ag .ne (.J (.d 9) 0) (.M ⟨#[105,110,116,101,103,101,114]⟩))) (.cons (.D (.ag .ne (.J (.d 9) 1) (.d 10))) (.cons (.D (.ag .dr (.J (.d 9) 2) .X)) .nil)))) (.cons (.ret (.cB false)) .nil) .nil) (.cons (.C 9 (.call 79 (.cons .X (.cons (.d 7) (.cons .X .nil))))) (.cons (.iff (.cD (.cons (.D (.ag .ne (.J (.d 9) 1) (.d 10))) (.cons (.D (.ag .ne (.J (.sub (.J (.d 9) 2) (.M ⟨#[99,108,97,115,115]⟩)) 1) (.Z (.cons (.M ⟨#[102,97,99,116,111,114]⟩) .nil)))) .nil))) (.cons (.ret (.cB false)) .nil) .nil) (.cons (.iff (.Q (.cons (.D (.ag .eQ (.cB false) (.comp 19 (.D (.d 8)) .no (.ag .lt (.sub (.d 19) (.p 1)) (.p 2))))) (.cons (.D (.ag .ne (.call 75 (.cons (.d 9) .nil)) (.call 92 (.cons (.d 8) (.cons (.d 5) (.cons (.d 6) .nil)))))) .nil))) (.cons (.ret (.cB false)) .nil) .nil) (.cons (.C 11 (.Y (.comp 20 (.eX (.cons (.w .add (.p 1) (.w .fmod (.P 81 1 .nil) (.p 5))) .nil)) .no (.w .add (.M ⟨#[107]⟩) (.b1 .str (.d 20)))))) (.cons (.C 9 (.cZ 94 [7,11] (.call 79 (.cons .X (.cons (.w .add (.d 7) (.Z (.cons (.L (.cons (.M ⟨#[108,97,98,101,108,115]⟩) (.cons (.new 0 27 (.cons (.M ⟨#[99,104,97,114,97,99,116,101,114]⟩) (.cons (.d 11) (.cons .dN .nil)))) .nil))) (.cons (.L (.cons (.M ⟨#[111,114,100,101,114,101,100,95,114,101,115,117,108,116]⟩) (.cons (.call 32 (.cons (.cB true) .nil)) .nil))) .nil)))) (.cons .X .nil)))))) (.cons (.iff (.D (.ag .ne (.b1 .len (.d 11)) (.w .sub (.b1 .len (.d 8)) (.p 1)))) (.cons (.iff (.D (.ag .ne (.d 9) (.M ⟨#[110,117,109,98,101,114,32,111,102,32,105,110,116,101,114,118,97,108,115,32,97,110,100,32,108,101,110,103,116,104,32,111,102,32,39,108,97,98,101,108,115,39,32,100,105,102,102,101,114]⟩))) (.cons (.ret (.cB false)) .nil) .nil) .nil) (.cons (.iff (.cD (.cons (.D (.ag .ne (.call 75 (.cons (.d 9) .nil)) (.d 11))) (.cons (.D (.ag .ne (.J (.d 9) 1) (.d 10))) (.cons (.D (.ag .ne (.J (.sub (.J (.d 9) 2) (.M ⟨#[99,108,97,115,115]⟩)) 1) (.Z (.cons (.M ⟨#[111,114,100,101,114,101,100]⟩) (.cons (.M ⟨#[102,97,99,116,111,114]⟩) .nil))))) .nil)))) (.cons (.ret (.cB false)) .nil) .nil) .nil)) (.cons (.C 12 (.Y (.sl (.d 4) .no .no))) (.cons (.C 13 (.ite (.D (.ag .gt (.w .fmod (.P 81 1 .nil) (.p 3)) (.p 0))) (.d 8) (.d 12))) (.cons (.C 14 (.Y (.Z (.cons (.L (.cons .X (.cons (.new 0 27 (.cons (.M ⟨#[100,111,117,98,108,101]⟩) (.cons (.d 2) (.cons .dN .nil)))) .nil))) (.cons (.L (.cons .X (.cons (.new 0 27 (.cons (.M ⟨#[100,111,117,98,108,101]⟩) (.cons (.d 13) (.cons .dN .nil)))) .nil))) .nil))))) (.cons (.C 9 (.cZ 94 [14] (.call 80 (.cons .X (.cons (.d 14) (.cons .X .nil)))))) (.cons (.iff (.D (.ag .ne (.call 87 (.cons (.d 13) .nil)) (.d 13))) (.cons (.ret (.ag .eq (.d 9) (.M ⟨#[39,118,101,99,39,32,109,117,115,116,32,98,101,32,115,111,114,116,101,100,32,110,111,110,45,100,101,99,114,101,97,115,105,110,103,108,121,32,97,110,100,32,110,111,116,32,99,111,110,116,97,105,110,32,78,65,115]⟩))) .nil) .nil) (.cons (.ret (.ag .eq (.J (.d 9) 1) (.comp 21 (.D (.d 2)) .no (.ite (.D (.call 86 (.cons (.d 21) .nil))) .X (.b1 .len (.comp 22 (.D (.d 13)) (.D (.D (.ag .le (.call 85 (.cons (.d 22) (.cons (.d 21) .nil))) (.p 0)))) (.d 22))))))) .nil)))))))))))))))))))) (LS s (.U (iV l)) (.j (.o (xs.map wv))) (vi w) (.U (cut.map wv))) t U Y X:=by
 refine gw (λp:Bool×List Int=>(LS s (.U (iV p.2)) (.j (.o (xs.map wv))) (vi w) (.U (cut.map wv)) (.j (.bool p.1)))) (λ_=>True) (λt h=>H.c 81 rfl _ _ _ (bc λi l'=>⟨by decide,cY (x:=.int (i.fmod 2)) (y:=.int 1) (k:=λc=>t (LS s (.U (iV l')) (.j (.o (xs.map wv))) (vi w) (.U (cut.map wv)) (.j (.bool c)))) rfl (h (_,l') trivial)⟩)) ?_;rintro⟨right,l⟩ _;refine gw (λp:Bool×List Int=>(LS s (.U (iV p.2)) (.j (.o (xs.map wv))) (vi w) (.U (cut.map wv)) (.j (.bool right)) (.j (.bool p.1)))) (λ_=>True) (λt h=>H.c 81 rfl _ _ _ (bc λi l'=>⟨by decide,cY (x:=.int (i.fmod 2)) (y:=.int 1) (b:=decide (i.fmod 2=1)) (k:=λc=>t (LS s (.U (iV l')) (.j (.o (xs.map wv))) (vi w) (.U (cut.map wv)) (.j (.bool right)) (.j (.bool c)))) rfl (h (_,l') trivial)⟩)) ?_;rintro⟨closed,l⟩ _;refine bM (ρ':=(Lq s l xs cut w right closed (.j (.o ((aV xs cut right closed).map aX))))) (λt h=>H.c 27 rfl _ _ _ (dm ⟨af rfl,H.c 27 rfl _ _ _ (dm ⟨af rfl,H.c 32 rfl _ _ _ (pN ⟨af rfl,H.c 32 rfl _ _ _ (pN ⟨af rfl,af rfl,h⟩)⟩)⟩)⟩)) ?_;exact KW H Q L C m
theorem Jz(l:List Int):wb (Ly 93) (ft 93).sl.length (ft 93).code [.j (.o (l.map V.int))] (λr _=>r=.j (.bool true)) (λ_=>False):=by
 rw[show(ft 93).sl.length=23 by kernel_rfl,show(ft 93).code=yB by kernel_rfl];have H:Sub 93 (Ly 93):=⟨λg G args K X c=>(Bl (Nat.le_of_ble_eq_true G))▸c⟩;exact zE H λxs cut w l x L C=>K8 H x L C λ_=>rfl
end Mine.Internal
namespace Mine.Internal
open PySem PySem.W PySem.Calls PyProof.Rows
open List Nat Heap Str
noncomputable abbrev cy:=Addr→Nat×Nat
noncomputable def Jr:List String:=["kind","items","attrs","shared","loose","formals","tags","used","places"]
noncomputable def an(n:Nat):Str:=ofString (Jr.getD n "")
noncomputable def cJ:Nat→Addr
|0=>318
|_=>614
noncomputable abbrev w5(v:List Value)(n:Nat):Obj:=⟨.type "tuple",none,.seq v.toArray n,#[]⟩
noncomputable abbrev tG(es:List DictEntry)(n:Nat):Obj:=⟨.type "dict",none,.dict es.toArray n,#[]⟩
noncomputable abbrev dc(v:List Value)(n:Nat):Obj:=⟨.type "list",none,.seq v.toArray n,#[]⟩
noncomputable def iB(h:Heap)(a C d:Addr):Prop:=∃o,h.get? a=some o∧o.cls=.ref C∧o.dict=some d∧o.data=.plain
noncomputable abbrev PP:Program:=PySem.Challenge.pw_nz0536_01
noncomputable abbrev jz(w:World)(h:Heap)(a:Addr)(k:List (Str×Value)):Prop:=h.DictOf (PySem.strKind PP w) a k∧(a==sysModules)=false
inductive cM{α β:Type}(R:α→β→Prop):List α→List β→Prop where
 |nil:cM R [] []
 |cons {v x l vs}:R v x→cM R l vs→cM R (v::l) (x::vs)
inductive zd(R:V→Value→Prop):List (Nat×V)→(Str→Option Value)→Prop where
 |nil {m}:zd R [] m
 |cons {k v x fs m}:m (an k)=some x→R v x→zd R fs m→zd R ((k,v)::fs) m
inductive gC(R:V→Value→Prop):List (Str×V)→List (Str×Value)→Prop where
 |nil:gC R [] []
 |cons {k v x l r}:R v x→gC R l r→gC R ((k,v)::l) ((k,x)::r)
inductive VR(w:World)(h:Heap)(W:cy):V→Value→Prop where
 |none:VR w h W .none .none
 |bool (b):VR w h W (.bool b) (.bool b)
 |int (i t):VR w h W (.int i) (.int i t)
 |str (s t):VR w h W (.str s) (.str s t)
 |L {a vs n l}:h.get? a=some (w5 vs n)→(W a).1=0→vs.length≤aA→cM (VR w h W) l vs→VR w h W (.L l) (.ref a)
 |o {a vs n l}:h.get? a=some (dc vs n)→(W a).1=0→vs.length≤aA→cM (VR w h W) l vs→VR w h W (.o l) (.ref a)
 |dn {a d m c fs}:iB h a (cJ c) d→(W a).1=0→h.Ns d m→(W d).1=0→zd (VR w h W) fs m→VR w h W (.dn c fs) (.ref a)
 |lI {a kvs l}:jz w h a kvs→(W a).1=0→gC (VR w h W) l kvs→VR w h W (.lI l) (.ref a)
abbrev cW(w)(h)(W):=cM (VR w h W)
abbrev MP(w)(h)(W):=zd (VR w h W)
abbrev yf(w)(h)(W):=gC (VR w h W)
theorem iB.same(x:iB h a C d)(e:∀o,h.get? a=some o→h'.get? a=some o):iB h' a C d:=x.imp λo g=>⟨e o g.1,g.2⟩
theorem cj{h h':Heap}(x:h.Ns a m)(e:∀o,h.get? a=some o→h'.get? a=some o):h'.Ns a m:=
 x.imp λo x=>x.imp λ_ x=>x.imp λ_ x=>⟨e o x.1,x.2⟩
theorem gI(x:jz w h a f)(e:∀o,h.get? a=some o→h'.get? a=some o):jz w h' a f:=
 ⟨x.1.imp λo x=>x.imp λ_ x=>x.imp λ_ x=>⟨e o x.1,x.2⟩,x.2⟩
noncomputable def Kp(h:Heap)(W:cy)(h':Heap)(W':cy):Prop:=∀a o,h.get? a=some o→(W a).1=0→h'.get? a=some o∧(W' a).1=0
theorem Kp.refl(h)(W):Kp h W h W:=λ_ _ e w=>⟨e,w⟩
theorem Kp.trans(x:Kp h W h' W')(y:Kp h' W' RA RB):Kp h W RA RB:=λa o e w=>have z:=x a o e w;y a o z.1 z.2
section
variable{w:World}{h h':Heap}{W W':cy}
theorem cM.imp{R R':α→β→Prop}(f:∀v x,R v x→R' v x)(r:cM R l vs):cM R' l vs:=cM.rec .nil (λa _=>.cons (f _ _ a)) r
theorem gC.imp{R R':V→Value→Prop}(f:∀v x,R v x→R' v x)(r:gC R l vs):gC R' l vs:=gC.rec .nil (λa _=>.cons (f _ _ a)) r
theorem VR.step(K:Kp h W h' W')(r:VR w h W v x):VR w h' W' v x:=
 have m1:∀{a},(W a).1=0→∀o,h.get? a=some o→h'.get? a=some o:=λw o e=>(K _ _ e w).1;have m2:∀{a o},h.get? a=some o→(W a).1=0→(W' a).1=0:=λe w=>(K _ _ e w).2
 VR.rec
  .none .bool .int .str (λe q y _=>.L (m1 q _ e) (m2 e q) y) (λe q y _=>.o (m1 q _ e) (m2 e q) y)
  (λe q E Q _=>.dn (e.same (m1 q)) (e.elim λ_ g=>m2 g.1 q) (cj E (m1 Q)) (E.elim λ_ g=>g.elim λ_ g=>g.elim λ_ g=>m2 g.1 Q))
  (λe q _=>.lI (gI e (m1 q)) (e.1.elim λ_ g=>g.elim λ_ g=>g.elim λ_ g=>m2 g.1 q))
  .nil (λ_ _=>.cons) .nil (λe _ _=>.cons e) .nil (λ_ _=>.cons) r
theorem cM.step(K:Kp h W h' W')(r:cW w h W v x):cW w h' W' v x:=r.imp λ_ _=>VR.step K
theorem gC.step(K:Kp h W h' W')(r:yf w h W v x):yf w h' W' v x:=r.imp λ_ _=>VR.step K
theorem cM.length(r:cW w h W l vs):l.length=vs.length:=cM.rec rfl (λ_ _=>congrArg Nat.succ) r
theorem cM.get(r:cW w h W l vs):∀{i:Nat}{v},l[i]? =some v→∃x,vs[i]? =some x∧VR w h W v x:=by
 induction r with
 |nil=>exactλe=>nomatch e
 |cons a _ I=>
  intro i v e;cases i with
  |zero=>exact⟨_,rfl,Option.some.inj e▸a⟩
  |succ i=>exact I e
theorem cM.append(r:cW w h W RA RB)(q:cW w h W RC RD):cW w h W (RA++RC) (RB++RD):=cM.rec q (λa _=>.cons a) r
theorem cM.take(r:cW w h W l vs):∀n,cW w h W (l.take n) (vs.take n):=cM.rec (λn=>by rw[take_nil,take_nil];exact .nil) (λa _ b n=>Nat.casesOn n .nil λn=>.cons a (b n)) r
theorem cM.drop(r:cW w h W l vs):∀n,cW w h W (l.drop n) (vs.drop n):=cM.rec (λn=>by rw[drop_nil,drop_nil];exact .nil) (λa r b n=>Nat.casesOn n (.cons a r) λn=>b n) r
theorem cM.set(q:VR w h W v x)(r:cW w h W l vs):∀n,cW w h W (l.set n v) (vs.set n x):=cM.rec (λn=>.nil) (λa r b n=>Nat.casesOn n (.cons q r) λn=>.cons a (b n)) r
theorem cM.reverse(r:cW w h W l vs):cW w h W l.reverse vs.reverse:=by
 induction r with
 |nil=>exact .nil
 |cons a _ I=>rw[reverse_cons,reverse_cons];exact cM.append I (.cons a .nil)
theorem cM.replicate(r:VR w h W v x)(n):cW w h W (replicate n v) (replicate n x):=Nat.rec .nil (λ_=>.cons r) n
theorem cM.dropLast(r:cW w h W l vs):cW w h W l.dropLast vs.dropLast:=by
 rw[dropLast_eq_take,dropLast_eq_take,r.length];exact r.take _
theorem cM.getLast(r:cW w h W l vs)(e:l.getLast? =some v):∃x,vs.getLast? =some x∧VR w h W v x:=by
 rw[getLast?_eq_getElem?]at e⊢;rw[←r.length];exact r.get e
theorem bB(h:ax a b=false):¬b=a:=λe=>Bool.false_ne_true (h.symm.trans (aD.mpr e.symm))
theorem vW{k:Str}:valueAt ((k,x)::r) k=some x:=by unfold valueAt;simp
theorem xk{k k':Str}(n:¬k'=k):valueAt ((k',x)::r) k=valueAt r k:=by unfold valueAt;simp[n]
theorem CU(e:ax k k'=true):a4 k ((k',v)::l)=some v:=by show(match ax k k' with|true=>some v|false=>a4 k l)=_;rw[e]
theorem Bt(e:ax k k'=false):a4 k ((k',v)::l)=a4 k l:=by show(match ax k k' with|true=>some v|false=>a4 k l)=_;rw[e]
theorem DK(e:ax k k'=true):fJ k v ((k',u)::l)=(k',v)::l:=by show(match ax k k' with|true=>(k',v)::l|false=>(k',u)::fJ k v l)=_;rw[e]
theorem xU(e:ax k k'=false):fJ k v ((k',u)::l)=(k',u)::fJ k v l:=by show(match ax k k' with|true=>(k',v)::l|false=>(k',u)::fJ k v l)=_;rw[e]
theorem uD{k k':Nat}{l:List (Nat×Y)}(e:Nat.beq k k'=true):d6 k ((k',v)::l)=some v:=by show(match Nat.beq k k' with|true=>some v|false=>d6 k l)=_;rw[e]
theorem uS{k k':Nat}{l:List (Nat×Y)}(e:Nat.beq k k'=false):d6 k ((k',v)::l)=d6 k l:=by show(match Nat.beq k k' with|true=>some v|false=>d6 k l)=_;rw[e]
theorem gC.find(r:yf w h W l RA):(a4 k l=.none∧valueAt RA k=.none)∨∃v x,a4 k l=some v∧valueAt RA k=some x∧VR w h W v x:=by
 induction r with
 |nil=>exact .inl ⟨rfl,rfl⟩
 | @cons k' _ _ _ _ r _ I=>
  cases q:ax k k' with
  |true=>exact .inr ⟨_,_,CU q,aD.mp q▸vW,r⟩
  |false=>rw[Bt q,xk (bB q)];exact I
theorem gC.Ln(r:yf w h W l RA):RA.map (·.1)=l.map (·.1):=gC.rec rfl (λ_ _ e=>congrArg _ e) r
theorem gC.append(a:yf w h W l r)(q:yf w h W l' r'):yf w h W (l++l') (r++r'):=gC.rec q (λa _=>.cons a) a
theorem gC.OE(q:VR w h W v x)(a:yf w h W l r):(r.map (·.1)).Nodup→k∈r.map (·.1)→
 yf w h W (fJ k v l) (r.map λkv=>if kv.1=k then(kv.1,x)else kv):=by
 induction a with
 |nil=>exactλ_ m=>nomatch m
 | @cons k' _ X _ r a b I=>
  intro d m;have N:=nodup_cons.mp d;rw[map_cons];cases e:ax k k' with
  |true=>
   have E:=aD.mp e;have:(r.map λkv=>if kv.1=k then(kv.1,x)else kv)=r:=by
    conv=>rhs;rw[←map_id r]
    exact map_congr_left λkv H=>if_neg λz=>N.1 (mem_map.mpr ⟨kv,H,z.trans E⟩)
   rw[this,DK e,if_pos E.symm];exact .cons q b
  |false=>
   rw[xU e,if_neg (bB e)];exact .cons a (I N.2 ((mem_cons.mp m).elim (λz=>absurd z.symm (bB e)) id))
theorem C1:k∉l.map (·.1)→fJ k v l=l++[(k,v)]:=by
 induction l with
 |nil=>exactλ_=>rfl
 |cons p l I=>
  intro n;have:ax k p.1=false:=Bool.eq_false_iff.mpr λe=>n (aD.mp e▸mem_cons_self);rw[xU this,I λz=>n (mem_cons_of_mem _ z)];rfl
theorem gC.stored(q:VR w h W v x)(a:yf w h W l r)(nd:(r.map (·.1)).Nodup):yf w h W (fJ k v l) (PySem.stored r k x):=by
 unfold PySem.stored;split
 ·rename_i e
  apply gC.OE q a nd;obtain⟨K,h1,h2⟩:=any_eq_true.mp e;exact mem_map.mpr ⟨K,h1,of_decide_eq_true h2⟩
 ·rename_i e
  rw[C1 λz=>e ?_]
  ·exact a.append (.cons q .nil)
  ·rw[←a.Ln]at z
   obtain⟨K,h1,h2⟩:=mem_map.mp z;exact any_eq_true.mpr ⟨K,h1,decide_eq_true h2⟩
theorem zd.find(r:MP w h W fs m):d6 k fs=some v→∃x,m (an k)=some x∧VR w h W v x:=by
 induction r with
 |nil=>exactλe=>nomatch e
 | @cons k' _ _ _ _ E r _ I=>
  cases q:beq k k' with
  |true=>rw[uD q];exactλe=>⟨_,eq_of_beq_eq_true q▸E,Option.some.inj e▸r⟩
  |false=>rw[uS q];exact I
end
inductive OL(w:World)(h:Heap)(W:cy)(t f:Nat)(l:List V):Value→Prop where
 |mk {a vs n}:h.get? a=some (dc vs n)→W a=(t,f)→vs.length≤aA→cW w h W l vs→OL w h W t f l (.ref a)
inductive OD(w:World)(h:Heap)(W:cy)(t f:Nat)(l:List (Str×V)):Value→Prop where
 |mk {a kvs}:jz w h a kvs→W a=(t,f)→yf w h W l kvs→OD w h W t f l (.ref a)
noncomputable def FR(w:World)(h:Heap)(W:cy)(t n:Nat)(k:FK)(x:Value):Prop:=match k with
 |.j v=>VR w h W v x
 |.U l=>OL w h W t (n+1) l x
 |.od l=>OD w h W t (n+1) l x
noncomputable def DB(w:World)(h:Heap)(W:cy)(t:Nat)(m:Str→Option Value)(f:List (Nat×FK)):Prop:=∀p∈f,∃x,m (an p.1)=some x∧FR w h W t p.1 p.2 x
noncomputable def DN(es:List DictEntry):Nat:=((range 9).filter λk=>(nsFind es.toArray (an k)).isSome).length
theorem DR:DN es≤9:=Nat.le_trans (length_filter_le ..) (by simp)
inductive OI(w:World)(h:Heap)(W:cy)(t:Nat)(c:Nat)(fs:List (Nat×FK)):Value→Prop where
 |mk {a d es n}:iB h a (cJ c) d→W a=(t,0)→h.get? d=some (tG es n)→W d=(t,0)→StrKeys es.toArray→es.length≤DN es→(∀y,(∀k,y≠an k)→nsFind es.toArray y=none)→((fs.map (·.1)).Nodup∧∀p∈fs,p.1<9)→DB w h W t (nsFind es.toArray) fs→OI w h W t c fs (.ref a)
noncomputable def a6(w:World)(h:Heap)(W:cy)(t:Nat)(s:S)(x:Value):Prop:=match s with
 |.y=>True
 |.j v=>VR w h W v x
 |.U l=>OL w h W t 0 l x
 |.bl l=>OL w h W t 0 l x
 |.oi c F=>OI w h W t c F x
 |.bi c F=>OI w h W t c F x
section
variable{w:World}{h h':Heap}{W W':cy}{t T:Nat}
noncomputable def Mv(h:Heap)(W:cy)(t:Nat)(h':Heap)(W':cy)(T:Nat):Prop:=∀a o,h.get? a=some o→(W a).1=t→h'.get? a=some o∧W' a=(T,(W a).2)
theorem OL.dh(K:Kp h W h' W')(M:Mv h W t h' W' T):OL w h W t f l x→OL w h' W' T f l x
|.mk h1 h2 hb h3=>have m:=M _ _ h1 (congrArg Prod.fst h2);.mk m.1 (m.2.trans (h2▸rfl)) hb (h3.step K)
theorem lV(x:jz w h a f):∃o,h.get? a=some o:=x.1.imp λo g=>g.elim λ_ g=>g.elim λ_ g=>g.1
theorem OD.dh(K:Kp h W h' W')(M:Mv h W t h' W' T):OD w h W t f l x→OD w h' W' T f l x
|.mk h1 h2 h3=>(lV h1).elim λo e=>.mk (gI h1 λo e=>(M _ o e (congrArg Prod.fst h2)).1) ((M _ _ e (congrArg Prod.fst h2)).2.trans (h2▸rfl)) (h3.step K)
theorem FR.dh(K:Kp h W h' W')(M:Mv h W t h' W' T)(r:FR w h W t n k x):FR w h' W' T n k x:=by
 cases k with
 |j v=>exact VR.step K r
 |U l=>exact OL.dh K M r
 |od l=>exact OD.dh K M r
theorem DB.dh(K:Kp h W h' W')(M:Mv h W t h' W' T)(q:DB w h W t m fs):DB w h' W' T m fs:=λp H=>(q p H).imp λ_ z=>⟨z.1,FR.dh K M z.2⟩
theorem OI.dh(K:Kp h W h' W')(M:Mv h W t h' W' T):OI w h W t c fs x→OI w h' W' T c fs x
|.mk h1 h2 h3 h4 h5 hz hn hq h6=>h1.elim λo e=>.mk (h1.same λo e=>(M _ o e (congrArg Prod.fst h2)).1) ((M _ _ e.1 (congrArg Prod.fst h2)).2.trans (h2▸rfl)) (M _ _ h3 (congrArg Prod.fst h4)).1 ((M _ _ h3 (congrArg Prod.fst h4)).2.trans (h4▸rfl)) h5 hz hn hq (DB.dh K M h6)
theorem a6.dh(K:Kp h W h' W')(M:Mv h W t h' W' T)(r:a6 w h W t s x):a6 w h' W' T s x:=by
 cases s with
 |y=>trivial
 |j v=>exact VR.step K r
 |U l=>exact OL.dh K M r
 |bl l=>exact OL.dh K M r
 |oi c F=>exact OI.dh K M r
 |bi c F=>exact OI.dh K M r
noncomputable def Fz(h:Heap)(W:cy)(t:Nat)(h':Heap)(W':cy):Prop:=∀a o,h.get? a=some o→(W a).1=t→h'.get? a=some o∧(W' a).1=0
theorem OL.cC(K:Kp h W h' W')(M:Fz h W t h' W'):OL w h W t f l x→VR w h' W' (.o l) x
|.mk h1 h2 hb h3=>have m:=M _ _ h1 (congrArg Prod.fst h2);.o m.1 m.2 hb (h3.step K)
theorem OD.cC(K:Kp h W h' W')(M:Fz h W t h' W'):OD w h W t f l x→VR w h' W' (.lI l) x
|.mk h1 h2 h3=>(lV h1).elim λo e=>.lI (gI h1 λo e=>(M _ o e (congrArg Prod.fst h2)).1) (M _ _ e (congrArg Prod.fst h2)).2 (h3.step K)
theorem FR.cC(K:Kp h W h' W')(M:Fz h W t h' W')(r:FR w h W t n k x):VR w h' W' k.v x:=by
 cases k with
 |j v=>exact VR.step K r
 |U l=>exact OL.cC K M r
 |od l=>exact OD.cC K M r
theorem DB.cC(K:Kp h W h' W')(M:Fz h W t h' W'):DB w h W t m fs→MP w h' W' (I8 fs) m:=List.rec (λ_=>.nil) (λp _ I q=>(q p (.head _)).elim λ_ z=>.cons z.1 (FR.cC K M z.2) (I λp H=>q p (.tail _ H))) fs
theorem OI.cC(K:Kp h W h' W')(M:Fz h W t h' W'):OI w h W t c fs x→VR w h' W' (.dn c (I8 fs)) x
|.mk h1 h2 h3 h4 h5 hz hn hq h6=>h1.elim λo e=>.dn (h1.same λo e=>(M _ o e (congrArg Prod.fst h2)).1) (M _ _ e.1 (congrArg Prod.fst h2)).2 ⟨_,_,_,(M _ _ h3 (congrArg Prod.fst h4)).1,rfl,h5,λ_=>rfl⟩ (M _ _ h3 (congrArg Prod.fst h4)).2 (DB.cC K M h6)
theorem a6.cC(K:Kp h W h' W')(M:Fz h W t h' W'){r:Rv}(q:a6 w h W t r.s x):VR w h' W' r.v x:=by
 cases r with
 |j v=>exact VR.step K q
 |U l=>exact OL.cC K M q
 |oi c F=>exact OI.cC K M q
end
noncomputable def qy(n:Nat):Prop:=n=0∨n=4∨n=5∨900≤n
noncomputable def yQ(n:Nat):Prop:=n=0∨n=5∨900≤n
noncomputable def uN(n:Nat):Prop:=n=1∨n=3
noncomputable def DY(n:Nat):Prop:=n=3
noncomputable abbrev cK(v:Array Value):Obj:={cls:=.none,data:=.fields v}
structure Kq(xx ss:Nat→Prop)(h:Heap)(W:cy)(h':Heap)(W':cy):Prop where
 ex:∀a o,h.get? a=some o→xx (W a).1→h'.get? a=some o∧W' a=W a
 sl:∀a o,h.get? a=some o→ss (W a).1→(∀m,h.Ns a m→h'.Ns a m)∧W' a=W a
 there:∀a o,h.get? a=some o→ss (W a).1→∃o',h'.get? a=some o'
 iZ:∀vs,(W 910).1=4→h.get? 910=some (cK vs)→W' 910=W 910∧∃more,h'.get? 910=some (cK (vs++more))
noncomputable abbrev KE:=Kq qy uN
noncomputable abbrev KT:=Kq yQ DY
section
variable{ex sl:Nat→Prop}{h h' h'':Heap}{W W' W'':cy}
theorem Kq.refl:Kq ex sl h W h W:=⟨λ_ _ e _=>⟨e,rfl⟩,λ_ _ e _=>⟨λ_ x=>x,rfl⟩,λ_ o e _=>⟨o,e⟩,λ_ _ e=>⟨rfl,#[],by simpa using e⟩⟩
theorem Kq.trans(x:Kq ex sl h W h' W')(y:Kq ex sl h' W' h'' W''):Kq ex sl h W h'' W'':=by
 refine⟨λa o e l=> ?_,λa o e l=> ?_,λa o e l=> ?_,λV l e=> ?_⟩
 ·obtain⟨E,w⟩:=x.ex a o e l
  obtain⟨j,B⟩:=y.ex a o E (w▸l);exact⟨j,B.trans w⟩
 ·obtain⟨E,w⟩:=x.sl a o e l
  obtain⟨O,J⟩:=x.there a o e l;obtain⟨j,B⟩:=y.sl a O J (w▸l);exact⟨λm q=>j m (E m q),B.trans w⟩
 ·obtain⟨O,J⟩:=x.there a o e l
  exact y.there a O J ((x.sl a o e l).2▸l)
 ·obtain⟨w,m1,E⟩:=x.iZ V l e
  obtain⟨B,m2,j⟩:=y.iZ _ (w▸l) E;exact⟨B.trans w,m1++m2,by rw[j,Array.append_assoc]⟩
theorem KE.fh(x:KE h W h' W'):KT h W h' W':=⟨λa o e l=>x.ex a o e (l.elim .inl λq=>.inr (.inr q)),λa o e l=>x.sl a o e (.inr l),λa o e l=>x.there a o e (.inr l),x.iZ⟩
theorem KT.kp(x:KT h W h' W'):Kp h W h' W':=λa o e l=>have z:=x.ex a o e (.inl l);⟨z.1,by rw[z.2,l]⟩
theorem KE.kp(x:KE h W h' W'):Kp h W h' W':=x.fh.kp
structure Gr(L:Addr)(h h':Heap):Prop where
 mX:∀o,h.get? L=some o→∃o',h'.get? L=some o'
 keep:∀a o,a≠L→h.get? a=some o→h'.get? a=some o
 ns:∀m,h.Ns L m→h'.Ns L m
theorem Gr.fU(k:∀a o,h.get? a=some o→h'.get? a=some o):Gr RA h h':=⟨λo e=>⟨o,k _ _ e⟩,λa o _=>k a o,λm e=>e.keeps k⟩
theorem Gr.ke(g:Gr RA h h')(l:(W RA).1=1)(hw:∀a o,h.get? a=some o→W' a=W a):KE h W h' W':=by
 refine⟨λa o e x=>⟨g.keep a o ?_ e,hw a o e⟩,λa o e x=>⟨λm e=> ?_,hw a o e⟩,λa o e x=> ?_,λV x e=>⟨hw _ _ e,#[],?_⟩⟩
 ·rintro rfl;rw[l]at x;unfold qy at x;exact zl 0x21ba08fec3b32fe79fabe rfl x
 ·by_cases q:a=RA
  ·subst q;exact g.ns m e
  ·obtain⟨o,es,E,H,r⟩:=e
   exact⟨o,es,E,g.keep a o q H,r⟩
 ·by_cases q:a=RA
  ·subst q;exact g.mX o e
  ·exact⟨o,g.keep a o q e⟩
 ·simpa using g.keep 910 _ (by rintro rfl;rw[l]at x;exact zl 1330214 rfl x) e
theorem Gr.mv(g:Gr RA h h')(l:(W RA).1=1)(hw:∀a o,h.get? a=some o→W' a=W a)(hj:2≤j):Mv h W j h' W' j:=λa o e x=>
 ⟨g.keep a o (by rintro rfl;exact zl 405265258184738 rfl hj x l) e,by rw[hw a o e,←x]⟩
end
set_option genInjectivity true in
set_option genCtorIdx true in
inductive fK where
 |ns(L:Addr)(x:Str)|cell(c:Addr)
noncomputable def fK.I:fK→Addr
|.ns RA _=>RA
|.cell c=>c
noncomputable def fK.At(h:Heap):fK→Option Value→Prop
|.ns RA x,v=>∃m,h.Ns RA m∧m x=v
|.cell c,v=>h.IsCell c v
theorem fK.At.lt{p:fK}(x:p.At h v):∃o,h.get? p.I=some o:=by
 cases p with
 |ns L n=>obtain⟨m,⟨o,es,E,H,_⟩,e⟩:=x;exact⟨o,H⟩
 |cell c=>obtain⟨o,H,hd⟩:=x;exact⟨o,H⟩
theorem fK.At.qF{p:fK}(x:p.At h v)(y:p.At h v'):v=v':=by
 cases p with
 |ns L n=>
  obtain⟨m,⟨o,es,f,O,hd,k,M⟩,e⟩:=x;obtain⟨m',⟨E,W,Q,H,P,U,K⟩,J⟩:=y;rw[O]at H;cases H;rw[hd]at P;cases P;rw[←e,←J,←M,←K]
 |cell c=>
  obtain⟨o,O,hd⟩:=x;obtain⟨E,H,P⟩:=y;rw[O]at H;cases H;rw[hd]at P;cases P;rfl
noncomputable def qI(p:fK)(n:Nat):Prop:=(n=0∨n=4∨(900≤n∨n=5))∨n=1∧∃L x,p=.ns L x
theorem yv(l:n=0∨n=4∨(900≤n∨n=5)):qy n:=by unfold qy;exact zl 0x1079005499c8154324d4331bc63e35f67a3 rfl l
noncomputable def kL:Str:=ofString "law.<locals>.<lambda>"
noncomputable def pS(h:Heap)(W:cy)(l:List Value):Prop:=TriplesOk l∧∀p C,codeAmong p l=some C→∃c O F t,C=.ref c∧h.get? c=some O∧(W c).1=0∧O.data=.fields F∧F[1]? =some (.str kL t)
theorem pS.step(K:Kp h W h' W')(x:pS h W l):pS h' W' l:=⟨x.1,λp C e=>by
 obtain⟨c,O,F,t,E,j,N,D⟩:=x.2 p C e;have z:=K c O j N;exact⟨c,O,F,t,E,z.1,z.2,D⟩⟩
structure aH(w:World)(fs:List Env)(pl:Nat→fK)(ρ:R)(h:Heap)(W:cy):Prop where
 base:∀b o,(Hd.H1 w.params).get? b=some o→b≠910→h.get? b=some o∧(W b).1=0
 iZ:((W 910).1=0∨(W 910).1=5)∧(∃vs,h.get? 910=some (cK vs))∨(W 910).1=4∧∃vs,h.get? 910=some (cK vs)∧pS h W vs.toList
 len:ρ.length≤800
 a9:∀i,i<ρ.length↔pl i≠.cell 910
 slots:∀i S,ρ[i]? =some S→∃x,(pl i).At h x∧(S=.y∨∃v,x=some v∧a6 w h W (10+i) S v)
 bH:∀i,i<ρ.length→qI (pl i) (W (pl i).I).1
 frames:∀env∈fs,env.scope.kind≠.module∧∃L m,env.frame=some L∧h.Ns L m∧((W L).1=1∨(W L).1=3)
 head:∃env bh L m,fs=env::bh∧env.frame=some L∧h.Ns L m∧(W L).1=1
section
variable{w:World}{F:List Env}{P:Nat→fK}{ρ:R}{h h':Heap}{W W':cy}
theorem aH.cz(C:aH w F P ρ h W){i}(hi:i<ρ.length):∃x,(P i).At h x:=by
 obtain⟨S,e⟩:∃S,ρ[i]? =some S:=⟨ρ[i],by simp[hi]⟩;obtain⟨x,q,_⟩:=C.slots i S e;exact⟨x,q⟩
theorem KE.cz(K:KE h W h' W'){p}{x}(l:qI p (W p.I).1)(a:p.At h x):p.At h' x:=by
 rcases l with l|⟨l,L,n,rfl⟩
 ·have l':=yv l
  cases p with
  |ns L n=>obtain⟨m,⟨o,es,E,H,r⟩,e⟩:=a;exact⟨m,⟨o,es,E,(K.ex _ o H l').1,r⟩,e⟩
  |cell c=>obtain⟨o,H,r⟩:=a;exact⟨o,(K.ex _ o H l').1,r⟩
 ·obtain⟨m,N,e⟩:=a
  obtain⟨o,_,_,H,_⟩:=id N;exact⟨m,(K.sl _ o H (.inl l)).1 m N,e⟩
theorem KE.nk(K:KE h W h' W')(l:qI p (W p.I).1)(a:p.At h x):W' p.I=W p.I:=by
 obtain⟨o,e⟩:=a.lt;rcases l with l|⟨l,L,n,rfl⟩
 ·exact(K.ex _ o e (yv l)).2
 ·exact(K.sl _ o e (.inl l)).2
theorem aH.oX(C:aH w F P ρ h W)(C':aH w F P ρ' h' W'):ρ'.length=ρ.length:=by
 rcases Nat.lt_trichotomy ρ'.length ρ.length with l|l|l
 ·exact absurd ((C'.a9 _).mpr ((C.a9 _).mp l)) (Nat.lt_irrefl _)
 ·exact l
 ·exact absurd ((C.a9 _).mpr ((C'.a9 _).mp l)) (Nat.lt_irrefl _)
theorem aH.Gs(C:aH w F P ρ h W)(K:KE h W h' W')(hl:ρ'.length=ρ.length)
 (hs:∀i S,ρ'[i]? =some S→S≠.y→∀x,(P i).At h x→∃v,x=some v∧a6 w h' W' (10+i) S v):aH w F P ρ' h' W':=by
 refine⟨λb o e n=> ?_,?_,hl▸C.len,hl▸C.a9,λi S e=> ?_,λi H=> ?_,λenv Z=> ?_,?_⟩
 ·obtain⟨g,B⟩:=C.base b o e n
  have z:=K.ex b o g (.inl B);exact⟨z.1,by rw[z.2,B]⟩
 ·rcases C.iZ with⟨l,V,e⟩|⟨l,V,e⟩
  ·have z:=K.ex _ _ e (by unfold qy;exact zl 0x126f08387c1c239d0e211b9a3 rfl l)
   exact .inl ⟨z.2▸l,V,z.1⟩
  ·have z:=K.ex _ _ e.1 (by unfold qy;exact zl 0x2700116476b63ea741635 rfl l)
   exact .inr ⟨z.2▸l,V,z.1,e.2.step K.kp⟩
 ·have H:i<ρ.length:=hl▸(List.getElem?_eq_some_iff.mp e).1
  obtain⟨x,a⟩:=C.cz H;refine⟨x,K.cz (C.bH i H) a,?_⟩
  by_cases q:S=.y
  ·exact .inl q
  ·exact .inr (hs i S e q x a)
 ·have J:=hl▸H
  obtain⟨x,a⟩:=C.cz J;rw[K.nk (C.bH i J) a];exact C.bH i J
 ·obtain⟨k,L,m,f,e,l⟩:=C.frames env Z
  obtain⟨o,_,_,O,_⟩:=id e;obtain⟨E,z⟩:=K.sl L o O l;exact⟨k,L,m,f,E m e,z▸l⟩
 ·obtain⟨env,r,L,m,f,q,e,l⟩:=C.head
  obtain⟨o,_,_,O,_⟩:=id e;obtain⟨E,z⟩:=K.sl L o O (.inl l);exact⟨env,r,L,m,f,q,E m e,z▸l⟩
theorem aH.mC(C:aH w F P ρ h W)(K:KE h W h' W'){S:S}
 (ho:∀j,j≠i→j<ρ.length→Mv h W (10+j) h' W' (10+j))
 (hs:S≠.y→∀x,(P i).At h x→∃v,x=some v∧a6 w h' W' (10+i) S v):aH w F P (ρ.set i S) h' W':=by
 refine C.Gs K (by simp) λj T e q x a=> ?_;rw[getElem?_set]at e
 by_cases I:i=j
 ·subst I
  rw[if_pos rfl]at e;split at e
  ·cases e;exact hs q x a
  ·cases e
 ·rw[if_neg I]at e
  obtain⟨X,A,r⟩:=C.slots j T e;cases a.qF A;rcases r with r|⟨v,rfl,r⟩
  ·exact absurd r q
  ·exact⟨v,rfl,r.dh K.kp (ho j (Ne.symm I) ((List.getElem?_eq_some_iff.mp e).1))⟩
theorem aH.Dd(C:aH w F P ρ h W)(K:KE h W h' W')(ho:∀j,j<ρ.length→Mv h W (10+j) h' W' (10+j)):aH w F P ρ h' W':=by
 refine C.Gs K rfl λj T e q x a=> ?_;obtain⟨X,A,r⟩:=C.slots j T e;cases a.qF A;rcases r with r|⟨v,rfl,r⟩
 ·exact absurd r q
 ·exact⟨v,rfl,r.dh K.kp (ho j ((List.getElem?_eq_some_iff.mp e).1))⟩
theorem aH.gr(C:aH w F P ρ h W)(g:Gr RA h h')(l:(W RA).1=1)(hw:∀a o,h.get? a=some o→W' a=W a):aH w F P ρ h' W':=
 C.Dd (g.ke l hw) λj _=>g.mv l hw (zm 188503604 rfl _)
theorem KE.yU{f:Nat×Nat→Nat×Nat}(hf:∀p,(qy p.1∨uN p.1∨p.1=4)→f p=p):KE h W h (λa=>f (W a)):=
 ⟨λa o e l=>⟨e,hf _ (.inl l)⟩,λa o e l=>⟨λ_ x=>x,hf _ (.inr (.inl l))⟩,λa o e l=>⟨o,e⟩,λV l e=>⟨hf _ (.inr (.inr l)),#[],by simpa using e⟩⟩
noncomputable def lb(t u:Nat)(p:Nat×Nat):Nat×Nat:=match decide (p.1=t)with
 |true=>(u,p.2)
 |false=>p
theorem A5(e:p.1=t):lb t u p=(u,p.2):=by simp[lb,e]
theorem o8(e:p.1≠t):lb t u p=p:=by simp[lb,e]
theorem KE.wX(ht:¬qy t)(RA:¬uN t)(h6:t≠4):KE h W h (λa=>lb t u (W a)):=by
 refine KE.yU λp l=>o8 ?_;rintro rfl;rcases l with l|l|l
 ·exact ht l
 ·exact RA l
 ·exact h6 l
theorem cg(H:i<800):¬qy (10+i):=by unfold qy;exact zl 0x7ef2efb867e8960c46df0b910be7961f701f28dda rfl H
theorem cn:¬uN (10+i):=by unfold uN;exact zm 0x4d696f59bd3fc258e rfl _
theorem qW:¬qy 2:=by unfold qy;exact zm 0x21ed246c4a05e4a82dd24 rfl
theorem qT:¬uN 2:=by unfold uN;exact zm 163889314276 rfl
theorem KE.vJ(hi:i<800):KE h W h (λa=>lb (10+i) 0 (W a)):=KE.wX (cg hi) cn (zm 44091358614 rfl _)
theorem KE.br:KE h W h (λa=>lb 2 u (W a)):=KE.wX qW qT (zm 1330456 rfl)
theorem Mv.wX(hj:j≠t):Mv h W j h (λa=>lb t u (W a)) j:=λa o e l=>⟨e,by
 show lb t u (W a)=_;rw[o8 (l▸hj),←l]⟩
theorem Fz.wX:Fz h W t h (λa=>lb t 0 (W a)):=λa o e l=>⟨e,by
 show(lb t 0 (W a)).1=0;rw[A5 l]⟩
theorem Mv.to:Mv h W t h (λa=>lb t u (W a)) u:=λa o e l=>⟨e,A5 l⟩
theorem aH.br(C:aH w F P ρ h W):aH w F P ρ h (λa=>lb 2 u (W a)):=
 C.Dd KE.br λj _=>Mv.wX (zm 43837603222 rfl _)
end
noncomputable def rW(h:Heap)(L:Addr):List (Addr×Obj):=(range h.objs.size).filterMap λa=>match decide (a=L)with
 |true=>none
 |false=>(h.get? a).map λo=>(a,o)
theorem pA:(a,o)∈rW h L↔a≠L∧h.get? a=some o:=by
 unfold rW;rw[mem_filterMap];constructor
 ·rintro⟨b,_,e⟩
  by_cases q:b=L
  ·rw[decide_eq_true q]at e;cases e
  ·rw[decide_eq_false q]at e
   dsimp only at e;cases g:h.get? b with
   |none=>rw[g]at e;cases e
   |some O=>rw[g]at e;cases e;exact⟨q,g⟩
 ·rintro⟨n,e⟩
  refine⟨a,mem_range.mpr (lt_size e),?_⟩;rw[decide_eq_false n];dsimp only;rw[e];rfl
theorem lS(a):({}:Heap).get? a=none:=by
 cases e:({}:Heap).get? a with
 |none=>rfl
 |some o=>exact absurd (lt_size e) (not_lt_zero _)
theorem KD(H:h.Ns L m):Fr {} L h m:=⟨H,λb o e=>by{rw[lS]at e;cases e},zero_le _⟩
theorem vw:News {} L h (rW h L):=λp H=>by
 obtain⟨a,o⟩:=p;have z:=pA.mp H;exact⟨z.2,z.1,lS _⟩
theorem Bn{h':Heap}{L:Addr}{m'}(x:h'.Ns L m'):∃O,h'.get? L=some O:=let ⟨o,_,_,e,_⟩:=x;⟨o,e⟩
theorem vo(H:h.Ns L m)(F:Fr {} L h' m)(N:News {} L h' (more++rW h L)):Gr L h h':=by
 refine⟨λ_ _=>Bn F.ns,λa o n e=>(N (a,o) (mem_append_right _ (pA.mpr ⟨n,e⟩))).1,λm' e=> ?_⟩;have:=e.eq_nsMap.trans H.eq_nsMap.symm;rw[this];exact F.ns
structure St(w:World)(os:OsState)(fs:List Env)(pl:Nat→fK)(ρ:R)(s:Shared)(W:cy):Prop where
 gens:s.gens= #[]
 os:s.os=os
 H:aH w fs pl ρ s.heap W
structure DG(A:Around)(fs:List Env)(n u:Nat):Prop where
 frames:A.frames=some fs
 handled:A.handled=none
 depth:A.depth+4*n<880
 units:A.units+60*n+u+70<9900
noncomputable def dz(W:cy)(a:Addr)(l:Nat×Nat):cy:=λb=>match decide (b=a)with
 |true=>l
 |false=>W b
theorem aJ:dz W a l a=l:=by simp[dz]
theorem bW(h:b≠a):dz W a l b=W b:=by simp[dz,h]
noncomputable def fH(w:World)(os:OsState)(f:List Env)(L:Nat→fK)(ρ:R)(s:Shared)(W:cy)(k:Rv→Prop)(Q:Value→Shared→Prop):Prop:=
 ∀r S W' v,k r→St w os f L ρ S W'→KE s.heap W S.heap W'→a6 w S.heap W' 2 r.s v→Q v S
theorem St.head{os:OsState}(S:St w os fs pl ρ s W):∃env RB RA m,fs=env::RB∧env.frame=some RA∧s.heap.Ns RA m∧(W RA).1=1:=S.H.head
theorem St.mX{os:OsState}(S:St w os fs pl ρ s W):St w os fs pl ρ {s with toks:=t,drawn:=d} W:=⟨S.gens,S.os,S.H⟩
theorem fH.val{os:OsState}(K:fH w os fs pl ρ s W k Q)(S:St w os fs pl ρ s W)(r:VR w s.heap W v x)(h:k (.j v)):Q x {s with toks:=t}:=
 K (.j v) _ W x h S.mX .refl r
theorem fH.OG{os:OsState}(K:fH w os fs pl ρ s W k Q)(S:St w os fs pl ρ s W)(r:VR w s.heap W v x)(h:k (.j v)):Q x s:=
 K (.j v) _ W x h S .refl r
theorem Gr.st{os:OsState}(g:Gr RA s.heap h')(l:(W RA).1=1)(hw:∀a o,s.heap.get? a=some o→W' a=W a)(S:St w os fs pl ρ s W):
 St w os fs pl ρ {s with heap:=h',toks:=t} W':=⟨S.gens,S.os,S.H.gr g l hw⟩
theorem fH.IS{os:OsState}(K:fH w os fs pl ρ s W k Q)(S:St w os fs pl ρ s W)(g:Gr RA s.heap h')(l:(W RA).1=1)(n:s.heap.get? a=none)(f)(h:k r)(o:a6 w h' (dz W a (f,0)) 2 r.s (.ref a)):Q (.ref a) {s with heap:=h',toks:=t}:=by
 have H:∀b o,s.heap.get? b=some o→dz W a (f,0) b=W b:=λb o e=>bW (by rintro rfl;rw[n]at e;cases e);exact K r _ _ _ h (g.st l H S) (g.ke l H) o
theorem AM(g:Gr L h h')(l:(W L).1=1)(n:h.get? a=none)(r:cW w h W v x):cW w h' (dz W a f) v x:=
 r.step (g.ke l λb o e=>bW (by rintro rfl;rw[n]at e;cases e)).kp
theorem bw(h:Heap):h.get? h.objs.size=none:=by
 cases e:h.get? h.objs.size with
 |none=>rfl
 |some o=>exact absurd (lt_size e) (Nat.lt_irrefl _)
theorem fH.newList{os:OsState}(K:fH w os fs pl ρ s W k Q)(S:St w os fs pl ρ s W)(g:Gr RA s.heap h')(l:(W RA).1=1)
 (e:h'.get? s.heap.objs.size=some (dc xs n))(y:xs.length≤aA)(r:cW w s.heap W vs xs)(h:k (.U vs)):Q (.ref s.heap.objs.size) {s with heap:=h',toks:=t}:=
 K.IS S g l (bw _) 2 h (.mk e aJ y (AM g l (bw _) r))
theorem fH.IB{os:OsState}(K:fH w os fs pl ρ s W k Q)(S:St w os fs pl ρ s W)(g:Gr RA s.heap h')(l:(W RA).1=1)
 (e:h'.get? s.heap.objs.size=some (w5 xs n))(y:xs.length≤aA)(r:cW w s.heap W vs xs)(h:k (.j (.L vs))):Q (.ref s.heap.objs.size) {s with heap:=h',toks:=t}:=
 K.IS S g l (bw _) 0 h (.L e (by rw[aJ]) y (AM g l (bw _) r))
theorem uY(h:a.natAbs<lJ):Builtin.Int.intBits a≤200:=by
 unfold Builtin.Int.intBits;split
 ·exact zm 2263176 rfl
 ·rename_i q
  have:=(log2_lt (by intro z;exact q (by have:=Int.natAbs_eq_zero.mp z;simp[this]))).mpr h;exact zl 0x18e0a4526d6f5da rfl this
theorem IJ(H:a.natAbs<lJ)(hb:b.natAbs<lJ):IntMulOk a b:=by
 unfold IntMulOk;simp only[Bool.and_eq_true,not_and,Bool.not_eq_true];intro _;unfold Builtin.Int.intTooBig;exact decide_eq_false (by unfold bitsLine;exact zl 0xb76714f0e6414f9af8a8542f5cf rfl (uY H) (uY hb))
noncomputable def xQ:B2→Operator
|.add=>.Add|.sub=>.Sub|.mul=>.Mult|.fdiv=>.FloorDiv|.fmod=>.Mod|_=>.Pow
theorem zY(n)(C:Array Nat):(replicate n #[c]).foldl (λx y=>x++y) C=C++(replicate n c).toArray:=by
 induction n generalizing C with
 |zero=>simp
 |succ n I=>rw[replicate_succ,foldl_cons,I,Array.append_assoc];apply Array.toList_inj.mp;simp[replicate_succ]
theorem uQ(h:0≤n):Txt.mul ⟨#[c]⟩ n=⟨(replicate n.toNat c).toArray⟩:=by
 unfold Txt.mul;split
 ·have:n=0:=zl 6672960722973 rfl h ‹_›
  subst this;rfl
 ·split
  ·rename_i q
   have Q:n=1:=by
    rcases Bool.or_eq_true _ _|>.mp q with q|q
    ·simpa using q
    ·simp[Str.length]at q
   subst Q;rfl
  ·congr 1
   rw[zY];simp
theorem z7(H:0≤n)(h1:n≤1000):MulOk ⟨#[c]⟩ n:=by
 refine⟨?_,λh2 h3=> ?_,λh2 h3=> ?_⟩
 ·simp only[Bool.or_eq_false_iff];exact⟨decide_eq_false (zl 0x39a19e9048d81d rfl H),decide_eq_false (zl 0x727e27a0ddd15ae rfl h1)⟩
 ·have e:(Str.length ⟨#[c]⟩:Nat)=1:=rfl
  rw[e];have:(2^63-1)/n≥1:=by
   rw[ge_iff_le,Int.le_ediv_iff_mul_le (by exact zl 21735049177 rfl h2)];exact zl 0xd3354f4e091b5515ae rfl h1
  exact zl 999063013647 rfl this
 ·have e:(Str.length ⟨#[c]⟩:Nat)=1:=rfl
  rw[e];unfold Builtin.Str.tooLong;apply decide_eq_false;unfold sizeLine;exact zl 0x393e780ee4b810d15ae rfl h1
theorem xD{s:Str}(h:s.cps.toList=[c]):s=⟨#[c]⟩:=by
 obtain⟨⟨l⟩⟩:=s;simp only at h;subst h;rfl
theorem mP{b:Int}(hb:b.natAbs<lJ):b.natAbs.log2<9000:=by
 by_cases H:b.natAbs=0
 ·rw[H];decide+kernel
 ·have:=(log2_lt H).mpr hb
  exact zl 0x2038a2cbc0ef5da rfl this
theorem Ei(h:a.natAbs<2^64):Builtin.Int.intBits a≤64:=by
 unfold Builtin.Int.intBits;split
 ·exact zm 731272 rfl
 ·rename_i q
  have:=(log2_lt (by intro z;exact q (by have:=Int.natAbs_eq_zero.mp z;simp[this]))).mpr h;exact zl 99599008046427610 rfl this
theorem t5(n:Nat):(-1)^n=if((n:Int)%2==0)=true then 1 else-1:=by
 induction n with
 |zero=>rfl
 |succ n I=>
  rw[Int.pow_succ,I]
  by_cases h:(n:Int)%2=0
  ·have h2:((n+1:Nat):Int)%2≠0:=by lia
   rw[if_pos (beq_iff_eq.mpr h),if_neg λz=>h2 (beq_iff_eq.mp z)];rfl
  ·have h2:((n+1:Nat):Int)%2=0:=by lia
   rw[if_neg λz=>h (beq_iff_eq.mp z),if_pos (beq_iff_eq.mpr h2)];rfl
theorem j4(n)(c:Array Value):(replicate n #[x]).foldl (λx y=>x++y) c=c++(replicate n x).toArray:=by
 induction n generalizing c with
 |zero=>simp
 |succ n I=>rw[replicate_succ,foldl_cons,I,Array.append_assoc];apply Array.toList_inj.mp;simp[replicate_succ]
noncomputable def Q5(w:World)(h:Heap)(W:cy)(x:Value):V→Prop
|.none=>x=.none
|.bool b=>x=.bool b
|.int i=>∃t,x=.int i t
|.str s=>∃t,x=.str s t
|.L l=>∃a v n,x=.ref a∧h.get? a=some (w5 v n)∧(W a).1=0∧v.length≤aA∧cW w h W l v
|.o l=>∃a v n,x=.ref a∧h.get? a=some (dc v n)∧(W a).1=0∧v.length≤aA∧cW w h W l v
|.dn c f=>∃a d m,x=.ref a∧iB h a (cJ c) d∧(W a).1=0∧h.Ns d m∧(W d).1=0∧MP w h W f m
|.lI l=>∃a k,x=.ref a∧jz w h a k∧(W a).1=0∧yf w h W l k
theorem VR.cG(r:VR w h W v x):Q5 w h W x v:=by
 cases r with
 |none=>rfl
 |bool b=>rfl
 |int i t=>exact⟨t,rfl⟩
 |str s t=>exact⟨t,rfl⟩
 |L a b c d=>exact⟨_,_,_,rfl,a,b,c,d⟩
 |o a b c d=>exact⟨_,_,_,rfl,a,b,c,d⟩
 |dn a b c d e=>exact⟨_,_,_,rfl,a,b,c,d,e⟩
 |lI a b c=>exact⟨_,_,rfl,a,b,c⟩
theorem H3{os:OsState}{E:Value→Shared→Prop}(hb:JE o x y k)(S:St w os j L ρ s W)(f:VR w s.heap W x a)(Y:VR w s.heap W y b)(K:fH w os j L ρ s W k Q):
 wpAny (model PP w) A (binaryOp (xQ o) a b) Q E s:=by
 refine Classical.byContradiction λO=> ?_;obtain⟨env,J,I,m,rfl,U,Z,X⟩:=S.head;cases o<;>cases x<;>first|exact hb|(cases y<;>first|exact hb|refine O ?_)
 ·obtain⟨t,rfl⟩:=f.cG
  obtain⟨T,rfl⟩:=Y.cG;exact add_int (K.val S (.int ..) hb)
 ·obtain⟨t,rfl⟩:=f.cG
  obtain⟨T,rfl⟩:=Y.cG;exact add_str (λT tk=>K.val S (.str ..) hb.2) (by have:=hb.1;unfold aA at this;unfold sizeLine;exact zl 0x552366d74a96600aa0 rfl this)
 ·obtain⟨_,_,_,rfl,g,B,M,R⟩:=f.cG
  obtain⟨_,_,_,rfl,V,G,i,r⟩:=Y.cG;refine add_arrays (KD Z) vw ⟨_,g,rfl,_,rfl⟩ ⟨_,V,rfl,_,rfl⟩ (λh' F N=> ?_) ?_
  ·refine K.newList S (vo (more:=[_]) Z F N) X (N _ (.head _)).1 ?_ ?_ hb.2
   ·have:=R.length;have:=r.length;have:=hb.1
    simp;exact zl 0x8d3e2cbd27ff896f7ea0d rfl ‹_› ‹_› this
   ·simpa using R.append r
  ·have:=R.length;have:=r.length;have:=hb.1
   simp only[size_toArray];unfold aA at this;unfold sizeLine;exact zl 0x2e91eadf691e44730680af7ea0d rfl ‹_› ‹_› this
 ·obtain⟨t,rfl⟩:=f.cG
  obtain⟨T,rfl⟩:=Y.cG;exact sub_int' (K.val S (.int ..) hb)
 ·obtain⟨t,rfl⟩:=f.cG
  obtain⟨T,rfl⟩:=Y.cG;exact PyProof.Rows.mul_int (K.val S (.int ..) hb.2.2) (IJ hb.1 hb.2.1)
 ·rename_i t n
  obtain⟨_,rfl⟩:=f.cG;obtain⟨_,rfl⟩:=Y.cG;replace hb:(match t.cps.toList with|[c]=>0≤n∧n≤1000∧k (.j (.str ⟨(replicate n.toNat c).toArray⟩))|_=>False):=hb;generalize C:t.cps.toList=l at hb;cases l with
  |nil=>exact hb.elim
  |cons c l=>cases l with
   |cons _ _=>exact hb.elim
   |nil=>
    obtain⟨H,h1,h2⟩:=hb;have:=xD C;subst this;exact SB.mul (z7 H h1) λT tk=>(uQ H)▸K.val S (.str _ _) h2
 ·rename_i l n
  obtain⟨a,h,n',rfl,g,B,M,R⟩:=f.cG;obtain⟨T,rfl⟩:=Y.cG;cases l with
  |nil=>exact False.elim hb
  |cons v l=>cases l with
   |cons _ _=>exact False.elim hb
   |nil=>
    obtain⟨H,h1,h2⟩:=hb;cases R with
    |cons R u=>
     cases u;refine mul_list (KD Z) vw g (zl 92872740893213 rfl H) (zl 0xbad9e8fdd15ae rfl h1) (by simp;exact zl 0x19ff00021979f915ae rfl h1) λh' F N=> ?_;refine K.newList S (vo (more:=[_]) Z F N) X (n:=0) ?_ (by simp;unfold aA;exact zl 0x1eb6ae8e34127915ae rfl h1) (cM.replicate R _) h2;rw[(N _ (.head _)).1];have z:=j4 (x:=(by assumption:Value)) n.toNat #[];first|(simp[j4];done)|simp_all [j4]
 ·obtain⟨t,rfl⟩:=f.cG
  obtain⟨T,rfl⟩:=Y.cG;exact floordiv_int hb.1 (K.val S (.int ..) hb.2.2) (.inl (PyProof.noPylong_of_log2 (mP hb.2.1)))
 ·obtain⟨t,rfl⟩:=f.cG
  obtain⟨T,rfl⟩:=Y.cG;exact mod_int' hb.1 (K.val S (.int ..) hb.2)
 ·rename_i a b
  obtain⟨t,rfl⟩:=f.cG;obtain⟨T,rfl⟩:=Y.cG;obtain⟨H,h1,h2,h3⟩:=hb;apply AutoIntOpsIf.pow;rw[if_pos H];have e:∀z:Int,z=a^b.toNat→Made.post (Made.int z) Q s:=λz D=>by subst D;exact K.val S (.int ..) h3
  split
  ·rename_i q;exact e _ (by have:=(by simpa using q);subst this;exact(Int.pow_zero _).symm)
  ·rename_i q
   split
   ·rename_i p
    apply e _;rcases(by simpa using p)with rfl|rfl
    ·exact(Int.zero_pow (λz=>q (by have:b=0:=zl 0xc234fccc331d rfl H z;simp[this]))).symm
    ·exact Int.one_pow.symm
   ·split
    ·rename_i p
     have:a= -1:=by simpa using p
     subst this;apply e _;rw[t5,Int.toNat_of_nonneg H]
    ·split
     ·rename_i p
      unfold Builtin.Int.intTooBig at p;have P:=of_decide_eq_true p;have d:=Ei h2;unfold bitsLine at P;exact zl 0xebc0dacb45bfbfcc49bc0 rfl P (Int.mul_le_mul (zl 0xb0ebbadb2adcf rfl d) h1 H (zm 731269 rfl))
     ·exact e _ rfl
theorem BY(l):fg (.L l)=(bK FY l).map .tuple:=by unfold fg;rfl
theorem Cq(l):Ak (.o l)=(bK fg l).map .list:=by unfold Ak;rfl
theorem Bm(h:∀l,v≠.L l):fg v=FY v:=by
 cases v<;>first|rfl|exact absurd rfl (h _)
theorem A7(h:∀l,v≠.o l):Ak v=fg v:=by
 cases v<;>first|rfl|exact absurd rfl (h _)
section
variable{w:World}{h:Heap}{W:cy}
theorem uv(r:VR w h W v x)(e:FY v=some d):Reads h x d []:=by
 cases r with
 |none=>cases e;exact .none
 |bool b=>cases e;exact .bool _
 |int i t=>cases e;exact .int ..
 |str s t=>
  change(match PyData.strOk s with|true=>some (PyData.str s)|false=>none)=_ at e;cases q:PyData.strOk s with
  |true=>rw[q]at e;cases e;exact .str ..
  |false=>rw[q]at e;cases e
 |_=>cases e
theorem all_cons(e:bK f (v::l)=some D):∃d I,f v=some d∧bK f l=some I∧D=d::I:=by
 change(match f v,bK f l with|some a,some b=>some (a::b)|_,_=>none)=some D at e;generalize f v=p at e⊢;generalize bK f l=q at e⊢;cases p with
 |none=>cases e
 |some a=>
  cases q with
  |none=>cases e
  |some b=>exact⟨a,b,rfl,rfl,(Option.some.inj e).symm⟩
theorem EC(r:cW w h W l v):∀{D},bK FY l=some D→ReadsAll h v D []:=by
 induction r with
 |nil=>exactλe=>Option.some.inj e▸.nil
 |cons r b I=>exactλe=>(all_cons e).elim λd e=>e.elim λX e=>e.2.2▸.cons (uv r e.1) (I e.2.1)
theorem gc(r:VR w h W v x)(e:fg v=some d):∃as,Reads h x d as:=by
 by_cases q:∃l,v=.L l
 ·obtain⟨l,rfl⟩:=q
  cases r with
  |L E P Y R=>
   rw[BY]at e;cases q:bK FY l with
   |none=>rw[q]at e;cases e
   |some D=>rw[q]at e;cases e;exact⟨_,.tuple E rfl rfl (by simpa using EC R q)⟩
 ·exact⟨_,uv r (Bm (λl z=>q ⟨l,z⟩)▸e)⟩
theorem lE(r:cW w h W l v):∀{D},bK fg l=some D→∃as,ReadsAll h v D as:=by
 induction r with
 |nil=>exactλe=>⟨[],by cases e;exact .nil⟩
 |cons r b I=>exactλe=>(all_cons e).elim λd e=>e.elim λX e=>(gc r e.1).elim λas q=>(I e.2.1).elim λbs p=>e.2.2▸⟨_,.cons q p⟩
theorem lu(r:VR w h W v x)(e:Ak v=some d):∃as,Reads h x d as:=by
 by_cases q:∃l,v=.o l
 ·obtain⟨l,rfl⟩:=q
  cases r with
  |o E P Y R=>
   rw[Cq]at e;cases q:bK fg l with
   |none=>rw[q]at e;cases e
   |some D=>
    rw[q]at e;cases e;obtain⟨as,p⟩:=lE R q;exact⟨_,.list E rfl rfl (by simpa using p)⟩
 ·exact gc r (A7 (λl z=>q ⟨l,z⟩)▸e)
end
theorem tJ(e:FY v=some d):d.canLay0=true∧d.depth=0:=by
 cases v with
 |none=>cases e;exact⟨rfl,rfl⟩
 |bool b=>cases e;exact⟨rfl,rfl⟩
 |int i=>cases e;exact⟨rfl,rfl⟩
 |str s=>
  change(match PyData.strOk s with|true=>some (PyData.str s)|false=>none)=_ at e;cases q:PyData.strOk s with
  |true=>rw[q]at e;cases e;exact⟨by unfold PyData.canLay0;exact q,rfl⟩
  |false=>rw[q]at e;cases e
 |_=>cases e
theorem kN(H:∀v d,f v=some d→d.canLay0=true∧d.depth≤n):∀{D},bK f l=some D→PyData.canLayAll0 D=true∧PyData.depthAll D≤n:=by
 induction l with
 |nil=>exactλe=>Option.some.inj e▸⟨rfl,zero_le _⟩
 |cons v l I=>
  intro D e;obtain⟨d,X,E,j,rfl⟩:=all_cons e;have a:=H v d E;have b:=I j;exact⟨(Bool.and_eq_true ..).mpr ⟨a.1,b.1⟩,Nat.max_le.mpr ⟨a.2,b.2⟩⟩
theorem d7(e:fg v=some d):d.canLay0=true∧d.depth≤1:=by
 by_cases q:∃l,v=.L l
 ·obtain⟨l,rfl⟩:=q
  rw[BY]at e;cases q:bK FY l with
  |none=>rw[q]at e;cases e
  |some D=>
   rw[q]at e;cases e;have z:=kN (λv d e=>have a:=tJ e;⟨a.1,zl 128224245 rfl a.2⟩) q;refine⟨by unfold PyData.canLay0;exact z.1,?_⟩;unfold PyData.depth;exact zl 138257487583 rfl z.2
 ·rw[Bm (λl z=>q ⟨l,z⟩)]at e
  exact⟨(tJ e).1,((tJ e).2)▸zm 6152 rfl⟩
theorem nN(e:Ak v=some d):d.canLay0=true∧d.depth≤2:=by
 by_cases q:∃l,v=.o l
 ·obtain⟨l,rfl⟩:=q
  rw[Cq]at e;cases q:bK fg l with
  |none=>rw[q]at e;cases e
  |some D=>
   rw[q]at e;cases e;have z:=kN (λv d=>d7) q;refine⟨by unfold PyData.canLay0;exact z.1,?_⟩;unfold PyData.depth;exact zl 143840108143 rfl z.2
 ·rw[A7 (λl z=>q ⟨l,z⟩)]at e
  exact⟨(d7 e).1,by have:=(d7 e).2;exact zl 139129711 rfl this⟩
theorem bj(h:d.canLay0=true∧d.depth≤n)(H:n≤64):SeqAt.shaped d=true:=by
 unfold SeqAt.shaped;rw[h.1];exact decide_eq_true (Nat.le_trans h.2 H)
noncomputable def uX:CO→CmpOp
|.lt=>.Lt|.le=>.LtE|.gt=>.Gt|.ge=>.GtE|.eq=>.Eq|.ne=>.NotEq|.is=>.Is|.dr=>.IsNot|.nr=>.In|_=>.NotIn
theorem ye(r:VR w h W v x):(x==Value.none)=isNone v:=by
 cases r<;>rfl
theorem jc{w:World}{h:Heap}{W:cy}(e:x6 x l=some b):∃d D,fg x=some d∧bK fg l=some D∧(∀y∈D,SeqAt.noMix y d=true)∧b=decide (Spec.countIn d D≠0):=by
 delta x6 at e;generalize E:fg x=p at e;generalize j:bK fg l=q at e;cases p with
 |none=>cases e
 |some d=>
  cases q with
  |none=>cases e
  |some D=>
   cases q:D.all λy=>SeqAt.noMix y d with
   |true=>exact⟨d,D,rfl,rfl,λy H=>all_eq_true.mp q y H,by simp only[q]at e;cases e;rfl⟩
   |false=>simp only[q]at e;cases e
theorem Ko{P:Bool→Prop}(h:match o with|some b=>P b|.none=>False):∃b,o=some b∧P b:=by
 cases o with
 |some b=>exact⟨b,rfl,h⟩
 |none=>exact h.elim
theorem Bw{P:Bool→Prop}(h:match vF x y with|some b=>P b|.none=>False):∃d1 d2,Ak x=some d1∧Ak y=some d2∧P (PyData.eqv d1 d2):=by
 obtain⟨b,e,h⟩:=Ko h;unfold vF at e;cases E:Ak x with
 |none=>rw[E]at e;cases e
 |some d1=>cases j:Ak y with
  |none=>rw[E,j]at e;cases e
  |some d2=>rw[E,j]at e;cases e;exact⟨d1,d2,rfl,rfl,h⟩
theorem QF(j:bK fg l=some D):(PyData.tuple D).canLay0=true∧(PyData.tuple D).depth≤2:=by
 have z:=kN (λv d=>d7) j;exact⟨by unfold PyData.canLay0;exact z.1,by unfold PyData.depth;exact zl 143840108143 rfl z.2⟩
theorem Qo(j:bK fg l=some D):(PyData.list D).canLay0=true∧(PyData.list D).depth≤2:=by
 have z:=kN (λv d=>d7) j;exact⟨by unfold PyData.canLay0;exact z.1,by unfold PyData.depth;exact zl 143840108143 rfl z.2⟩
theorem jX{E:Value→Shared→Prop}(H:DG A j n u)(hb:qn o x y k)(f:VR w s.heap W x a)(Y:VR w s.heap W y b)
 (K:∀c tk,k c→Q (.bool c) {s with toks:=tk}):
 wpAny (model PP w) A (compareOp (uX o) a b) Q E s:=by
 refine Classical.byContradiction λm=> ?_;have U:=H.units;have C:A.units+64<cLine:=by unfold cLine;exact zl 0x46bb45e2faaece601da045b0b7151cf5f3cb rfl U
 have S:A.units+65<cLine:=by unfold cLine;exact zl 0x46bb45e2fb552e601da045b0b7151cf5f3cb rfl U
 cases o
 ·exact hb
 ·cases x<;>first|exact hb|(cases y<;>first|exact hb|(obtain⟨_,rfl⟩:=f.cG;obtain⟨_,rfl⟩:=Y.cG;exact m (lt_int (K _ s.toks hb))))
 ·cases x<;>first|exact hb|(cases y<;>first|exact hb|(obtain⟨_,rfl⟩:=f.cG;obtain⟨_,rfl⟩:=Y.cG;exact m (le_int (K _ s.toks hb))))
 ·cases x<;>first|exact hb|(cases y<;>first|exact hb|(obtain⟨_,rfl⟩:=f.cG;obtain⟨_,rfl⟩:=Y.cG;exact m (gt_int (K _ s.toks hb))))
 ·cases x<;>first|exact hb|(cases y<;>first|exact hb|(obtain⟨_,rfl⟩:=f.cG;obtain⟨_,rfl⟩:=Y.cG;exact m (ge_int (K _ s.toks hb))))
 ·obtain⟨d1,d2,g,V,hb⟩:=Bw hb
  obtain⟨_,q⟩:=lu f g;obtain⟨_,R⟩:=lu Y V;exact m (eq_dataH q R (bj (nN g) (zm 731316 rfl)) (bj (nN V) (zm 731316 rfl)) C (K _ s.toks hb))
 ·obtain⟨d1,d2,g,V,hb⟩:=Bw hb
  obtain⟨_,q⟩:=lu f g;obtain⟨_,R⟩:=lu Y V;exact m (ne_dataH q R (bj (nN g) (zm 731316 rfl)) (bj (nN V) (zm 731316 rfl)) C (K _ s.toks hb))
 ·cases y<;>first|exact hb|(obtain rfl:=Y.cG;exact m (is_none_gen (by rw[ye f];exact K _ s.toks hb)))
 ·cases y<;>first|exact hb|(obtain rfl:=Y.cG;exact m (isnot_none_gen (by rw[ye f];exact K _ s.toks hb)))
 ·cases y<;>first|exact hb|skip
  ·obtain⟨c,e,hb⟩:=Ko hb
   obtain⟨d,D,g,V,N,rfl⟩:=jc (w:=w) (h:=s.heap) (W:=W) e;obtain⟨_,q⟩:=gc f g;obtain⟨_,_,_,rfl,g1,g2,g0,g3⟩:=Y.cG;obtain⟨as,R⟩:=lE g3 V;exact m (in_tuple_dataH (.tuple g1 rfl rfl (by simpa using R)) q (bj (QF V) (zm 731316 rfl)) (bj (d7 g) (zm 731294 rfl)) S N (K _ s.toks hb))
  ·obtain⟨c,e,hb⟩:=Ko hb
   obtain⟨d,D,g,V,N,rfl⟩:=jc (w:=w) (h:=s.heap) (W:=W) e;obtain⟨_,q⟩:=gc f g;obtain⟨_,_,_,rfl,g1,g2,g0,g3⟩:=Y.cG;obtain⟨as,R⟩:=lE g3 V;exact m (in_list_dataH (.list g1 rfl rfl (by simpa using R)) q (bj (Qo V) (zm 731316 rfl)) (bj (d7 g) (zm 731294 rfl)) S N (K _ s.toks hb))
  ·cases x<;>first|exact hb|skip
   rename_i l t;replace hb:k (a4 t l).isSome:=hb;obtain⟨_,rfl⟩:=f.cG;obtain⟨_,_,rfl,g1,g2,g3⟩:=Y.cG;refine m (wpAny_in_of (strKind_is PP w _ _) g1.2 g1.1.mapOf ?_);rcases g3.find with⟨Z,z⟩|⟨v,x,Z,z,F⟩
   ·rw[z];rw[Z]at hb;exact K _ _ hb
   ·rw[z];rw[Z]at hb;exact K _ _ hb
 ·cases y<;>first|exact hb|skip
  ·obtain⟨c,e,hb⟩:=Ko hb
   obtain⟨d,D,g,V,N,rfl⟩:=jc (w:=w) (h:=s.heap) (W:=W) e;obtain⟨_,q⟩:=gc f g;obtain⟨_,_,_,rfl,g1,g2,g0,g3⟩:=Y.cG;obtain⟨as,R⟩:=lE g3 V;exact m (notIn_tuple_dataH (.tuple g1 rfl rfl (by simpa using R)) q (bj (QF V) (zm 731316 rfl)) (bj (d7 g) (zm 731294 rfl)) S N (K _ s.toks hb))
  ·obtain⟨c,e,hb⟩:=Ko hb
   obtain⟨d,D,g,V,N,rfl⟩:=jc (w:=w) (h:=s.heap) (W:=W) e;obtain⟨_,q⟩:=gc f g;obtain⟨_,_,_,rfl,g1,g2,g0,g3⟩:=Y.cG;obtain⟨as,R⟩:=lE g3 V;exact m (notIn_list_dataH (.list g1 rfl rfl (by simpa using R)) q (bj (Qo V) (zm 731316 rfl)) (bj (d7 g) (zm 731294 rfl)) S N (K _ s.toks hb))
  ·cases x<;>first|exact hb|skip
   rename_i l t;replace hb:k (!(a4 t l).isSome):=hb;obtain⟨_,rfl⟩:=f.cG;obtain⟨_,_,rfl,g1,g2,g3⟩:=Y.cG;refine m (wpAny_notIn_of (strKind_is PP w _ _) g1.2 g1.1.mapOf ?_);rcases g3.find (k:=_)with⟨Z,z⟩|⟨v,x,Z,z,F⟩
   ·rw[z];rw[Z]at hb;exact K _ _ hb
   ·rw[z];rw[Z]at hb;exact K _ _ hb
theorem mz{j J:Int}{n:Nat}(e:(if j<0 then j+n else j)=J)(H:0≤J)(h1:J<n):seqIndex? j n=some J.toNat:=by
 unfold seqIndex?;rw[e];show(if(decide (0≤J)&&decide (J<(n:Int)))=true then some J.toNat else none)=_;rw[decide_eq_true H,decide_eq_true h1];rfl
theorem sr{n}{i}:bX n i=if i<0 then i+n else i:=by
 unfold bX
 by_cases h:0≤i
 ·rw[decide_eq_true h,if_neg (by exact zl 31154702365 rfl h)]
 ·rw[decide_eq_false h,if_pos (by exact zl 26063938885 rfl h)]
theorem jY(h:cu l j=some v):∃i,seqIndex? j l.length=some i∧l[i]? =some v∧j<l.length∧-l.length≤j∧(0≤j→i=j.toNat)∧(j<0→i=(j+l.length).toNat):=by
 unfold cu at h
 by_cases q:0≤bX l.length j
 ·rw[decide_eq_true q]at h
  dsimp only at h;have L:=(List.getElem?_eq_some_iff.mp h).1;have e:= @sr l.length j;refine⟨_,mz e.symm q (zl 29461708161 rfl L),h,?_,?_,?_,?_⟩
  ·split at e<;>(first|exact zl 3682720201 rfl ‹_›|exact zl 0x39352cca5d581 rfl L e)
  ·split at e<;>(first|exact zl 0x1546d011e52f0cb1d rfl q e|exact zl 0xaa3680505131d rfl q e)
  ·intro H;rw[e,if_neg (by exact zl 31154702365 rfl H)]
  ·intro H;rw[e,if_pos H]
 ·rw[decide_eq_false q]at h;cases h
section
variable{w:World}{os:OsState}{F:List Env}{L:Nat→fK}{ρ:R}{s:Shared}{W:cy}{Q:Value→Shared→Prop}{E:Value→Shared→Prop}{A:Around}
theorem gW(h:n≤aA):(n:Int)<2^63:=by unfold aA at h;exact zl 0x33d4f485e965f3f rfl h
theorem eE(h:n≤aA):n≤sizeLine:=by unfold aA at h;unfold sizeLine;exact zl 6402895501483839 rfl h
theorem DQ(g:s.heap.get? a=some (w5 m n))(y:m.length≤aA)(r:cW w s.heap W l m)(h:cu l j=some v)
 (K:∀x,VR w s.heap W v x→Q x s):wpAny (model PP w) A (getItem (.ref a) (.int j t)) Q E s:=by
 obtain⟨i,h1,h2,h3,h4,_⟩:=jY h;obtain⟨x,X,f⟩:=r.get h2;have:=gW y;have H:=r.length;exact getItem_tuple ⟨_,g,rfl,n,rfl⟩ (zl 0x146a9e032e1f52efeae27 rfl h4 this H) (zl 0x4f874ead1f4d780c89 rfl h3 this H) (by rw[size_toArray,←H];exact h1) (by simpa using X) (K x f)
theorem yN(g:s.heap.get? a=some (dc m n))(y:m.length≤aA)(r:cW w s.heap W l m)(h:cu l j=some v)
 (K:∀x,VR w s.heap W v x→Q x s):wpAny (model PP w) A (getItem (.ref a) (.int j t)) Q E s:=by
 obtain⟨i,h1,h2,h3,h4,h5,h6⟩:=jY h;obtain⟨x,X,f⟩:=r.get h2;have:=gW y;have H:=r.length
 by_cases N:0≤j
 ·exact wpAny_getItem_list ⟨_,g,rfl,n,rfl⟩ N (zl 0x4f874ead1f4d780c89 rfl h3 this H) (by rw[←h5 N];simpa using X) (K x f)
 ·refine wpAny_getItem_list_neg ⟨_,g,rfl,n,rfl⟩ (zl 26063938885 rfl N) (by rw[size_toArray,←H];exact zl 41465686896167 rfl h4) (zl 0x146a9e032e1f52efeae27 rfl h4 this H) ?_ (K x f)
  rw[size_toArray,←H,←h6 (zl 26063938885 rfl N)];simpa using X
theorem sE{P:V→Prop}(h:match o with|some a=>P a|.none=>False):∃a,o=some a∧P a:=by
 cases o with
 |some a=>exact⟨a,rfl,h⟩
 |none=>exact h.elim
theorem yi(hb:tL x i k)(f:VR w s.heap W x a)(y:VR w s.heap W i b)
 (K:∀v x tk,k v→VR w s.heap W v x→Q x {s with toks:=tk})
 (H:subscripted M false a b=operate [a,b] (getItem a b)):wpAny (model PP w) A (subscriptTail C M a b) Q E s:=by
 refine Classical.byContradiction λm=> ?_;cases x<;>first|exact hb|(cases i<;>first|exact hb|refine m ?_)
 ·rename_i t j
  obtain⟨J,hb⟩:t.cps.toList.length≤aA∧(match cu t.cps.toList j with|some c=>k (.str ⟨#[c]⟩)|.none=>False):=hb;obtain⟨_,rfl⟩:=f.cG;obtain⟨_,rfl⟩:=y.cG;cases e:cu t.cps.toList j with
  |none=>rw[e]at hb;exact hb.elim
  |some c=>
   rw[e]at hb;obtain⟨i,h1,h2,h3,h4,_⟩:=jY e;have:=gW J;refine tail_any rfl slot_str_getitem.lookup (getItem_str ?_ ?_ (K _ _ _ hb (.str ..))) H
   ·simp only[Bool.or_eq_false_iff];exact⟨decide_eq_false (zl 0x789a51087347eae27 rfl h4 this),decide_eq_false (zl 0x1bc718787c60c89 rfl h3 this)⟩
   ·have:t.length=t.cps.toList.length:=by simp[Str.length]
    rw[this,h1];simpa using h2
 ·obtain⟨v,e,hb⟩:=sE hb
  obtain⟨_,rfl⟩:=y.cG;obtain⟨_,_,_,rfl,g,P,Y,B⟩:=f.cG;exact tail_any ⟨_,g,rfl⟩ slot_tuple_getitem.lookup (DQ g Y B e λx r=>K _ x s.toks hb r) H
 ·obtain⟨v,e,hb⟩:=sE hb
  obtain⟨_,rfl⟩:=y.cG;obtain⟨_,_,_,rfl,g,P,Y,B⟩:=f.cG;exact tail_any ⟨_,g,rfl⟩ slot_list_getitem.lookup (yN g Y B e λx r=>K _ x s.toks hb r) H
 ·rename_i l t
  obtain⟨v,e,hb⟩:=sE hb;obtain⟨_,rfl⟩:=y.cG;obtain⟨_,_,rfl,g,P,B⟩:=f.cG;rcases B.find with⟨Z,_⟩|⟨V,X,Z,z,G⟩
  ·rw[Z]at e;cases e
  ·rw[Z]at e;cases e
   exact tail_any g.1.typeIs slot_dict_getitem.lookup (wpAny_getItem_of (strKind_is PP w ..) g.1.mapOf z (K _ _ _ hb G)) H
theorem fH.after(K:fH w os F L ρ s W k Q)(e:KE s.heap W RA.heap RB):fH w os F L ρ RA RB k Q:=
 λr t W' v h S Y o=>K r t W' v h S (e.trans Y) o
theorem w7:ay n i≤n:=by unfold ay;exact zm 1328841106288 rfl ..
theorem yW:clipAt n i=ay n i:=by
 unfold clipAt ay;rw[sr,Int.min_comm]
theorem wB{Y:Type}(l:List Y)(a c):((range c).map (a+ ·)).filterMap (l[·]?)=(l.drop a).take c:=by
 induction c with
 |zero=>simp
 |succ c I=>
  rw[range_succ,map_append,filterMap_append,I,take_add_one];cases h:l[a+c]? <;>simp[h]
theorem ma(j)(h)(o):Gr j h (h.push o):=.fU λ_ _ e=>get?_push_of_some _ e
theorem nZ(r:VR w h W v x)(e:bound n d v=some c):∃lo,IsPart x lo∧c=lo.elim d (ay n)∧∃p,x=partValue p∧p.map (·.1)=lo:=by
 cases r with
 |none=>cases e;exact⟨none,.none,rfl,none,rfl,rfl⟩
 |int i t=>cases e;exact⟨some i,.int i t,rfl,some (i,t),rfl,rfl⟩
 |_=>cases e
theorem zS{x lo H:V}{P:Prop}(hb:MW x lo H k)(J:∀l a b,x=.o l→bound l.length 0 lo=some a→bound l.length l.length H=some b→k (.U ((l.take b).drop a))→P)
 (D:∀(t:Str)a b,x=.str t→t.cps.toList.length≤aA→bound t.cps.toList.length 0 lo=some a→bound t.cps.toList.length t.cps.toList.length H=some b→k (.j (.str ⟨((t.cps.toList.take b).drop a).toArray⟩))→P):P:=by
 cases x with
 |o l=>
  change(match bound l.length 0 lo,bound l.length l.length H with|some a,some b=>k (.U ((l.take b).drop a))|_,_=>False)at hb;generalize g:bound l.length 0 lo=p at hb;generalize j:bound l.length l.length H=q at hb;cases p with
  |none=>exact False.elim hb
  |some a=>
   cases q with
   |none=>exact False.elim hb
   |some b=>exact J l a b rfl g j hb
 |str t=>
  obtain⟨y,hb⟩:=hb;generalize g:bound t.cps.toList.length 0 lo=p at hb;generalize j:bound t.cps.toList.length t.cps.toList.length H=q at hb;cases p with
  |none=>exact False.elim hb
  |some a=>
   cases q with
   |none=>exact False.elim hb
   |some b=>exact D t a b rfl y g j hb
 |_=>exact False.elim hb
theorem Ck{v:List Value}(H:v.length=n)(J O):(slicePick v.toArray J O none).toList=(v.take (O.elim n (ay n))).drop (J.elim 0 (ay n)):=by
 rw[slicePick_plain,drop_take,show clipAt v.toArray.size=ay n by funext i;rw[yW];simp[H]];simp[H]
theorem yd(t:Str):t.length=t.cps.toList.length:=by simp[Str.length]
theorem rA{lo H:Option Int}(z:U.map (·.1)=lo)(u:D.map (·.1)=H):slicePicked t U D none=(range (H.elim t.cps.toList.length (ay t.cps.toList.length)-lo.elim 0 (ay t.cps.toList.length))).map (lo.elim 0 (ay t.cps.toList.length)+ ·):=by
 rw[←sliceRange_one];unfold slicePicked;rw[z,u,yd];unfold Builtin.Str.strSliceIndices;generalize t.cps.toList.length=n;cases lo<;>cases H<;>simp[←yW,clipAt_cast]
theorem C9{lo H:Option Int}(z:U.map (·.1)=lo)(u:D.map (·.1)=H):(slicePicked t U D none).filterMap (t.cps[·]?)=(t.cps.toList.take (H.elim t.cps.toList.length (ay t.cps.toList.length))).drop (lo.elim 0 (ay t.cps.toList.length)):=by
 rw[rA z u,drop_take,←wB];simp
theorem G0{o:Option Int}(hd:d≤n):o.elim d (ay n)≤n:=by
 cases o with
 |none=>exact hd
 |some i=>exact w7
theorem zw{lo H:Option Int}(O:U.map (·.1)=lo)(u:D.map (·.1)=H)(q:(slicePicked t U D none).length=t.length):(t.cps.toList.take (H.elim t.cps.toList.length (ay t.cps.toList.length))).drop (lo.elim 0 (ay t.cps.toList.length))=t.cps.toList:=by
 rw[rA O u,length_map,length_range,yd]at q;have b:=G0 (o:=H) (Nat.le_refl t.cps.toList.length);have a:=G0 (o:=lo) (zero_le t.cps.toList.length);generalize lo.elim 0 (ay t.cps.toList.length)=A at q a⊢;generalize H.elim t.cps.toList.length (ay t.cps.toList.length)=B at q b⊢;generalize t.cps.toList=l at q a b⊢;have g:B=l.length:=Nat.le_antisymm b (q▸Nat.sub_le B A);rw[g]at q⊢;rw[take_length];rcases eq_zero_or_pos A with e|e
 ·rw[e,drop_zero]
 ·have z:l.length=0:=by lia
  rw[length_eq_zero_iff.mp z,drop_nil]
theorem CW{x lo H:V}(hb:MW x lo H k)(S:St w os F L ρ s W)
 (J:(W j).1=1)(f:VR w s.heap W x a)(M:VR w g W lo vl)(u:VR w g W H U)(K:fH w os F L ρ s W k Q)(N:s.heap.get? I=some {cls:=.type "slice",data:=.fields #[vl,U,.none]}):
 wpAny (model PP w) A (subscriptTail v (.Slice O d none p) a (.ref I)) Q E s:=by
 refine zS hb (λl C b X Y Z B=> ?_) λt C b X D Y Z B=> ?_
 ·subst X
  cases f with
  |o g1 g2 g0 g3=>
   rename_i i e n;obtain⟨T,p1,rfl,_⟩:=nZ M Y;obtain⟨P,p2,rfl,_⟩:=nZ u Z;have y:=Ck g3.length.symm T P;refine tail_any ⟨_,g1,rfl⟩ slot_list_getitem.lookup ?_ rfl;refine wpAny_getItem_list_slice ⟨_,g1,rfl,n,rfl⟩ ⟨_,N,rfl,rfl⟩ p1 p2 .none (λz=>nomatch z) ?_ (List.size_toArray▸eE g0);refine K.newList S (ma j ..) J (xs:=(slicePick e.toArray T P none).toList) (get?_push_size _ rfl) ?_ ?_ B
   ·rw[y,length_drop,length_take];exact Nat.le_trans (sub_le ..) (Nat.le_trans (Nat.min_le_right ..) g0)
   ·rw[y];exact(g3.take _).drop _
 ·subst X
  cases f with
  |str _ tk=>
   obtain⟨T,p1,rfl,c,rfl,G⟩:=nZ M Y;obtain⟨P,p2,rfl,h,rfl,m⟩:=nZ u Z;have y:=C9 (t:=t) G m;refine tail_any rfl slot_str_getitem.lookup ?_ rfl;refine wpAny_getItem_str_slice (st:=none) ⟨_,N,rfl,rfl⟩ rfl ?_;unfold sliceMade;split
   ·rename_i q
    rw[zw G m (by simpa using q)]at B;exact K.OG S (.str t tk) B
   ·refine⟨?_,?_⟩
    ·rw[y];show(_:Array Nat).size≤_
     rw[size_toArray,length_drop,length_take];exact Nat.le_trans (sub_le ..) (Nat.le_trans (Nat.min_le_right ..) (eE D))
    ·rw[y];exact K.val S (.str ..) B
theorem HC{x lo H:V}(hb:MW x lo H k)(S:St w os F L ρ s W)
 (f:VR w s.heap W x a)(t:VR w s.heap W lo vl)(U:VR w s.heap W H u)(K:fH w os F L ρ s W k Q):
 wpAny (model PP w) A (subscriptTail v (.Slice O d none p) a (.ref s.heap.objs.size)) Q E {s with heap:=s.heap.push {cls:=.type "slice",data:=.fields #[vl,u,.none]}}:=by
 obtain⟨env,r,j,m,e,C,y,X⟩:=S.head;have g:=ma j s.heap {cls:=.type "slice",data:=.fields #[vl,u,.none]};have N:=get?_push_size s.heap (o:={cls:=.type "slice",data:=.fields #[vl,u,.none]}) rfl;generalize s.heap.push {cls:=.type "slice",data:=.fields #[vl,u,.none]}=h' at g N⊢;have M:=g.ke X λ_ _ _=>rfl;exact CW hb (g.st X (λ_ _ _=>rfl) S) X (f.step M.kp) t U (K.after M) N
end
section
variable{w:World}{os:OsState}{f:List Env}{L:Nat→fK}{ρ:R}{s:Shared}{W:cy}{Q:Value→Shared→Prop}{E:Value→Shared→Prop}{A:Around}{n u:Nat}
theorem yu(hb:zJ x k)(y:VR w s.heap W x a)(K:∀i t tk,k (.int i)→Q (.int i t) {s with toks:=tk}):
 wpAny (model PP w) A (call (.builtin "len") [a]) Q E s:=by
 refine Classical.byContradiction λm=> ?_;cases x<;>first|exact hb|refine m ?_
 ·rename_i t
  obtain⟨_,rfl⟩:=y.cG;have H:t.length=t.cps.toList.length:=by simp[Str.length]
  exact PyProof.Rows.len_str (by rw[H];have:=gW hb.1;exact zl 5344306689376 rfl this) (H▸K _ _ _ hb.2)
 ·obtain⟨_,_,_,rfl,g,P,Y,r⟩:=y.cG
  have:=r.length;exact len_tuple ⟨_,g,rfl,_,rfl⟩ (List.size_toArray▸gW Y) (by rw[size_toArray,←this];exact K _ _ _ hb)
 ·obtain⟨_,_,_,rfl,g,P,Y,r⟩:=y.cG
  have:=r.length;exact len_list ⟨_,g,rfl,_,rfl⟩ (List.size_toArray▸gW Y) (by rw[size_toArray,←this];exact K _ _ _ hb)
noncomputable def ON:B1→Value
|.abs=>.builtin "abs"|.str=>.type "str"|.list=>.type "list"|_=>.builtin "len"
theorem Jp(hb:P7 g x k)(S:St w os f L ρ s W)(y:VR w s.heap W x a)(K:fH w os f L ρ s W k Q):
 wpAny (model PP w) A (call (ON g) [a]) Q E s:=by
 obtain⟨env,O,j,m,rfl,C,Z,X⟩:=S.head;refine Classical.byContradiction λH=> ?_;cases g with
 |z=>exact hb
 |abs=>
  cases x<;>first|exact hb|refine H ?_
  rename_i z;obtain⟨_,rfl⟩:=y.cG;refine call_abs_int λu tk=> ?_;have:(if z<0 then-z else z)=z.natAbs:=by split<;>(first|exact zl 1454885893577 rfl ‹_›|exact zl 5501286463657 rfl ‹_›)
  rw[this];exact K.val S (.int ..) hb
 |str=>
  cases x<;>first|exact hb|refine H ?_
  rename_i z;obtain⟨_,rfl⟩:=y.cG;refine P.str_of_int ?_ (K.val S (.str ..) hb.2)
  by_cases F:z.natAbs=0
  ·rw[F];decide+kernel
  ·have:=(log2_lt F).mpr hb.1
   exact zl 0x509776580ef5da rfl this
 |list=>
  cases x<;>first|exact hb|refine H ?_
  obtain⟨_,_,_,rfl,N,B,Y,r⟩:=y.cG;refine call_list_seq _ (.inl rfl) N rfl rfl (λh' c d D=> ?_) (List.size_toArray▸eE Y);exact K.newList S (.fU d) X D Y r hb
 |len=>exact H (yu (by cases x<;>exact hb:zJ x λv=>k (.j v)) y λi t tk h=>K.val S (.int ..) h)
noncomputable def N9:MO→Value
|.sR=>.builtin "divmod"|.max=>.builtin "max"|_=>.builtin "min"
theorem fH.Fl(K:fH w os f L ρ s W k Q)(S:St w os f L ρ s W)(g:Gr RA s.heap h')(l:(W RA).1=1)(r:VR w h' W v x)(h:k (.j v)):Q x {s with heap:=h',toks:=t}:=
 K (.j v) _ W x h (g.st l (λ_ _ _=>rfl) S) (g.ke l λ_ _ _=>rfl) r
theorem HW(H:DG A f n u)(hb:QG g x y k)(S:St w os f L ρ s W)(t:VR w s.heap W x a)(Y:VR w s.heap W y b)(K:fH w os f L ρ s W k Q):
 wpAny (model PP w) A (call (N9 g) [a,b]) Q E s:=by
 obtain⟨env,r,j,m,rfl,C,G,X⟩:=S.head;refine Classical.byContradiction λO=> ?_;cases g<;>cases x<;>first|exact hb|(cases y<;>first|exact hb|(obtain⟨_,rfl⟩:=t.cG;obtain⟨_,rfl⟩:=Y.cG;apply O))
 ·refine divmod_N (KD G) vw hb.1 (λh' F N=> ?_) (.inl (PyProof.noPylong_of_log2 (mP hb.2.1)))
  exact K.IB S (vo (more:=[_]) G F N) X (N _ (.head _)).1 (by unfold aA;simp) (.cons (.int ..) (.cons (.int ..) .nil)) hb.2.2
 ·rename_i Z z _ _
  refine max_two_N H.handled (KD G) vw λh' tk F N=> ?_;have g:=vo (more:=[]) G F N;replace hb:k (.j (.int (match decide (Z<z)with|true=>z|false=>Z))):=hb
  by_cases q:Z<z
  ·rw[if_pos q,if_pos q];rw[decide_eq_true q]at hb;exact K.Fl S g X (.int ..) hb
  ·rw[if_neg q,if_neg q];rw[decide_eq_false q]at hb;exact K.Fl S g X (.int ..) hb
 ·rename_i Z z _ _
  refine min_two_N H.handled (KD G) vw λh' tk F N=> ?_;have g:=vo (more:=[]) G F N;replace hb:k (.j (.int (match decide (z<Z)with|true=>z|false=>Z))):=hb
  by_cases q:z<Z
  ·rw[if_pos q,if_pos q];rw[decide_eq_true q]at hb;exact K.Fl S g X (.int ..) hb
  ·rw[if_neg q,if_neg q];rw[decide_eq_false q]at hb;exact K.Fl S g X (.int ..) hb
end
section
variable{w:World}{os:OsState}{F:List Env}{P:Nat→fK}{ρ:R}{s:Shared}{W:cy}{E:Value→Shared→Prop}{A:Around}{n u:Nat}
theorem wZ(Q:W a=(t,f))(H:¬qy t)(I:¬uN t)(h6:t≠4)(g:Heap.SameBut a h h'):KE h W h' W:=
 have k:∀b o,(qy (W b).1∨uN (W b).1∨(W b).1=4)→h.get? b=some o→h'.get? b=some o:=λb o l e=>(g.2 b λq=>by
  rw[q,Q]at l;exact l.elim H λl=>l.elim I h6).trans e
 ⟨λb o e l=>⟨k b o (.inl l) e,rfl⟩,λb o e l=>⟨λm q=>cj q λo=>k b o (.inr (.inl l)),rfl⟩,λb o e l=>⟨o,k b o (.inr (.inl l)) e⟩,λV l e=>⟨rfl,#[],by simpa using k 910 _ (.inr (.inr l)) e⟩⟩
theorem vU(Q:W a=(t,f))(g:Heap.SameBut a h h')(H:j≠t):Mv h W j h' W j:=λb o e l=>
 ⟨(g.2 b λq=>by rw[q,Q]at l;exact H l.symm).trans e,by rw[←l]⟩
theorem jR(C:aH w F P ρ h W){S:Mine.Internal.S}{G:Prop}(e:ρ[i]? =some S)(n:S≠.y)(f:∀v,(P i).At h (some v)→a6 w h W (10+i) S v→i<800→G):G:=
 (C.slots i S e).elim λx q=>q.2.elim (λy=>absurd y n) λy=>y.elim λv y=>f v (y.1▸q.1) y.2 (Nat.lt_of_lt_of_le (List.getElem?_eq_some_iff.mp e).1 C.len)
theorem vq:10+i≠4:=zm 44091358614 rfl _
theorem Bd(h:j≠i):10+j≠10+i:=λq=>h (Nat.add_left_cancel q)
theorem Ge{T:Mine.Internal.S}{C:Prop}(h:dk T=some l)(f:(T=.U l∨T=.bl l)→C):C:=by
 cases T<;>first|exact f (.inl (congrArg _ (Option.some.inj h)))|exact f (.inr (congrArg _ (Option.some.inj h)))|cases h
theorem OW{T:Mine.Internal.S}(e:T=.U l∨T=.bl l)(r:a6 w h W t T v):OL w h W t 0 l v:=e.elim (λe=>by subst e;exact r) λe=>by subst e;exact r
theorem JK{T:Mine.Internal.S}(e:T=.U l∨T=.bl l)(r:OL w h W t 0 l' v):a6 w h W t (gy T l') v:=e.elim (λe=>by subst e;exact r) λe=>by subst e;exact r
theorem St.yw(S:St w os F P ρ s W){T:Mine.Internal.S}{C:Prop}(hi:ρ[i]? =some T)(hl:dk T=some l)(hx:(P i).At s.heap (some (.ref a)))
 (wa:W a=(10+i,0))(sb:Heap.SameBut a s.heap h')(e:h'.get? a=some (dc RA n'))(y:RA.length≤aA)(r:cW w s.heap W l' RA)
 (f:St w os F P (ρ.set i (gy T l')) {s with heap:=h',toks:=tk} W→KE s.heap W h' W→C):C:=
 have K:=wZ wa (cg (Nat.lt_of_lt_of_le (List.getElem?_eq_some_iff.mp hi).1 S.H.len)) cn vq sb
 f ⟨S.gens,S.os,S.H.mC K (λj H _=>vU wa sb (Bd H)) λq x M=>⟨_,(hx.qF M).symm,Ge hl λJ=>JK J (.mk e wa y (r.step K.kp))⟩⟩ K
theorem St.yy(S:St w os F P ρ s W){T:Mine.Internal.S}{C:Prop}(hi:ρ[i]? =some T)(hl:dk T=some l)
 (f:∀a vs n,(P i).At s.heap (some (.ref a))→s.heap.get? a=some (dc vs n)→W a=(10+i,0)→vs.length≤aA→cW w s.heap W l vs→C):C:=
 Ge hl λJ=>jR S.H hi (λq=>by rw[q]at hl;cases hl) λv p r _=>by
  cases OW J r with
  |mk h1 h2 h3 h4=>exact f _ _ _ p h1 h2 h3 h4
theorem ri(e:s.heap.get? a=some (dc v n))(y:v.length<aA)
 (K:∀h' Y,h'.get? a=some (dc (v++[x]) Y)→Heap.SameBut a s.heap h'→Q .none {s with heap:=h'}):wpAny (model PP w) A (call (.builtin "list.append") [.ref a,x]) Q E s:=by
 refine wpAny_list_append_plain ⟨n,e⟩ (λh' H S=> ?_) (List.size_toArray▸eE (Nat.le_of_lt y));obtain⟨Y,J⟩:=H;exact K h' Y (by rw[J];simp) S
theorem nG(e:IsL h a items n):h.get? a=some {cls:=.type "list",data:=.seq items n}:=e
theorem wu(e:s.heap.get? a=some (dc v n))(y:v.length≤aA)
 (K:∀h' Y,h'.get? a=some (dc v.reverse Y)→Heap.SameBut a s.heap h'→Q .none {s with heap:=h'}):wpAny (model PP w) A (call (.builtin "list.reverse") [.ref a]) Q E s:=by
 refine call_meets PySem.F.slot_list_reverse ⟨_,e,rfl⟩ PySem.F.entry_list_reverse (PySem.F.args_list_reverse_1 _) (AutoSeq1.list_reverse_list_0 a _ n (List.size_toArray▸eE y)) ⟨e,?_⟩;have q:=IsL.update e (λx=>x.reverse);simp only[reverse_toArray]at q;exact K _ _ (nG q) (SameBut.update ..)
theorem zo{j:Int}(e:s.heap.get? a=some (dc v n))(y:v.length≤aA)(H:0≤j)(h1:j≤v.length)
 (K:∀h' Y,h'.get? a=some (dc (v.take j.toNat++x::v.drop j.toNat) Y)→Heap.SameBut a s.heap h'→Q .none {s with heap:=h'}):wpAny (model PP w) A (call (.builtin "list.insert") [.ref a,.int j t,x]) Q E s:=by
 have:=gW y;refine call_meets PySem.F.slot_list_insert ⟨_,e,rfl⟩ PySem.F.entry_list_insert (PySem.F.args_list_insert_3 ..) (AutoSeq1.list_insert_list_int_val_1 a _ n j t x ?_ (List.size_toArray▸eE y)) ⟨e,?_⟩
 ·unfold Builtin.List.listFitsIndex
  simp;exact zl 0x170a8a61fe9b635f13f9190bb93e7951d rfl H h1 this
 ·have q:=IsL.update e (λxs=>have k:=if j<0 then(j+xs.size).toNat else min j.toNat xs.size;(xs.extract 0 k).push x++xs.extract k)
  have g:(if j<0 then(j+v.toArray.size).toNat else min j.toNat v.toArray.size)=j.toNat:=by rw[if_neg (by exact zl 31154702365 rfl H),size_toArray];exact zl 0xd125b495ac7e rfl h1
  have f:(v.toArray.extract 0 j.toNat).push x++v.toArray.extract j.toNat=(v.take j.toNat++x::v.drop j.toNat).toArray:=by
   apply Array.toList_inj.mp;simp;exact take_of_length_le (by simp)
  simp only[g,f]at q;exact K _ _ (nG q) (SameBut.update ..)
theorem H7(e:s.heap.get? a=some (dc v n))(y:v.length≤aA)(H:v.getLast? =some x)
 (K:∀h' Y,h'.get? a=some (dc v.dropLast Y)→Heap.SameBut a s.heap h'→Q x {s with heap:=h'}):wpAny (model PP w) A (call (.builtin "list.pop") [.ref a]) Q E s:=by
 refine call_meets PySem.F.slot_list_pop ⟨_,e,rfl⟩ PySem.F.entry_list_pop (PySem.F.args_list_pop_1 _) (MeetsSeq.list_pop_last a _ n x ?_ (List.size_toArray▸eE y)) ⟨e,?_⟩
 ·rw[getLast?_eq_getElem?]at H;simpa using H
 ·have q:=IsL.update e (λxs=>xs.eraseIdxIfInBounds (v.toArray.size-1))
  have g:v.toArray.eraseIdxIfInBounds (v.toArray.size-1)=v.dropLast.toArray:=by
   apply Array.toList_inj.mp;have U:v≠[]:=by rintro rfl;cases H
   have:=λz=>U (eq_nil_of_length_eq_zero z);unfold Array.eraseIdxIfInBounds;rw[dif_pos (List.size_toArray▸zl 2881558513037 rfl this),Array.toList_eraseIdx,size_toArray];rw[eraseIdx_eq_take_drop_succ,dropLast_eq_take,drop_eq_nil_of_le (by exact zm 1142628699 rfl _),append_nil]
  simp only[g]at q;exact K _ _ (nG q) (SameBut.update ..)
theorem qh(e:s.heap.get? a=some (dc v n))(y:v.length≤aA)(H:0≤bX v.length j)(h1:bX v.length j<v.length)
 (K:∀h' Y,h'.get? a=some (dc (v.set (bX v.length j).toNat x) Y)→Heap.SameBut a s.heap h'→Q () {s with heap:=h'}):wpAny (model PP w) A (setItem (.ref a) (.int j t) x) Q E s:=by
 have G:=gW y;have I:= @sr v.length j;have f:Builtin.List.listFitsIndex j=true:=by
  unfold Builtin.List.listFitsIndex;simp only[Bool.and_eq_true,decide_eq_true_eq];split at I<;>(first|exact zl 0xa10171addaae2f77ba547f1becc81d rfl H h1 G I|exact zl 0x5080b8d6ed6a84524f91becc81d rfl H h1 G I)
 have L:s.heap.IsList a v.toArray:=⟨_,e,rfl,n,rfl⟩;unfold setItem;try with_reducible refine wpAny_holding ?_
 first|refine wpAny_bind (wpAny_pure ?_)|skip
 refine wpAny_bind (wpAny_sequenceKey L.typeIs rfl ?_);refine wpAny_bind (wpAny_callSpecial?_slot L.typeIs PySem.F.slot_list_setitem
  (wpAny_call_entry PySem.F.slot_list_setitem L.typeIs PySem.F.entry_list_setitem ?_ (PySem.F.args_list_setitem_3 ..)))
 show wpAny _ _ (Builtin.List.listSubscript? (.int j t)>>=_) _ _ s;refine wpAny_bind (wpAny_listSubscript_int f ?_);obtain⟨z,X⟩:∃z,v[(bX v.length j).toNat]? =some z:=⟨_,getElem?_eq_getElem (zl 908491664705565 rfl H h1)⟩;have q:=IsL.update e (λxs=>xs.setIfInBounds (bX v.length j).toNat x);have g:v.toArray.setIfInBounds (bX v.length j).toNat x=(v.set (bX v.length j).toNat x).toArray:=by simp
 simp only[g]at q;have a9:=K _ _ (nG q) (SameBut.update ..)
 by_cases J:0≤j
 ·have N:(bX v.length j).toNat=j.toNat:=by rw[I,if_neg (by exact zl 31154702365 rfl J)]
  rw[N]at X a9;clear q g f I H h1 N;obtain⟨k,rfl⟩:=Int.eq_ofNat_of_zero_le J;refine wpAny_bind (wpAny_bind (wpAny_seqItemAt e rfl (wpAny_pure ?_)));have d:v.toArray[k]? =some z:=by simpa using X
  rw[d];refine wpAny_bind (wpAny_setSeqItemAt e rfl ?_);first
   |exact wpAny_bind (wpAny_pure (wpAny_pure ⟨.none,rfl,wpAny_pure a9⟩))
   |exact wpAny_pure ⟨.none,rfl,wpAny_pure a9⟩
 ·have D:seqIndex? j v.toArray.size=some (bX v.length j).toNat:=List.size_toArray▸mz I.symm H h1
  generalize(bX v.length j).toNat=i at X a9 D;clear q f I H h1;obtain⟨k,rfl⟩:∃k,j=Int.negSucc k:=by
   cases j with
   |ofNat n=>exact absurd (Int.natCast_nonneg n) J
   |negSucc n=>exact⟨n,rfl⟩
  refine wpAny_bind (wpAny_bind ?_);refine wpAny_bind (wpAny_seqItems e rfl (wpAny_pure (wpAny_pure ?_)));have d:v.toArray[i]? =some z:=by simpa using X
  rw[D];simp only[Option.bind_some,d,Option.map_some];refine wpAny_bind (wpAny_setSeqItemAt e rfl ?_);first
   |exact wpAny_bind (wpAny_pure (wpAny_pure ⟨.none,rfl,wpAny_pure a9⟩))
   |exact wpAny_pure ⟨.none,rfl,wpAny_pure a9⟩
end
theorem lX{a:Addr}(H:a<914)(g:(Hd.bD P).get a=some o)(L:alive o=some o):(Hd.H1 P).get? a=some o:=(abs_get H g).trans L
theorem aH.obj(C:aH w fs pl ρ h W){a:Addr}(ha:a<914)(n:a≠910)(g:(Hd.bD w.params).get a=some o)(al:alive o=some o):h.get? a=some o:=(C.base a o (lX ha g al) n).1
noncomputable def KV(P:Params):Frag:=[(318,Hd.J7 P),(317,Hd.KH P),(308,Hd.ob 308 P)]
noncomputable def KM(P:Params):Frag:=[(614,Hd.Kz P),(613,Hd.Kb P),(571,Hd.ob 571 P),(578,Hd.ob 578 P),(585,Hd.ob 585 P),(592,Hd.ob 592 P),(599,Hd.ob 599 P),(606,Hd.ob 606 P),(611,Hd.ob 611 P)]
noncomputable def lL(P:Params):Frag→Prop
|[]=>True
|p::K=>(blt p.1 914=true∧beq p.1 910=false)∧((Hd.bD P).get p.1=some p.2∧alive p.2=some p.2)∧lL P K
theorem tO(C:aH w f L ρ h W){K}(H:lL w.params K):K.In h:=by
 induction K with
 |nil=>intro a o e;cases e
 |cons p K I=>
  intro a o e;obtain⟨⟨h1,h2⟩,⟨h3,h4⟩,h5⟩:=H;rw[lookup_cons]at e;cases q:a==p.1 with
  |true=>
   rw[q]at e;cases e;have:=beq_iff_eq.mp q;subst this;exact C.obj (le_of_ble_eq_true h1) (λz=>by rw[z]at h2;cases h2) h3 h4
  |false=>rw[q]at e;exact I h5 a o e
theorem F5(P):lL P (KV P):=⟨⟨rfl,rfl⟩,⟨by kernel_rfl,by kernel_rfl⟩,⟨rfl,rfl⟩,⟨by kernel_rfl,by kernel_rfl⟩,⟨rfl,rfl⟩,⟨by kernel_rfl,by kernel_rfl⟩,trivial⟩
theorem LX(P):lL P (KM P):=⟨⟨rfl,rfl⟩,⟨by kernel_rfl,by kernel_rfl⟩,⟨rfl,rfl⟩,⟨by kernel_rfl,by kernel_rfl⟩,⟨rfl,rfl⟩,⟨by kernel_rfl,by kernel_rfl⟩,⟨rfl,rfl⟩,⟨by kernel_rfl,by kernel_rfl⟩,⟨rfl,rfl⟩,⟨by kernel_rfl,by kernel_rfl⟩,
 ⟨rfl,rfl⟩,⟨by kernel_rfl,by kernel_rfl⟩,⟨rfl,rfl⟩,⟨by kernel_rfl,by kernel_rfl⟩,⟨rfl,rfl⟩,⟨by kernel_rfl,by kernel_rfl⟩,⟨rfl,rfl⟩,⟨by kernel_rfl,by kernel_rfl⟩,trivial⟩
theorem DP(P):makesIn (KV P) 318=true:=by kernel_rfl
theorem E8(P):makesIn (KM P) 614=true:=by kernel_rfl
noncomputable def Kc(P:Params):Nat→Frag
|0=>KV P
|_=>KM P
theorem oA(C:aH w f L ρ h W)(c):(Kc w.params c).In h:=by
 cases c
 ·exact tO C (F5 _)
 ·exact tO C (LX _)
theorem EU(P)(c):makesIn (Kc P c) (cJ c)=true:=by
 cases c
 ·exact DP P
 ·exact E8 P
theorem KU(P):findIn (KV P) (.ref 318) "__getattribute__"=some (some (.builtin "object.__getattribute__")):=by kernel_rfl
theorem Mr(P):findIn (KM P) (.ref 614) "__getattribute__"=some (some (.builtin "object.__getattribute__")):=by kernel_rfl
theorem Gy(P)(c):findIn (Kc P c) (.ref (cJ c)) "__getattribute__"=some (some (.builtin "object.__getattribute__")):=by
 cases c
 ·exact KU P
 ·exact Mr P
theorem wi(h:9≤n):an n=ofString "":=by
 unfold an;rw[getD_eq_getElem?_getD,getElem?_eq_none (h)];rfl
theorem GX(P)(c n):findIn (Kc P c) (.ref (cJ c)) (an n)=some none:=by
 by_cases h:9≤n
 ·rw[wi h]
  cases c
  ·kernel_rfl
  ·kernel_rfl
 ·have:n=0∨n=1∨n=2∨n=3∨n=4∨n=5∨n=6∨n=7∨n=8:=zl 0x1c965eeed009b08e76951ff19c46812b7393fae57bc40 rfl h
  cases c
  ·show findIn (KV P) (.ref 318) _=_
   rcases this with rfl|rfl|rfl|rfl|rfl|rfl|rfl|rfl|rfl<;>kernel_rfl
  ·show findIn (KM P) (.ref 614) _=_
   rcases this with rfl|rfl|rfl|rfl|rfl|rfl|rfl|rfl|rfl<;>kernel_rfl
theorem Mc(P)(c):hasDictIn (Kc P c) (cJ c)=true:=by
 cases c
 ·kernel_rfl
 ·kernel_rfl
theorem Iu(P)(c):∃C,clsIn (Kc P c) (cJ c)=some C∧C.hasDict=true:=by
 cases c
 ·exact⟨_,rfl,rfl⟩
 ·exact⟨_,rfl,rfl⟩
theorem qN(hd:od.data=.dict es p)(H:StrKeys es):lookIn name od=some (nsFind es name):=by
 unfold lookIn nsFind findBy;rw[hd];dsimp only;rw[←Array.find?_toList];cases q:es.toList.find? (·.key.isStr name)with
 |some e=>rfl
 |none=>
  have:es.toList.any (·.refKey)=false:=by
   rw[any_eq_false];intro e E;obtain⟨n,t,z⟩:=H e (by simpa using E);simp[DictEntry.refKey,z]
  rw[this];rfl
theorem gg(x:iB h a C d)(y:h.Ns d m):∃O od,InstAt h a O C (some od)∧O.dict=some d∧h.get? d=some od∧∀name,lookIn name od=some (m name):=by
 obtain⟨O,g,Q,E,N⟩:=x;obtain⟨od,es,p,g2,d1,d2,d3⟩:=y;exact⟨O,od,⟨g,Q,by unfold notCls;rw[N],E▸g2⟩,E,g2,λname=>by rw[qN d1 d2,d3]⟩
theorem nY{E:Value→Shared→Prop}(C:aH w f L ρ s.heap W)(i:iB s.heap a (cJ c) d)(y:s.heap.Ns d m)(e:m (an n)=some x)(H:handedIn x=true)
 (h:Q x {s with toks:=s.toks+1}):wpAny (model PP w) A (getAttr (.ref a) (an n) true) Q E s:=by
 obtain⟨O,od,I,_,_,R⟩:=gg i y;exact get_value (oA C c) I (Gy _ c) (findObj_own (Mc ..) (GX ..) rfl ((R _).trans (congrArg some e))) H h
theorem rp(r:VR w h W v x):handedIn x=true:=by cases r<;>rfl
theorem Mi(P)(c):findIn (Kc P c) (.ref (cJ c)) "__setattr__"=some (some (.builtin "object.__setattr__")):=by
 cases c
 ·kernel_rfl
 ·kernel_rfl
theorem Fs(P)(c):plainOver (Kc P c) (cJ c)=true:=by
 cases c
 ·kernel_rfl
 ·kernel_rfl
theorem zk(H:es.findIdx? (·.key.isStr name)=none):nsFind es name=none:=by
 unfold nsFind findBy;have:es.find? (·.key.isStr name)=none:=by
  rw[Array.findIdx?_eq_none_iff]at H;rw[Array.find?_eq_none];intro x X;simpa using H x X
 rw[this];rfl
theorem qc(H:StrKeys es.toArray):∃u Y,Obj.putName name (PyData.keyHash P name) (.str name tk) v (tG es n)=tG u Y∧StrKeys u.toArray∧
 (u.length≤es.length∨u.length=es.length+1∧nsFind es.toArray name=none)∧∀y,nsFind u.toArray y=if y=name then some v else nsFind es.toArray y:=by
 cases I:es.toArray.findIdx? (·.key.isStr name)with
 |some i=>
  refine⟨(es.toArray.modify i λe=>{e with val:=v}).toList,n,by simp only[Obj.putName_eq,Obj.putNameByArray,I],by simpa using H.modify i v,.inl (by simp),λy=> ?_⟩;have:=findBy_modify (λn v=>v.isStr n) Value.isStr_inj es.toArray name y v i I;simpa[nsFind]using this
 |none=>
  refine⟨(es.toArray.push ⟨PyData.keyHash P name,.str name tk,v⟩).toList,n+1,by simp only[Obj.putName_eq,Obj.putNameByArray,I],by simpa using H.push _ name tk v,.inr ⟨by simp,zk I⟩,λy=> ?_⟩;have:=findBy_push (λn v=>v.isStr n) es.toArray name y (PyData.keyHash P name) (.str name tk) v (λy=>by
   show(name==y)=decide (y=name)
   by_cases h:y=name
   ·subst h;simp
   ·have:¬name=y:=λe=>h e.symm
    simp[h,this]) I
  simpa[nsFind]using this
theorem vY{E:Value→Shared→Prop}(C:aH w f p ρ s.heap W)(i:iB s.heap a (cJ c) d)(g:s.heap.get? d=some (tG es n))(H:StrKeys es.toArray)(L:es.length≤100)
 (h:∀h' u Y tk,h'.get? d=some (tG u Y)→Heap.SameBut d s.heap h'→StrKeys u.toArray→(u.length≤es.length∨u.length=es.length+1∧nsFind es.toArray (an k)=none)→(∀y,nsFind u.toArray y=if y=an k then some x else nsFind es.toArray y)→Q () {s with heap:=h',toks:=tk}):
 wpAny (model PP w) A (setAttr (.ref a) (an k) x) Q E s:=by
 obtain⟨O,od,I,hd,G,R⟩:=gg i ⟨_,_,n,g,rfl,H,λ_=>rfl⟩;rw[g]at G;cases G;have X:=oA C c;apply set_plain X I (Mi _ c);refine osa_open X I (Fs _ c) (by unfold takerIn;rw[GX];rfl) λb=> ?_;obtain⟨D,F,S⟩:=Iu w.params c;obtain⟨u,Y,p1,p2,p3,p4⟩:=qc (P:=w.params) (name:=an k) (tk:=s.toks+1) (v:=x) (n:=n) H;obtain⟨V,N,m,-⟩:=I;obtain⟨o,j,M,J⟩:=O;dsimp only at N hd;subst N hd;refine wpAny_bind (wpAny_pure (wpAny_bind (wpAny_bind (wpAny_loadPart V (wpAny_bind (looks_clsIn X F _ _ _ _ (λ_ _ e=>e) ?_))))));rw[S];refine wpAny_pure (wpAny_bind (wpAny_pure (wpAny_bind ?_)));unfold nsSet;refine wpAny_bind (wpAny_bind (wpAny_askSetting (wpAny_pure (wpAny_bind (wpAny_mkText (wpAny_bind (wpAny_loadPart g ?_)))))));dsimp only;have r:(!es.toArray.any (·.key.isStr (an k))&&es.toArray.any (·.refKey))=false:=by
  have:es.toArray.any (·.refKey)=false:=by
   rw[Array.any_eq_false'];intro e Z;obtain⟨n,t,z⟩:=H e Z;simp[DictEntry.refKey,z]
  rw[this,Bool.and_false]
 rw[aRefKeyMayBeTheName_at,r];have U:(s.heap.update d (Obj.putName (an k) (PyData.keyHash w.params (an k)) (.str (an k) (s.toks+1)) x)).get? d=some (tG u Y):=p1▸Heap.get?_update_self _ g (by rw[p1];rfl);refine wpAny_updatePart g ?_;refine wpAny_bind (wpAny_lookBehind U (pastItsLine_dict (by rw[size_toArray,sizeLine_eq];rcases p3 with p3|p3<;>(first|exact zl 0xb247a6eb319b473b1cf rfl L p3|exact zl 0x2c91e9baccd815832bb1cf rfl L p3.1))) ?_);exact wpAny_pure (h _ u Y _ U (SameBut.update ..) p2 p3 p4)
section
variable{w:World}{os:OsState}{F:List Env}{L:Nat→fK}{ρ:R}{s:Shared}{W:cy}{E:Value→Shared→Prop}{A:Around}{n u:Nat}
theorem AF(P)(c):plainGet (Kc P c) (cJ c) "__class__"=true∧hasDictIn (Kc P c) (cJ c)=true∧findIn (Kc P c) (.ref (cJ c)) "__class__"=some (some (.builtin "object.__class__"))∧
 mroIn (Kc P c) (cJ c) (.type "object")=some true∧subIn (Kc P c) (.ref (cJ c)) (.type "str")=some false∧findIn (Kc P c) (.ref (cJ c)) "__getattr__"=some none:=by
 cases c
 ·show plainGet (KV P) 318 "__class__"=true∧hasDictIn (KV P) 318=true∧findIn (KV P) (.ref 318) "__class__"=some (some (.builtin "object.__class__"))∧mroIn (KV P) 318 (.type "object")=some true∧subIn (KV P) (.ref 318) (.type "str")=some false∧findIn (KV P) (.ref 318) "__getattr__"=some none
  exact⟨by kernel_rfl,by kernel_rfl,by kernel_rfl,by kernel_rfl,by kernel_rfl,by kernel_rfl⟩
 ·show plainGet (KM P) 614 "__class__"=true∧hasDictIn (KM P) 614=true∧findIn (KM P) (.ref 614) "__class__"=some (some (.builtin "object.__class__"))∧mroIn (KM P) 614 (.type "object")=some true∧subIn (KM P) (.ref 614) (.type "str")=some false∧findIn (KM P) (.ref 614) "__getattr__"=some none
  exact⟨by kernel_rfl,by kernel_rfl,by kernel_rfl,by kernel_rfl,by kernel_rfl,by kernel_rfl⟩
theorem HB(P)(c):specialIn (Kc P c) (.builtin "object.__class__") "__get__"=some (some (.builtin "getset_descriptor.__get__"))∧takesIn (Kc P c) (.builtin "object.__class__")=some true:=by
 cases c
 ·show specialIn (KV P) (.builtin "object.__class__") "__get__"=some (some (.builtin "getset_descriptor.__get__"))∧takesIn (KV P) (.builtin "object.__class__")=some true
  exact⟨by kernel_rfl,by kernel_rfl⟩
 ·show specialIn (KM P) (.builtin "object.__class__") "__get__"=some (some (.builtin "getset_descriptor.__get__"))∧takesIn (KM P) (.builtin "object.__class__")=some true
  exact⟨by kernel_rfl,by kernel_rfl⟩
noncomputable def JV:Nat→Value
|0=>.ref 318
|2=>.type "list"
|_=>.type "str"
noncomputable def JF(c:Nat)(x:V)(k:Bool→Prop):Prop:=(c=0∧∃F,x=.dn 0 F∧k true)∨(c=2∧∃b,x=.bool b∧k false)∨(c=3∧((∃s,x=.str s∧k true)∨(∃l,x=.o l∧k false)∨∃d F,x=.dn d F∧k false))
theorem O2(h:k true):JF 0 (.dn 0 f) k:=.inl ⟨rfl,_,rfl,h⟩
theorem O8(h:k false):JF 2 (.bool b) k:=.inr (.inl ⟨rfl,_,rfl,h⟩)
theorem N6(h:k true):JF 3 (.str gs) k:=.inr (.inr ⟨rfl,.inl ⟨_,rfl,h⟩⟩)
theorem Oo(h:k false):JF 3 (.o l) k:=.inr (.inr ⟨rfl,.inr (.inl ⟨_,rfl,h⟩)⟩)
theorem OZ(h:k false):JF 3 (.dn d f) k:=.inr (.inr ⟨rfl,.inr (.inr ⟨_,_,rfl,h⟩)⟩)
theorem Mh(hb:EP c x k):JF c x k:=by
 rcases c with _|_|_|_|c
 ·cases x with
  |dn d F=>
   cases d with
   |zero=>exact O2 hb
   |succ d=>exact False.elim hb
  |_=>exact False.elim hb
 ·cases x<;>exact False.elim hb
 ·cases x with
  |bool b=>exact O8 hb
  |_=>exact False.elim hb
 ·cases x with
  |str s=>exact N6 hb
  |o l=>exact Oo hb
  |dn d F=>exact OZ hb
  |_=>exact False.elim hb
 ·cases x<;>exact False.elim hb
theorem wW{P:Prop}(hb:EP c x k)(H:∀F,c=0→x=.dn 0 F→k true→P)(h2:∀b,c=2→x=.bool b→k false→P)(h3:∀s,c=3→x=.str s→k true→P)
 (h4:∀l,c=3→x=.o l→k false→P)(h5:∀d F,c=3→x=.dn d F→k false→P):P:=
 (Mh hb).elim (λ⟨e,F,f,h⟩=>H F e f h) λq=>q.elim (λ⟨e,b,f,h⟩=>h2 b e f h) λ⟨e,q⟩=>q.elim (λ⟨s,f,h⟩=>h3 s e f h) λq=>q.elim (λ⟨l,f,h⟩=>h4 l e f h) λ⟨d,F,f,h⟩=>h5 d F e f h
theorem Hk(C:aH w F L ρ s.heap W)(hb:EP c x k)(f:VR w s.heap W x a)(K:∀b tk,k b→Q (.bool b) {s with toks:=tk}):
 wpAny (model PP w) A (call (.builtin "isinstance") [a,JV c]) Q E s:=by
 refine wW hb (λF H X q=> ?_) (λb H X q=> ?_) (λt H X q=> ?_) (λl H X q=> ?_) λd F H X q=> ?_<;>subst H<;>subst X
 ·cases f with
  |dn i G J P j=>
   obtain⟨O,od,I,_⟩:=gg i J;exact isi_call (tO C (F5 _)) (λM=>I.type) (by unfold isIn;rfl) (by intro e;cases e) (K true s.toks q)
 ·cases f;exact IsiPair.bool_list (K false _ q)
 ·cases f;exact IsiPair.str_str (K true s.toks q)
 ·cases f with
  |o g m Y r=>exact IsiPair.isList_str ⟨_,g,rfl,_,rfl⟩ (λ_ _ e=>e) (K false _ q)
 ·cases f with
  |dn i G J P j=>
   obtain⟨O,od,I,_⟩:=gg i J;obtain⟨h1,h2,h3,h4,h5,h6⟩:=AF w.params d;obtain⟨g1,g2⟩:=HB w.params d;exact kin_call h1 h2 h3 g1 g2 h4 (oA C d) I (λM h' x=>.of_pure (by kernel_rfl)) (λM h' x=>.of_pure rfl) (rfl) (λM h' x=>looks_subIn x h5) (K false _ q)
theorem Bu(O:c.cps.toList=[C])(H:i≤1000)(g:0≤i)
 (K:∀j k,Q (.str (eG t i C) j) {s with toks:=k}):wpAny (model PP w) A (call (.builtin "str.rjust") [.str t tk,.int i D,.str c f]) Q E s:=by
 have:=xD O;subst this;refine PyProof.Rows.rjust_fill ?_ rfl λj k=> ?_
 ·unfold PadOk fitsSsize
  have h1:(decide (i< -(2^63))||decide (i≥2^63))=false:=by simp only[Bool.or_eq_false_iff];exact⟨decide_eq_false (zl 0x39a19e9048d81d rfl g),decide_eq_false (zl 0x727e27a0ddd15ae rfl H)⟩
  have h2:Builtin.Str.tooLong i.toNat=false:=by unfold Builtin.Str.tooLong;exact decide_eq_false (by unfold sizeLine;exact zl 0xe4f6b68b810d15ae rfl H)
  rw[h1,h2];rfl
 ·have e:Txt.rjustF t i (Array.getD #[C] 0 0)=eG t i C:=by
   have z:=PyProof.Rows.rjustF_list t i C;have:t.length=t.cps.toList.length:=by simp[Str.length]
   rw[this]at z;have q:∀a b:Str,a.cps.toList=b.cps.toList→a=b:=λa b e=>by cases a;cases b;exact congrArg Str.mk (Array.toList_inj.mp e)
   exact q _ _ (z.trans (by unfold eG;rfl))
  rw[e];exact K ..
theorem Bh(r:cW w h W l m):∀{ss},hH l=some ss→StrsAre m ss:=by
 induction r with
 |nil=>exactλe=>Option.some.inj e▸.nil
 | @cons v x l xs r b I=>
  intro ss e;cases r with
  |str y t=>
   change(hH l).map (y:: ·)=some ss at e;generalize hH l=o at e I;cases o with
   |none=>cases e
   |some Y=>cases e;exact .cons y t (I rfl)
  |_=>cases e
theorem lY(p)(l):(dK (p::l)).cps=p.cps++(dK l).cps:=cps_append p (dK l)
theorem xl(l):∀c,l.foldl (λc p=>c++(⟨#[]⟩:Str).cps++p.cps) c=c++(dK l).cps:=by
 induction l with
 |nil=>exactλc=>(Array.append_empty).symm
 |cons p l I=>intro c;rw[foldl_cons,I,lY,Array.append_empty,Array.append_assoc]
theorem D1(l):Txt.join ⟨#[]⟩ l=dK l:=by
 unfold Txt.join Builtin.Str.glued;have q:∀a b:Str,a.cps=b.cps→a=b:=λa b e=>by cases a;cases b;exact congrArg Str.mk e
 apply q;cases l with
 |nil=>rfl
 |cons p l=>
  rw[drop_one,tail_cons,headD_cons,xl];exact(lY p l).symm
theorem Bf(l):(l.map (·.length)).sum=(dK l).cps.toList.length:=by
 induction l with
 |nil=>rfl
 |cons p l I=>
  rw[map_cons,sum_cons,I];rw[lY,Array.toList_append,List.length_append];rfl
theorem EM(g:t.cps.toList=[])(x:VR w s.heap W (.o l) b)(e:hH l=some ss)(J:(dK ss).cps.toList.length≤aA)
 (K:∀H k,Q (.str (dK ss) H) {s with toks:=k}):wpAny (model PP w) A (call (.builtin "str.join") [.str t tk,b]) Q E s:=by
 have:t=⟨#[]⟩:=by obtain⟨⟨c⟩⟩:=t;simp only at g;subst g;rfl
 subst this;cases x with
 |o Y P y r=>
  refine PyProof.Rows.join_list ⟨_,Y,rfl,_,rfl⟩ (by simpa using Bh r e) ?_ λH k=>by rw[D1];exact K H k
  rw[Bf];have:=eE J;unfold sizeLine at this;simpa[Str.length]using this
theorem DT(f:VR w s.heap W (.lI l) a)
 (K:∀v tk,VR w s.heap W ((a4 x l).getD .none) v→Q v {s with toks:=tk}):wpAny (model PP w) A (call (.builtin "dict.get") [a,.str x tk]) Q E s:=by
 cases f with
 |lI g P r=>
  refine call_meetsIn PySem.F.slot_dict_get g.1.typeIs PySem.F.entry_dict_get (PySem.F.args_dict_get_2 ..) (meets_dict_get (PySem.strKind PP w) _ (strKind_is PP w x tk) g.2) ⟨_,g.1.mapOf,?_⟩;rcases r.find with⟨Z,z⟩|⟨v,y,Z,z,G⟩
  ·rw[z];rw[Z]at K;exact K _ _ .none
  ·rw[z];rw[Z]at K;exact K _ _ G
theorem zq(C:aH w F L ρ s.heap W){plain:Sem Bool}(i:iB s.heap a (cJ c) d)(y:s.heap.Ns d m)(e:m name=none)
 (H:findIn (Kc w.params c) (.ref (cJ c)) name=some (some (.ref f)))(t:typeIn (Kc w.params c) (.ref f)=some (.type "function"))
 (h:Q (.ref f,[.ref a]) s):wpAny (model PP w) A (getMethod (.ref a) name plain) Q E s:=by
 obtain⟨O,od,I,_,_,S⟩:=gg i y;obtain⟨_,_,_,_,_,h6⟩:=AF w.params c;refine method_fn (oA C c) I (Gy _ c) h6 H t ?_ h;unfold shadowIn;simp only[S,e];rfl
end
noncomputable def aQ(n:Str):List (Str×Nat)→Option Nat
|[]=>none
|x::r=>match ax n x.1 with
 |true=>some x.2
 |false=>aQ n r
noncomputable def bP(n:Str):List Str→Bool
|[]=>false
|x::r=>match ax n x with
 |true=>true
 |false=>bP n r
structure Cf where
 nm:List (Str×Nat)
 gs:List Str
 cl:List Str
 lv:Nat
 Gu:Bool
 lm:Bool
structure Fn where
 I:Addr
 name:Str
 kd:Nat
 tS:Nat
structure hW where
 g:Nat→Fn
 top:Nat
set_option backward.match.sparseCases false in
noncomputable def aB:Expr→Bool
|.Set .. =>false
|.Slice .. =>false
|.Starred .. =>false
|.Call (.Name ..) [] [] _=>false
|_=>true
set_option backward.match.sparseCases false in
noncomputable def Ao:E→Bool
|.comp .. =>true
|.Y e=>Ao e
|_=>false
set_option backward.match.sparseCases false in
noncomputable def tK:E→Bool
|.ag .. =>true
|.ny .. =>true
|.Dy .. =>true
|.Hp .. =>true
|.d .. =>true
|.call .. =>true
|.gi .. =>true
|.tT .. =>true
|.K=>true
|_=>false
noncomputable def M0:B1→Str
|.abs=>ofString "abs"|.str=>ofString "str"|.list=>ofString "list"|_=>ofString "len"
noncomputable def Ni:MO→Str
|.sR=>ofString "divmod"|.max=>ofString "max"|_=>ofString "min"
noncomputable def Hc:Nat→Str
|0=>ofString "Vector"|2=>ofString "list"|_=>ofString "str"
noncomputable def HL:Nat→Str
|0=>ofString "Vector"|_=>ofString "Matching"
noncomputable def iA(nm:List (Str×Nat))(j:Nat):List (Str×NameKind)→List (Str×Nat)
|[]=>[]
|(n,.local)::r=>(match ax n (ofString ".0")with|true=>iA nm j r|false=>(n,j)::iA nm j r)
|(n,.cell)::r=>(n,j)::iA nm j r
|(n,.free)::r=>(match aQ n nm with|some i=>(n,i)::iA nm j r|none=>iA nm j r)
|_::r=>iA nm j r
noncomputable def t7:List (Str×NameKind)→List Str
|[]=>[]
|(n,.globalImplicit)::r=>n::t7 r
|_::r=>t7 r
noncomputable def uG:List (Str×NameKind)→List Str
|[]=>[]
|(n,.cell)::r=>n::uG r
|(n,.free)::r=>n::uG r
|_::r=>uG r
noncomputable def sf(C:Cf)(j:Nat)(sc:Scope):Cf:=⟨iA C.nm j sc.names,t7 sc.names,uG sc.names,C.lv,C.Gu,false⟩
structure HS(cf:Cf)(t:Str)(j:Nat)(sc:Scope):Prop where
 kind:sc.kind=.function
 BM:(sc.names.map (·.1)).Nodup
 has:sc.names.lookup t=some .local∨sc.names.lookup t=some .cell
 QH:(t==("__debug__":Str))=false∧(t==("__classdict__":Str))=false
 cel:∀n,(n,NameKind.cell)∈sc.names→n=t
 free:∀n,(n,NameKind.free)∈sc.names→n∈cf.cl∧n≠t
 nm:∀n i,aQ n (iA cf.nm j sc.names)=some i→(n=t∧i=j)∨(sc.names.lookup n=some .free∧aQ n cf.nm=some i∧i≠j)
 gl:∀n∈t7 sc.names,sc.names.lookup n=some .globalImplicit∧(n==("__debug__":Str))=false
 QP:∀n∈uG sc.names,(sc.names.lookup n=some .cell∧n=t)∨(sc.names.lookup n=some .free∧n∈cf.cl)
theorem aL(h:(a&&b)=true):a=true:=Bool.rec (λh=>h) (λ_=>rfl) a h
theorem aR(h:(a&&b)=true):b=true:=Bool.rec (λh=>nomatch h) (λh=>h) a h
theorem oE(h:(a||b)=true):a=true∨b=true:=Bool.rec .inr (λ_=>.inl rfl) a h
theorem nE(h:(!a)=true):a=false:=Bool.rec (λ_=>rfl) (λh=>nomatch h) a h
theorem pf:bP n l=true→n∈l:=by
 induction l with
 |nil=>exactλh=>nomatch h
 |cons x r I=>
  show(match ax n x with|true=>true|false=>bP n r)=true→_;cases e:ax n x with
  |true=>exactλ_=>aD.mp e▸.head _
  |false=>exactλh=>.tail _ (I h)
theorem rn:bP n l=false→n∉l:=by
 induction l with
 |nil=>exactλ_ h=>nomatch h
 |cons x r I=>
  show(match ax n x with|true=>true|false=>bP n r)=false→_;cases e:ax n x with
  |true=>exactλh=>nomatch h
  |false=>exactλh m=>(mem_cons.mp m).elim (λq=>bB e q.symm) (I h)
noncomputable def qp(n:Str)(nm:List (Str×Nat))(i:Nat):Bool:=match aQ n nm with
 |some j=>beq i j
 |none=>false
theorem bL:qp n nm i=true→aQ n nm=some i:=by
 unfold qp;cases aQ n nm with
 |some j=>exactλh=>congrArg some (eq_of_beq_eq_true h).symm
 |none=>exactλh=>nomatch h
noncomputable def rk:List Str→Bool
|[]=>true
|n::r=> !bP n r&&rk r
theorem fT:rk l=true→l.Nodup:=by
 induction l with
 |nil=>exactλ_=>nodup_nil
 |cons n r I=>exactλh=>nodup_cons.mpr ⟨rn (nE (aL h)),I (aR h)⟩
theorem lQ{a b:Str}(h:¬b=a):(a==b)=false:=by simpa usingλe=>h (Eq.symm e)
noncomputable def FH:Str:=("__debug__")
noncomputable def Q9:Str:=("__classdict__")
noncomputable def ze(n:Str):Bool:= !ax n FH&& !ax n Q9
theorem gO(h:ze n=true):(n==("__debug__"))=false∧(n==("__classdict__"))=false:=⟨lQ (bB (nE (aL h))),lQ (bB (nE (aR h)))⟩
noncomputable def rZ(sc:Scope):Bool:=decide (sc.kind=.function)
noncomputable def kB(k:NameKind)(k':NameKind):Bool:=decide (k'=k)
theorem bN{l:List (Str×NameKind)}:(l.map (·.1)).Nodup→(n,k)∈l→l.lookup n=some k:=by
 induction l with
 |nil=>exactλ_ h=>nomatch h
 |cons m l I=>
  intro N h;have N:=nodup_cons.mp N;rw[lookup_cons];rcases mem_cons.mp h with e|h
  ·subst e;rw[beq_self_eq_true]
  ·rw[lQ λq=>N.1 (mem_map.mpr ⟨_,h,q.symm⟩)]
   exact I N.2 h
noncomputable def J3(C:Cf)(t:Str)(j:Nat)(x:Str×NameKind):Bool:=
 (kB .local x.2&&(ax x.1 t||ax x.1 (ofString ".0")))||((kB .cell x.2&&ax x.1 t)||((kB .free x.2&&(!ax x.1 t&&(bP x.1 C.cl&& !qp x.1 C.nm j)))||(kB .globalImplicit x.2&& !ax x.1 FH)))
noncomputable def jP(t:Str)(x:Str×NameKind):Bool:=(kB .local x.2||kB .cell x.2)&&ax x.1 t
noncomputable def Gn(C:Cf)(t:Str)(j:Nat)(sc:Scope):Bool:=rZ sc&&(rk (sc.names.map (·.1))&&(sc.names.any (jP t)&&(ze t&&sc.names.all (J3 C t j))))
theorem dR:aQ n ((m,a)::r)=some i→(n=m∧a=i)∨aQ n r=some i:=by
 show(match ax n m with|true=>some a|false=>aQ n r)=some i→_;cases e:ax n m with
 |true=>exactλq=>.inl ⟨aD.mp e,Option.some.inj q⟩
 |false=>exact .inr
theorem tW{n:Str}:aQ n (iA nm j l)=some i→∃k,(n,k)∈l∧(k=.local∧i=j∧¬n=ofString ".0"∨k=.cell∧i=j∨k=.free∧aQ n nm=some i):=by
 induction l with
 |nil=>exactλh=>nomatch h
 |cons p l I=>
  have U:=λz=>(I z).imp λk z=>And.intro (mem_cons_of_mem p z.1) z.2;obtain⟨m,k⟩:=p;cases k with
  |«local»=>
   show aQ n (match ax m (Str.ofString ".0")with|true=>iA nm j l|false=>(m,j)::iA nm j l)=some i→_;cases e:ax m (ofString ".0")with
   |true=>exact U
   |false=>exactλh=>(dR h).elim (λq=>⟨_,q.1▸.head _,.inl ⟨rfl,q.2.symm,λz=>bB e (q.1▸z.symm)⟩⟩) U
  |cell=>exactλh=>(dR h).elim (λq=>⟨_,q.1▸.head _,.inr (.inl ⟨rfl,q.2.symm⟩)⟩) U
  |free=>
   show aQ n (match aQ m nm with|some i=>(m,i)::iA nm j l|none=>iA nm j l)=some i→_;cases e:aQ m nm with
   |none=>exact U
   |some a=>exactλh=>(dR h).elim (λq=>⟨_,q.1▸.head _,.inr (.inr ⟨rfl,q.1▸q.2▸e⟩)⟩) U
  |_=>exact U
theorem pJ:n∈t7 l→(n,NameKind.globalImplicit)∈l:=by
 induction l with
 |nil=>exactλh=>nomatch h
 |cons p l I=>
  obtain⟨m,k⟩:=p;cases k with
  |globalImplicit=>exactλh=>(mem_cons.mp h).elim (λq=>q▸.head _) λh=>.tail _ (I h)
  |_=>exactλh=>.tail _ (I h)
theorem u7:n∈uG l→∃k,(n,k)∈l∧(k=.cell∨k=.free):=by
 induction l with
 |nil=>exactλh=>nomatch h
 |cons p l I=>
  have U:=λz=>(I z).imp λk z=>And.intro (mem_cons_of_mem p z.1) z.2;obtain⟨m,k⟩:=p;cases k with
  |cell=>exactλh=>(mem_cons.mp h).elim (λq=>⟨_,q▸.head _,.inl rfl⟩) U
  |free=>exactλh=>(mem_cons.mp h).elim (λq=>⟨_,q▸.head _,.inr rfl⟩) U
  |_=>exact U
theorem Ed(h:J3 C t j (n,k)=true):(k=.local∧(n=t∨n=ofString ".0"))∨(k=.cell∧n=t)∨(k=.free∧n≠t∧n∈C.cl∧qp n C.nm j=false)∨(k=.globalImplicit∧¬FH=n):=
 (oE h).imp (λh=>⟨of_decide_eq_true (aL h),(oE (aR h)).imp aD.mp aD.mp⟩) λh=>(oE h).imp (λh=>⟨of_decide_eq_true (aL h),aD.mp (aR h)⟩) λh=>
  (oE h).imp (λh=>⟨of_decide_eq_true (aL h),λq=>bB (nE (aL (aR h))) q.symm,pf (aL (aR (aR h))),nE (aR (aR (aR h)))⟩) λh=>⟨of_decide_eq_true (aL h),bB (nE (aR h))⟩
theorem Cg(h:Gn C t j sc=true):HS C t j sc:=by
 have N:=fT (aL (aR h));have T:=λ{n k}M=>Ed (all_eq_true.mp (aR (aR (aR (aR h)))) (n,k) M);refine⟨of_decide_eq_true (aL h),N,?_,gO (aL (aR (aR (aR h)))),λn H=> ?_,λn H=> ?_,λn i I=> ?_,λn H=> ?_,λn H=> ?_⟩
 ·obtain⟨⟨n,k⟩,M,G⟩:=any_eq_true.mp (aL (aR (aR h)))
  have e:=aD.mp (aR G);subst e;exact(oE (aL G)).imp (λq=>(of_decide_eq_true q:k=.local)▸bN N M) λq=>(of_decide_eq_true q:k=.cell)▸bN N M
 ·rcases T H with⟨q,_⟩|⟨_,q⟩|⟨q,_⟩|⟨q,_⟩<;>first|exact q|cases q
 ·rcases T H with⟨q,_⟩|⟨q,_⟩|⟨_,Q,R,_⟩|⟨q,_⟩<;>first|exact⟨R,Q⟩|cases q
 ·obtain⟨k,m,K⟩:=tW I
  have E:=T m;rcases K with⟨rfl,rfl,ne⟩|⟨rfl,rfl⟩|⟨rfl,e⟩
  ·rcases E with⟨_,q|q⟩|⟨q,_⟩|⟨q,_⟩|⟨q,_⟩<;>first|exact .inl ⟨q,rfl⟩|exact absurd q ne|cases q
  ·rcases E with⟨q,_⟩|⟨_,q⟩|⟨q,_⟩|⟨q,_⟩<;>first|exact .inl ⟨q,rfl⟩|cases q
  ·rcases E with⟨q,_⟩|⟨q,_⟩|⟨_,_,_,q⟩|⟨q,_⟩<;>first|exact .inr ⟨bN N m,e,λz=>by subst z;unfold qp at q;rw[e]at q;exact Bool.false_ne_true (q.symm.trans (beq_refl i))⟩|cases q
 ·have m:=pJ H
  rcases T m with⟨q,_⟩|⟨q,_⟩|⟨q,_⟩|⟨_,q⟩<;>first|exact⟨bN N m,lQ q⟩|cases q
 ·obtain⟨k,m,K⟩:=u7 H
  have E:=T m;rcases K with rfl|rfl
  ·rcases E with⟨q,_⟩|⟨_,q⟩|⟨q,_⟩|⟨q,_⟩<;>first|exact .inl ⟨bN N m,q⟩|cases q
  ·rcases E with⟨q,_⟩|⟨q,_⟩|⟨_,_,q,_⟩|⟨q,_⟩<;>first|exact .inr ⟨bN N m,q⟩|cases q
noncomputable def PU:Expr:=.Name ⟨#[]⟩ ⟨0,0,0,0⟩
abbrev x0(l:List Expr):List Expr×Nat×Str×Scope×Bool:=(l,0,⟨#[]⟩,default,true)
set_option backward.match.sparseCases false in
noncomputable def xA:Expr→List Expr×Nat×Str×Scope×Bool
|.BoolOp _ xs _=>x0 xs
|.BinOp l _ r _=>x0 [l,r]
|.UnaryOp _ y _=>x0 [y]
|.Lambda _ y s _=>([y],0,⟨#[]⟩,s,true)
|.IfExp t a b _=>x0 [t,a,b]
|.ListComp e gs s _=>(e::gs.flatMap λg=>g.target::g.iter::g.ifs,0,⟨#[]⟩,s,false)
|.SetComp .. =>([],0,⟨#[]⟩,default,false)
|.DictComp .. =>([],0,⟨#[]⟩,default,false)
|.Compare l _ C _=>x0 (l::C)
|.Call f xs _ _=>x0 (f::xs)
|.Attribute y _ _=>x0 [y]
|.Subscript y z _=>x0 [y,z]
|.List xs _=>x0 xs
|.Tuple xs k _=>(xs,k,⟨#[]⟩,default,true)
|.Slice l u _ _=>x0 [l.getD PU,u.getD PU]
|.Constant _ k _=>([],k,⟨#[]⟩,default,true)
|.Name n _=>([],0,n,default,true)
|_=>x0 []
noncomputable def bR(x:Expr):=(xA x).1
noncomputable def Gv(x:Expr):=(xA x).2.1
noncomputable def fi(x:Expr):=(xA x).2.2.1
noncomputable def qx(x:Expr):=(xA x).2.2.2.1
noncomputable def d5(x:Expr):=(xA x).2.2.2.2
noncomputable def hd:List Expr→Expr
|[]=>PU
|x::_=>x
noncomputable def kd(x:Expr):Nat→Expr
|0=>hd (bR x)
|1=>hd (bR x).tail
|2=>hd (bR x).tail.tail
|_=>hd (bR x).tail.tail.tail
noncomputable def vX(x:Expr):Expr:=.Name (fi x) x.pos
noncomputable def nX(n:Str)(x:Expr):Expr:=.Name n x.pos
noncomputable def Cc:EB→Expr→Expr
|.v _,x=>vX x
|.f _ n,x=>.Attribute (vX (kd x 0)) (an n) x.pos
section
variable(g:Nat→Fn)
set_option backward.match.sparseCases false in
mutual
noncomputable def aO:E→Expr→Expr
|.X,x=>.Constant .none (Gv x) x.pos
|.cB b,x=>.Constant (.bool b) (Gv x) x.pos
|.p i,x=>.Constant (.int i) (Gv x) x.pos
|.M s,x=>.Constant (.str s) (Gv x) x.pos
|.tC _,x=>nX (Str.ofString "MOST_LENGTH") x
|.d _,x=>vX x
|.JC _,x=>vX x
|.qv i n,x=>Cc (.f i n) x
|.w o a b,x=>.BinOp (aO a (kd x 0)) (xQ o) (aO b (kd x 1)) x.pos
|.neg a,x=>.UnaryOp .USub (aO a (kd x 0)) x.pos
|.fL a,x=>.UnaryOp .Not (aO a (kd x 0)) x.pos
|.Q es,x=>.BoolOp .And (bC es (bR x)) x.pos
|.cD es,x=>.BoolOp .Or (bC es (bR x)) x.pos
|.ite t a b,x=>.IfExp (aO t (kd x 0)) (aO a (kd x 1)) (aO b (kd x 2)) x.pos
|.ag o a b,x=>.Compare (aO a (kd x 0)) [uX o] [aO b (kd x 1)] x.pos
|.ny o q a b c,x=>.Compare (aO a (kd x 0)) [uX o,uX q] [aO b (kd x 1),aO c (kd x 2)] x.pos
|.Dy m y p,x=>.Compare (aO y (kd x 0)) [uX (LI m)] [Cc p (kd x 1)] x.pos
|.Hp p,x=>.Compare (Cc p (kd x 0)) [.NotEq] [.List [] (kd x 1).pos] x.pos
|.L es,x=>.Tuple (bC es (bR x)) (Gv x) x.pos
|.Z es,x=>.List (bC es (bR x)) x.pos
|.sub a i,x=>.Subscript (aO a (kd x 0)) (aO i (kd x 1)) x.pos
|.dZ p i,x=>.Subscript (Cc p (kd x 0)) (aO i (kd x 1)) x.pos
|.sl a lo H,x=>.Subscript (aO a (kd x 0)) (.Slice (match oz lo with|true=>none|false=>some (aO lo (kd (kd x 1) 0))) (match oz H with|true=>none|false=>some (aO H (kd (kd x 1) 1))) none (kd x 1).pos) x.pos
|.J a n,x=>.Attribute (aO a (kd x 0)) (an n) x.pos
|.j5 p,x=>.Call (nX (Str.ofString "len") (kd x 0)) [Cc p (kd x 1)] [] x.pos
|.call f as,x=>.Call (nX (g f).name (kd x 0)) (bC as (bR x).tail) [] x.pos
|.P f _ as,x=>.Call (nX (g f).name (kd x 0)) (vX (kd x 1)::bC as (bR x).tail.tail) [] x.pos
|.gi f _ as,x=>.Call (.Attribute (vX (kd (kd x 0) 0)) (g f).name (kd x 0).pos) (bC as (bR x).tail) [] x.pos
|.new c _ as,x=>.Call (nX (HL c) (kd x 0)) (bC as (bR x).tail) [] x.pos
|.b1 o a,x=>.Call (nX (M0 o) (kd x 0)) [aO a (kd x 1)] [] x.pos
|.b2 o a b,x=>.Call (nX (Ni o) (kd x 0)) [aO a (kd x 1),aO b (kd x 2)] [] x.pos
|.tT a c,x=>.Call (nX (Str.ofString "isinstance") (kd x 0)) [aO a (kd x 1),nX (Hc c) (kd x 2)] [] x.pos
|.JB _,x=>.Call (.Attribute (vX (kd (kd x 0) 0)) (Str.ofString "pop") (kd x 0).pos) [] [] x.pos
|.join a b,x=>.Call (.Attribute (aO a (kd (kd x 0) 0)) (Str.ofString "join") (kd x 0).pos) [aO b (kd x 1)] [] x.pos
|.jD a b c,x=>.Call (.Attribute (aO a (kd (kd x 0) 0)) (Str.ofString "rjust") (kd x 0).pos) [aO b (kd x 1),aO c (kd x 2)] [] x.pos
|.wJ a b,x=>.Call (.Attribute (aO a (kd (kd x 0) 0)) (Str.ofString "get") (kd x 0).pos) [aO b (kd x 1)] [] x.pos
|.comp _ I c e,x=>.ListComp (aO e (kd x 0)) [⟨vX (kd x 1),aO I (kd x 2),match oz c with|true=>[]|false=>[aO c (kd x 3)],0⟩] (qx x) x.pos
|.eX as,x=>.Call (nX (Str.ofString "range") (kd x 0)) (bC as (bR x).tail) [] x.pos
|.Y e,x=>aO e x
|.jU e,x=>aO e x
|.D e,x=>aO e x
|_,x=>x
noncomputable def bC:E→List Expr→List Expr
|.cons e es,xs=>(match lh e with
 |true=>[]
 |false=>aO e (hd xs)::bC es xs.tail)
|_,_=>[]
end
noncomputable def FP(C:Cf):EB→Expr→Bool
|.v i,x=>qp (fi x) C.nm i
|.f i _,x=>qp (fi (kd x 0)) C.nm i
set_option backward.match.sparseCases false in
noncomputable def wO:E→Bool
|.cons e es=>lh e||wO es
|_=>false
noncomputable def Pz:List Expr→Bool
|[]=>false
|_::_=>true
theorem w9(h:Pz l=true):∃y Y,l=y::Y:=by
 cases l with
 |nil=>cases h
 |cons y Y=>exact⟨y,Y,rfl⟩
noncomputable def Lr(C:Cf)(f k r:Nat):Bool:=beq (g f).kd k&&(blt f C.lv&&ble (g f).tS r)
noncomputable def Jw(x y:Expr):Bool:=x.pos.endLine==y.pos.line
set_option backward.match.sparseCases false in
mutual
noncomputable def bT:E→Cf→Expr→Bool
|.X,_,_=>true
|.cB _,_,_=>true
|.p _,_,_=>true
|.M _,_,_=>true
|.tC i,C,_=>decide (i=1000000)&&bP (Str.ofString "MOST_LENGTH") C.gs
|.d i,C,x=>qp (fi x) C.nm i
|.JC i,C,x=>qp (fi x) C.nm i
|.qv i _,C,x=>qp (fi (kd x 0)) C.nm i
|.w _ a b,C,x=>bT a C (kd x 0)&&bT b C (kd x 1)
|.neg a,C,x=>bT a C (kd x 0)
|.fL a,C,x=>bT a C (kd x 0)
|.Q es,C,x=>Ey es C (bR x)
|.cD es,C,x=>Ey es C (bR x)
|.ite t a b,C,x=>Ap t C (kd x 0)&&(bT a C (kd x 1)&&bT b C (kd x 2))
|.ag _ a b,C,x=>aB (aO g b (kd x 1))&&(bT a C (kd x 0)&&bT b C (kd x 1))
|.ny _ _ a b c,C,x=>aB (aO g b (kd x 1))&&(aB (aO g c (kd x 2))&&(bT a C (kd x 0)&&(bT b C (kd x 1)&&bT c C (kd x 2))))
|.Dy _ y p,C,x=>bT y C (kd x 0)&&FP C p (kd x 1)
|.Hp p,C,x=>FP C p (kd x 0)
|.L es,C,x=> !wO es&&qo es C (bR x)
|.Z es,C,x=> !wO es&&qo es C (bR x)
|.sub a i,C,x=>aB (aO g i (kd x 1))&&(bT a C (kd x 0)&&bT i C (kd x 1))
|.dZ p i,C,x=>aB (aO g i (kd x 1))&&(FP C p (kd x 0)&&bT i C (kd x 1))
|.sl a lo H,C,x=>bT a C (kd x 0)&&((oz lo||bT lo C (kd (kd x 1) 0))&&(oz H||bT H C (kd (kd x 1) 1)))
|.J a _,C,x=>aB (aO g a (kd x 0))&&bT a C (kd x 0)
|.j5 p,C,x=>bP (Str.ofString "len") C.gs&&FP C p (kd x 1)
|.call f as,C,x=>bP (g f).name C.gs&&(Lr g C f 0 (bC g as (bR x).tail).length&&qo as C (bR x).tail)
|.P f i as,C,x=>bP (g f).name C.gs&&(Lr g C f 0 ((bC g as (bR x).tail.tail).length+1)&&(qp (fi (kd x 1)) C.nm i&&qo as C (bR x).tail.tail))
|.gi f i as,C,x=>Jw (kd x 0) x&&(Lr g C f 1 ((bC g as (bR x).tail).length+1)&&(qp (fi (kd (kd x 0) 0)) C.nm i&&(qo as C (bR x).tail&&Nat.blt (bC g as (bR x).tail).length 20)))
|.new c f as,C,x=>bP (HL c) C.gs&&(Lr g C f (2+c) ((bC g as (bR x).tail).length+1)&&(Nat.blt c 2&&qo as C (bR x).tail))
|.b1 o a,C,x=>bP (M0 o) C.gs&&(aB (aO g a (kd x 1))&&bT a C (kd x 1))
|.b2 o a b,C,x=>bP (Ni o) C.gs&&(aB (aO g a (kd x 1))&&(aB (aO g b (kd x 2))&&(bT a C (kd x 1)&&bT b C (kd x 2))))
|.tT a c,C,x=>bP (Str.ofString "isinstance") C.gs&&(bP (Hc c) C.gs&&(aB (aO g a (kd x 1))&&bT a C (kd x 1)))
|.JB i,C,x=>Jw (kd x 0) x&&qp (fi (kd (kd x 0) 0)) C.nm i
|.join a b,C,x=>Jw (kd x 0) x&&(aB (aO g a (kd (kd x 0) 0))&&(aB (aO g b (kd x 1))&&(bT a C (kd (kd x 0) 0)&&bT b C (kd x 1))))
|.jD a b c,C,x=>Jw (kd x 0) x&&(aB (aO g a (kd (kd x 0) 0))&&(aB (aO g b (kd x 1))&&(aB (aO g c (kd x 2))&&(bT a C (kd (kd x 0) 0)&&(bT b C (kd x 1)&&bT c C (kd x 2))))))
|.wJ a b,C,x=>Jw (kd x 0) x&&(aB (aO g a (kd (kd x 0) 0))&&(aB (aO g b (kd x 1))&&(bT a C (kd (kd x 0) 0)&&bT b C (kd x 1))))
|.comp j I c e,C,x=>qp (fi (kd x 1)) (iA C.nm j (qx x).names) j&&(Gn C (fi (kd x 1)) j (qx x)&&(aB (aO g I (kd x 2))&&(bT I C (kd x 2)&&(MT c (sf C j (qx x)) (kd x 3)&&bT e (sf C j (qx x)) (kd x 0)))))
|.eX as,C,x=>bP (Str.ofString "range") C.gs&&(!wO as&&(Pz (bC g as (bR x).tail)&&qo as C (bR x).tail))
|.K,_,x=>d5 x
|.Y e,C,x=>bT e C x
|.jU e,C,x=>bT e C x
|.D e,C,x=>bT e C x
|_,_,_=>false
noncomputable def qo:E→Cf→List Expr→Bool
|.nil,_,_=>true
|.cons e es,C,xs=>(match lh e with
 |true=>iw es
 |false=>aB (aO g e (hd xs))&&(bT e C (hd xs)&&qo es C xs.tail))
|_,_,_=>false
noncomputable def Ey:E→Cf→List Expr→Bool
|.nil,_,_=>true
|.cons e es,C,xs=> !lh e&&(bT e C (hd xs)&&((iw es||Pz (bC g es xs.tail))&&Ey es C xs.tail))
|_,_,_=>false
noncomputable def Ap:E→Cf→Expr→Bool
|.fL a,C,x=>Ap a C (kd x 0)
|.Q es,C,x=>sH es C (bR x)
|.cD es,C,x=>sH es C (bR x)
|.ite t a b,C,x=>Ap t C (kd x 0)&&(Ap a C (kd x 1)&&Ap b C (kd x 2))
|.D e,C,x=>bT e C x&&tK e
|_,_,_=>false
noncomputable def MT:E→Cf→Expr→Bool
|.no,_,_=>true
|.D e,C,x=>Ap e C x
|_,_,_=>false
noncomputable def sH:E→Cf→List Expr→Bool
|.nil,_,_=>true
|.cons e es,C,xs=> !lh e&&(Ap e C (hd xs)&&sH es C xs.tail)
|_,_,_=>false
end
end
noncomputable def Aq:Option Obj→List DictEntry
|some ⟨_,_,.dict es _,_⟩=>es.toList
|_=>[]
noncomputable def H4:Option Obj→Nat
|some ⟨_,_,.dict _ p,_⟩=>p
|_=>0
noncomputable def dS(P:Params):List DictEntry:=Aq ((Hd.bD P).get 3)
noncomputable def CF(P:Params):List DictEntry:=Aq ((Hd.bD P).get 0)
noncomputable def gU:Value→Option Str
|.str n _=>some n
|_=>none
theorem qY:(gU v).isSome=true→∃n t,v=.str n t:=by
 cases v<;>first|exactλ_=>⟨_,_,rfl⟩|exactλh=>nomatch h
noncomputable def uz(l:List DictEntry):Bool:=l.all λe=>(gU e.key).isSome
theorem cL(h:uz l=true):StrKeys l.toArray:=λe H=>qY (all_eq_true.mp h e (by simpa using H))
noncomputable def aY(n:Str):List DictEntry→Option Value
|[]=>none
|e::r=>match gU e.key with
 |some m=>(match ax n m with
  |true=>some e.val
  |false=>aY n r)
 |none=>aY n r
theorem iT:StrKeys l.toArray→nsFind l.toArray n=aY n l:=by
 unfold nsFind findBy;rw[←Array.find?_toList];induction l with
 |nil=>exactλ_=>rfl
 |cons x l I=>
  intro h;obtain⟨m,t,e⟩:=h x (by simp);show((x::l).find? _).map _=(match gU x.key with
   |some m=>(match ax n m with
    |true=>some x.val
    |false=>aY n l)
   |none=>aY n l)
  rw[find?_cons,e];show((match m==n with|true=>some x|false=>l.find? _)).map _=(match ax n m with|true=>some x.val|false=>aY n l);cases q:ax n m with
  |true=>rw[aD.mp q,beq_self_eq_true];rfl
  |false=>rw[lQ λz=>bB q z.symm];exact I λe H=>h e (by simp at H⊢;exact .inr H)
theorem vg(P):(Hd.bD P).get 3=some (tG (dS P) (H4 ((Hd.bD P).get 3))):=by kernel_rfl
theorem Ff(P):(Hd.bD P).get 0=some (tG (CF P) (H4 ((Hd.bD P).get 0))):=by kernel_rfl
theorem jj(P):uz (dS P)=true:=by kernel_rfl
theorem tY(P):uz (CF P)=true:=by kernel_rfl
inductive DC(fs:List Env)(h:Heap)(a:Addr)(T:Option Addr)(m:Str):Prop where
 |mk {oe vs d hd md t} (g:h.get? a=some oe) (c1:oe.cls=.ref 291) (c2:oe.dict=some d) (c3:oe.data=.fields vs) (c4:vs[1]? =some hd)
  (c5:match T with
   |none=>hd=.none
   |some t=>hd=.ref t∧t≠a∧∃oT ts fl,h.get? t=some oT∧oT.data=.fields ts∧ts[3]? =some fl) (nd:h.Ns d md) (em:md (Str.ofString "message")=some (.str m t))
  (fr:∀env∈fs,env.scope.kind≠.module∧∃L m',env.frame=some L∧h.Ns L m')
inductive XS(os:OsState)(fs:List Env)(h:Heap)(W:cy)(a:Addr)(m:Str)(s':Shared):Prop where
 |mk {T} (gens:s'.gens= #[]) (os:s'.os=os) (keep:KE h W s'.heap W) (fly:DC fs s'.heap a T m)
  (nn:∀b o,h.get? b=some o→(qy (W b).1∨uN (W b).1)→b≠a∧T≠some b) (tb:(W 910).1=4→∀vs,h.get? 910=some (cK vs)→910≠a∧T≠some 910)
theorem KE.self(k:KE h W h' W'):KE h W h' W:=
 ⟨λa o e l=>⟨(k.ex a o e l).1,rfl⟩,λa o e l=>⟨(k.sl a o e l).1,rfl⟩,k.there,λV l e=>⟨rfl,(k.iZ V l e).2⟩⟩
theorem XS.pre{os fs h W RA RB a m s'}(k:KE h W RA RB):XS os fs RA RB a m s'→XS os fs h W a m s'
|.mk g o e f n tb=>.mk g o (KE.self (k.trans e)) f
 (λb o e' l=>l.elim (λl=>have z:=k.ex b o e' l;n b o z.1 (.inl (z.2▸l))) λl=>(k.there b o e' l).elim λo' z=>n b o' z (.inr ((k.sl b o e' l).2▸l)))
 λl vs e=>have z:=k.iZ vs l e;z.2.elim λ_ e'=>tb (z.1▸l) _ e'
structure jL(cf:Cf)(env:Env)(pl:Nat→fK):Prop where
 kind:env.scope.kind=.function
 vd:env.globals=mainGlobals
 blt:env.builtins=builtinsNs
 d:∀n i,aQ n cf.nm=some i→(n==("__debug__":Str))=false∧(n==("__classdict__":Str))=false∧
  ((env.kindOf n=some .local∧pl i=.ns env.locals n)∨((env.kindOf n=some .cell∨env.kindOf n=some .free)∧∃c,env.cells.lookup n=some c∧pl i=.cell c))
 IX:∀n∈cf.cl,∃c,env.cells.lookup n=some c∧(env.kindOf n=some .cell∨env.kindOf n=some .free)∧∀i,aQ n cf.nm=some i→pl i=.cell c
 gl:∀n∈cf.gs,env.kindOf n=some .globalImplicit∧(n==("__debug__":Str))=false
section
variable{w:World}{F:List Env}{L:Nat→fK}{ρ:R}{s:Shared}{W:cy}{E:Value→Shared→Prop}{A:Around}{f:Cf}{env:Env}{Q:Value→Shared→Prop}{M:Model}
theorem Bo(O:jL f env L)(h:aQ n f.nm=some i)(a:(L i).At s.heap (some v))(q:Q v s):wpAny M A (loadName env n) Q E s:=
 have z:=O.d n i h
 z.2.2.elim (λy=>(y.2▸a).elim λm e=>wpAny_loadName_local O.kind y.1 e.1 e.2 q) λy=>y.2.elim λc e=>
  have S:(fK.cell c).At s.heap (some v):=e.2▸a
  y.1.elim (λk=>wpAny_loadName_cell O.kind k e.1 S q) λk=>wpAny_loadName_free O.kind k e.1 S q z.2.1
theorem bz(O:jL f env L)(h:aQ n f.nm=some i)(a:(L i).At s.heap (some v))(q:Q v s):wpAny M A (eval (.Name n p) env) Q E s:=
 wpAny_Name (Bo O h a q) (O.d n i h).1
theorem aH.main(C:aH w F L ρ s.heap W):s.heap.Ns mainGlobals (λn=>aY n (dS w.params)):=
 ⟨_,_,_,C.obj (by decide) (by decide) (vg _) rfl,rfl,cL (jj _),λn=>iT (cL (jj _))⟩
theorem aH.blt(C:aH w F L ρ s.heap W):s.heap.Ns builtinsNs (λn=>aY n (CF w.params)):=
 ⟨_,_,_,C.obj (by decide) (by decide) (Ff _) rfl,rfl,cL (tY _),λn=>iT (cL (tY _))⟩
noncomputable def dy(P:Params)(n:Str)(v:Value):Prop:=aY n (dS P)=some v∨aY n (dS P)=none∧aY n (CF P)=some v
theorem dx(O:jL f env L)(C:aH w F L ρ s.heap W)(h:bP n f.gs=true)(e:dy w.params n v)(q:Q v s):wpAny M A (eval (.Name n p) env) Q E s:=
 have z:=O.gl n (pf h)
 Name_function_global O.kind z.1 (e.elim (λe=>loadGlobal_global (mg:=λn=>aY n (dS w.params)) (O.vd▸C.main) e q)
  λe=>loadGlobal_builtin (mg:=λn=>aY n (dS w.params)) (mb:=λn=>aY n (CF w.params)) (O.vd▸C.main) e.1 (O.blt▸C.blt) e.2 q) z.2
end
set_option backward.match.sparseCases false in
noncomputable def bp:E→Nat
|.w _ a b=>max (bp a) (bp b)|.neg a=>bp a|.fL a=>bp a|.Q a=>bp a|.cD a=>bp a|.ite t a b=>max (bp t) (max (bp a) (bp b))
|.ag _ a b=>max (bp a) (bp b)|.ny _ _ a b c=>max (bp a) (max (bp b) (bp c))|.Dy _ x _=>bp x|.L a=>bp a|.Z a=>bp a|.cons a b=>max (bp a) (bp b)|.jU e=>bp e
|.sub a b=>max (bp a) (bp b)|.dZ _ a=>bp a|.sl a b c=>max (bp a) (max (bp b) (bp c))|.J a _=>bp a|.call _ a=>bp a|.P _ _ a=>bp a|.gi _ _ a=>bp a|.new _ _ a=>bp a
|.b1 _ a=>bp a|.b2 _ a b=>max (bp a) (bp b)|.tT a _=>bp a|.join a b=>max (bp a) (bp b)|.jD a b c=>max (bp a) (max (bp b) (bp c))|.wJ a b=>max (bp a) (bp b)
|.comp _ a b c=>max (bp a) (max (bp b) (bp c))+2|.eX a=>bp a|.cZ _ _ a=>bp a|.D a=>bp a|.Y a=>bp a
|_=>0
theorem mL{a b u:Nat}(h:max a b≤u):a≤u:=Nat.le_trans (Nat.le_max_left ..) h
theorem mR{a b u:Nat}(h:max a b≤u):b≤u:=Nat.le_trans (Nat.le_max_right ..) h
structure Fr(fn:hW)where
 cf:Cf
 env:Env
 fs:List Env
 pl:Nat→fK
 A:Around
 u:Nat
 O:jL cf env pl
 hA:DG A fs cf.lv u
 tp:cf.lv≤fn.top
structure Zt(w:World)(os:OsState)(fs:List Env)(pl:Nat→fK)where
 ρ:R
 s:Shared
 W:cy
 S:St w os fs pl ρ s W
section
variable{w:World}{os:OsState}{F:List Env}{P:Nat→fK}
noncomputable abbrev Le(z d:Zt w os F P):Prop:=KE z.s.heap z.W d.s.heap d.W
noncomputable def KQ(z:Zt w os F P)(k:Rv→R→Prop)(Q:Value→Shared→Prop):Prop:=∀r Z v,k r Z.ρ→Le z Z→a6 w Z.s.heap Z.W 2 r.s v→Q v Z.s
noncomputable def KX(z:Zt w os F P)(X:Str→Prop)(E:Value→Shared→Prop):Prop:=∀m a S,X m→XS os F z.s.heap z.W a m S→E (.ref a) S
noncomputable def GY(z:Zt w os F P)(k:Bool→R→Prop)(Q:Bool→Shared→Prop):Prop:=∀c Z,k c Z.ρ→Le z Z→Q c Z.s
noncomputable def QQ(z:Zt w os F P)(len:Nat)(d:Bool)(k:List V→R→Prop)(Q:List Value→Shared→Prop):Prop:=∀s n Z xs,(d=false→n=0)→k (s++replicate n .none) Z.ρ→Le z Z→cW w Z.s.heap Z.W s xs→xs.length=len→Q xs Z.s
variable{z z₁:Zt w os F P}{k:Rv→R→Prop}{X:Str→Prop}{Q:Value→Shared→Prop}{E:Value→Shared→Prop}
theorem KQ.after(K:KQ z k Q)(e:Le z z₁):KQ z₁ k Q:=λr Z v h J o=>K r Z v h (e.trans J) o
theorem KX.after(K:KX z X E)(e:Le z z₁):KX z₁ X E:=λm a S h x=>K m a S h (x.pre e)
theorem GY.after{k:Bool→R→Prop}{Q:Bool→Shared→Prop}(K:GY z k Q)(e:Le z z₁):GY z₁ k Q:=λc Z h J=>K c Z h (e.trans J)
theorem KQ.res(K:KQ z k Q):fH w os F P z.ρ z.s z.W (λr=>k r z.ρ) Q:=λr S W' v h s e o=>K r ⟨z.ρ,S,W',s⟩ v h e o
theorem KQ.j(K:KQ z k Q)(r:VR w z.s.heap z.W v x)(h:k (.j v) z.ρ):Q x {z.s with toks:=t}:=K (.j v) ⟨z.ρ,_,z.W,z.S.mX⟩ x h .refl r
theorem KQ.JI(K:KQ z k Q)(r:VR w z.s.heap z.W v x)(h:k (.j v) z.ρ):Q x z.s:=K (.j v) z x h .refl r
noncomputable abbrev Zt.Y(z:Zt w os F P):Zt w os F P:=⟨z.ρ,z.s,λa=>lb 2 0 (z.W a),z.S.gens,z.S.os,z.S.H.br⟩
noncomputable abbrev Zt.tk(z:Zt w os F P)(t:Nat):Zt w os F P:=⟨z.ρ,{z.s with toks:=t},z.W,z.S.mX⟩
end
section
variable(w:World)(os:OsState)(F:Nat→Spec)(fn:hW)
noncomputable def au(e:E):Prop:=∀(c:Fr fn)(z:Zt w os c.fs c.pl)x k X Q E,
 bT fn.g e c.cf x=true→bp e≤c.u→ev F e z.ρ k X→KQ z k Q→KX z X E→wpAny (model PP w) c.A (eval (aO fn.g e x) c.env) Q E z.s
noncomputable def jS(es:E):Prop:=∀(c:Fr fn)(z:Zt w os c.fs c.pl)xs p k X Q E,
 Ey fn.g es c.cf xs=true→bp es≤c.u→yO F es z.ρ k X→KQ z k Q→KX z X E→wpAny (model PP w) c.A (eval (.BoolOp .And (bC fn.g es xs) p) c.env) Q E z.s
noncomputable def oY(es:E):Prop:=∀(c:Fr fn)(z:Zt w os c.fs c.pl)xs p k X Q E,
 Ey fn.g es c.cf xs=true→bp es≤c.u→FC F es z.ρ k X→KQ z k Q→KX z X E→wpAny (model PP w) c.A (eval (.BoolOp .Or (bC fn.g es xs) p) c.env) Q E z.s
noncomputable def gG(e:E):Prop:=∀(c:Fr fn)(z:Zt w os c.fs c.pl)x k X Q E,
 Ap fn.g e c.cf x=true→bp e≤c.u→tr F e z.ρ k X→GY z k Q→KX z X E→wpAny (model PP w) c.A (isTrue (aO fn.g e x) c.env (eval (aO fn.g e x) c.env)) Q E z.s
noncomputable def rH(e:E):Prop:=∀(c:Fr fn)(z:Zt w os c.fs c.pl)x k X Q E,
 bT fn.g e c.cf x=true→bp e≤c.u→ev F e z.ρ (λx ρ=>match x.v with|.bool c=>k c ρ|_=>False) X→GY z k Q→KX z X E→wpAny (model PP w) c.A (isTrue (aO fn.g e x) c.env (eval (aO fn.g e x) c.env)) Q E z.s
noncomputable def oO(es:E):Prop:=∀(c:Fr fn)(z:Zt w os c.fs c.pl)xs p W k X Q E,
 sH fn.g es c.cf xs=true→bp es≤c.u→xM F es z.ρ k X→GY z k Q→KX z X E→wpAny (model PP w) c.A (isTrue (.BoolOp .And (bC fn.g es xs) p) c.env W) Q E z.s
noncomputable def pV(es:E):Prop:=∀(c:Fr fn)(z:Zt w os c.fs c.pl)xs p W k X Q E,
 sH fn.g es c.cf xs=true→bp es≤c.u→FA F es z.ρ k X→GY z k Q→KX z X E→wpAny (model PP w) c.A (isTrue (.BoolOp .Or (bC fn.g es xs) p) c.env W) Q E z.s
noncomputable def pR(es:E):Prop:=∀(c:Fr fn)(z:Zt w os c.fs c.pl)xs p k X Q E,
 qo fn.g es c.cf xs=true→bp es≤c.u→De F es z.ρ k X→QQ z (bC fn.g es xs).length (wO es) k Q→KX z X E→wpAny (model PP w) c.A (spliced (backTo p (starEach (bC fn.g es xs) c.env))) Q E z.s
end
section
variable{w:World}{os:OsState}{F:Nat→Spec}{fn:hW}
theorem gA(H:au w os F fn e){c:Fr fn}{z:Zt w os c.fs c.pl}{Q E:Value→Shared→Prop}(o:bT fn.g e c.cf x=true)(u:bp e≤c.u)(h:ev F e z.ρ k X)(K:KX z X E)
 (next:∀r(d:Zt w os c.fs c.pl)v,k r d.ρ→Le z d→VR w d.s.heap d.W r.v v→Q v d.s):wpAny (model PP w) c.A (eval (aO fn.g e x) c.env) Q E z.s:=
 H c z x k X Q E o u h (λr d v h' J O=>next r d.Y v h' (J.trans KE.br) (a6.cC KE.br.kp Fz.wX O)) K
theorem aE{y}{Y}{env}(h:aB y=true):starEach (y::Y) env=(false,eval y env)::starEach Y env:=by
 cases y<;>first|rfl|cases h
theorem iL(h:aB y=true):behindInMarks op y=false:=by
 cases y<;>first|rfl|cases h
theorem mT(h:aB y=true)(a b):subscripted y false a b=operate [a,b] (getItem a b):=by
 cases y<;>first|rfl|cases h
theorem eJ(h:aB y=true):attributeBase y n env t=t:=by
 cases y with
 |Call f a k p=>
  cases f<;>first|rfl|(cases a<;>first|rfl|(cases k<;>first|rfl|cases h))
 |_=>first|rfl|cases h
@[elab_as_elim] theorem Qe{P:Int→Prop}{C:Value→Prop}(p:match v with|.int i=>P i|_=>False)(r:VR w h W v x)(f:∀i t,P i→C (.int i t)):C x:=by
 cases r<;>first|exact p.elim|exact f _ _ p
@[elab_as_elim] theorem Md{P:Bool→Prop}{C:Value→Prop}(p:match v with|.bool i=>P i|_=>False)(r:VR w h W v x)(f:∀i,P i→C (.bool i)):C x:=by
 cases r<;>first|exact p.elim|exact f _ p
@[elab_as_elim] theorem Nx{P:Str→Prop}{C:Value→Prop}(p:match v with|.str i=>P i|_=>False)(r:VR w h W v x)(f:∀i t,P i→C (.str i t)):C x:=by
 cases r<;>first|exact p.elim|exact f _ _ p
theorem NH:au w os F fn .X:=λc z x k X Q E o H h K _=>wpAny_Constant_none (K.JI .none h)
theorem N5:au w os F fn (.cB b):=λc z x k X Q E o H h K _=>wpAny_Constant_bool (K.JI (.bool b) h)
theorem N4:au w os F fn (.p i):=λc z x k X Q E o H h K _=>wpAny_Constant_int (K.j (.int i _) h)
theorem Nw:au w os F fn (.M i):=λc z x k X Q E o H h K _=>wpAny_Constant_str (K.j (.str i _) h)
theorem HX(P):aY (ofString "MOST_LENGTH") (dS P)=some (.int 1000000 577):=by kernel_rfl
theorem Ib:au w os F fn (.tC i):=λc z x k X Q E o H h K _=>dx c.O z.S.H (aR o) (.inl (HX _)) (K.JI (.int ..) (of_decide_eq_true (aL o)▸h))
theorem Cp(z:Zt w os d L){C:Prop}(h:DH z.ρ i k)
 (next:∀v x ρ' W'(S:St w os d L ρ' z.s W'),(L i).At z.s.heap (some x)→k v ρ'→KE z.s.heap z.W z.s.heap W'→VR w z.s.heap W' v x→C):C:=by
 delta DH at h;generalize e:z.ρ[i]? =o at h;cases o with
 |none=>exact h.elim
 |some T=>
  have O:∀r:Rv,T=r.s→k r.v (z.ρ.set i (.j r.v))→C:=λr E h=>jR z.S.H e (λq=>by rw[E]at q;cases r<;>cases q) λx a q h8=>
   have K:=KE.vJ h8;have Z:=a6.cC K.kp Fz.wX (E▸q)
   next r.v x (z.ρ.set i (.j r.v)) _ ⟨z.S.gens,z.S.os,z.S.H.mC K (λj H _=>Mv.wX λq=>H (Nat.add_left_cancel q)) λ_ y A=>⟨x,A.qF a,Z⟩⟩ a h K Z
  cases T with
  |j v=>exact jR z.S.H e (λq=>nomatch q) λx a r _=>next v x z.ρ z.W z.S a h .refl r
  |U l=>exact O (.U l) rfl h
  |oi c f=>exact O (.oi c f) rfl h
  |_=>exact h.elim
theorem Gd:au w os F fn (.d i):=λc z x k X Q E o H h K _=>Cp z h λv y ρ' W' S a h' M r=>bz c.O (bL o) a (K (.j v) ⟨ρ',z.s,W',S⟩ y h' M r)
theorem KZ:au w os F fn (.JC i):=by
 intro c z x k X Q E o u h K KX;have h:HO z.ρ i k:=h;delta HO at h;generalize e:z.ρ[i]? =C at h;cases C with
 |none=>exact h.elim
 |some T=>
  have O:∀r:Rv,T=r.s→k r (z.ρ.set i .y)→wpAny (model PP w) c.A (eval (vX x) c.env) Q E z.s:=λr J h=>jR z.S.H e (λq=>by rw[J]at q;cases r<;>cases q) λy a q h8=>
   have M:=KE.wX (cg h8) cn vq
   bz c.O (bL o) a (K r ⟨z.ρ.set i .y,z.s,_,z.S.gens,z.S.os,z.S.H.mC M (λj H _=>Mv.wX λq=>H (Nat.add_left_cancel q)) λq=>absurd rfl q⟩ y h M (a6.dh M.kp Mv.to (J▸q)))
  cases T with
  |U l=>exact O (.U l) rfl h
  |oi c f=>exact O (.oi c f) rfl h
  |_=>exact h.elim
theorem Lz(H:au w os F fn a)(hb:au w os F fn b):au w os F fn (.w o a b):=λc z x k X Q E ok u h K KX=>
 wpAny_BinOp (gA H (aL ok) (mL u) h KX λR z₁ V U m y=>gA hb (aR ok) (mR u) U (KX.after m) λr Z v C S t=>
  H3 C Z.S (y.step S.kp) t (K.after (m.trans S)).res)
theorem Kn(H:au w os F fn a):au w os F fn (.neg a):=λc z x k X Q E ok u h K KX=>
 wpAny_UnaryOp (gA H ok u h KX λR z₁ V U m y=>Qe U y λi t h=>neg_int ((K.after m).j (.int ..) h))
theorem Ht(H:au w os F fn a):au w os F fn (.fL a):=λc z x k X Q E ok u h K KX=>
 wpAny_UnaryOp (gA H ok u h KX λR z₁ V U m y=>Md U y λi h=>PyProof.Rows.not_of (wpAny_truthy_bool ((K.after m).JI (.bool _) h)))
theorem GB(H:au w os F fn a)(hb:au w os F fn b):au w os F fn (.ag o a b):=λc z x k X Q E ok u h K KX=>
 wpAny_Compare1 (gA H (aL (aR ok)) (mL u) h KX λR z₁ V U m y=>gA hb (aR (aR ok)) (mR u) U (KX.after m) λr Z v C S t=>
  jX c.hA C (y.step S.kp) t λc tk d=>(K.after (m.trans S)).j (.bool c) d) (iL (aL ok))
theorem K7(H:au w os F fn a):au w os F fn (.Y a):=λc z x k X Q E ok u h K KX=>
 gA H ok u h KX λR z₁ V U m y=>K (.j _) _ _ U m y
end
section
variable{w:World}{os:OsState}{F:Nat→Spec}{fn:hW}
theorem cQ(h:lh e=false):bC g (.cons e es) xs=aO g e (hd xs)::bC g es xs.tail:=by
 show(match lh e with
  |true=>[]
  |false=>aO g e (hd xs)::bC g es xs.tail)=_
 rw[h]
theorem rO(h:lh e=true):bC g (.cons e es) xs=[]:=by
 show(match lh e with
  |true=>[]
  |false=>aO g e (hd xs)::bC g es xs.tail)=_
 rw[h]
theorem kE{C:Prop}(o:qo g (.cons e es) c xs=true)(f:lh e=true→iw es=true→C)(h:lh e=false→aB (aO g e (hd xs))=true→bT g e c (hd xs)=true→qo g es c xs.tail=true→C):C:=by
 have o:(match lh e with
  |true=>iw es
  |false=>aB (aO g e (hd xs))&&(bT g e c (hd xs)&&qo g es c xs.tail))=true:=o
 cases q:lh e with
 |true=>rw[q]at o;exact f q o
 |false=>rw[q]at o;exact h q (aL o) (aL (aR o)) (aR (aR o))
theorem Ef:pR w os F fn .nil:=λc z xs p k X Q E o H h K _=>PyProof.Rows.spliced_none (K [] 0 z [] (λ_=>rfl) h .refl .nil rfl)
theorem B6(H:au w os F fn a)(hb:pR w os F fn b):pR w os F fn (.cons a b):=λc z xs p k X Q E o u h K KX=>kE o
 (λd o=>by
  rw[rO d]at K⊢;have g:=sj d;have j:=kq o;subst g j;exact PyProof.Rows.spliced_none (K [] 1 z [] (λq=>nomatch q) h .refl .nil rfl))
 λd P O y=>by
  rw[cQ d]at K⊢;exact PyProof.Rows.spliced_more (gA H O (mL u) h KX λR z₁ V U m Z=>hb c z₁ xs.tail p _ X _ E y (mR u) U (λs n N S f h' Y r le=>
   K (R.v::s) n N (V::S) (λq=>f (Bool.or_eq_false_iff.mp q).2) h' (m.trans Y) (.cons (Z.step Y.kp) r) (congrArg succ le)) (KX.after m)) (aE P)
theorem zX:jS w os F fn .nil:=λc z xs p k X Q E o H h K KX=>h.elim
theorem A1:oY w os F fn .nil:=λc z xs p k X Q E o H h K KX=>h.elim
theorem vV(H:au w os F fn a)(hb:jS w os F fn b):jS w os F fn (.cons a b):=λc z xs p k X Q E o u h K KX=>by
 have O:=aL (aR o);have h:(match iw b with
  |true=>ev F a z.ρ k X
  |false=>ev F a z.ρ (λx ρ=>match x.v with|.bool c=>(match c with|true=>yO F b ρ k X|false=>k (.j (.bool false)) ρ)|_=>False) X):=h
 rw[cQ (nE (aL o))];cases q:iw b with
 |true=>
  rw[q]at h;have:=kq q;subst this;exact BoolOp_one (H c z _ k X Q E O (mL u) h K KX)
 |false=>
  rw[q]at h;obtain⟨y,Y,T⟩:=w9 ((oE (aL (aR (aR o)))).resolve_left λz=>Bool.false_ne_true (q.symm.trans z));rw[T];exact BoolOp_and (gA H O (mL u) h KX λR z₁ V U m Z=>Md U Z λt U=>wpAny_truthy_bool (by
   cases t with
   |true=>exact T▸hb c z₁ _ p k X Q E (aR (aR (aR o))) (mR u) U (K.after m) (KX.after m)
   |false=>exact(K.after m).JI (.bool _) U))
theorem zF(H:au w os F fn a)(hb:oY w os F fn b):oY w os F fn (.cons a b):=λc z xs p k X Q E o u h K KX=>by
 have O:=aL (aR o);have h:(match iw b with
  |true=>ev F a z.ρ k X
  |false=>ev F a z.ρ (λx ρ=>match x.v with|.bool c=>(match c with|true=>k (.j (.bool true)) ρ|false=>FC F b ρ k X)|_=>False) X):=h
 rw[cQ (nE (aL o))];cases q:iw b with
 |true=>
  rw[q]at h;have:=kq q;subst this;exact BoolOp_one (H c z _ k X Q E O (mL u) h K KX)
 |false=>
  rw[q]at h;obtain⟨y,Y,T⟩:=w9 ((oE (aL (aR (aR o)))).resolve_left λz=>Bool.false_ne_true (q.symm.trans z));rw[T];exact BoolOp_or (gA H O (mL u) h KX λR z₁ V U m Z=>Md U Z λt U=>wpAny_truthy_bool (by
   cases t with
   |true=>exact(K.after m).JI (.bool _) U
   |false=>exact T▸hb c z₁ _ p k X Q E (aR (aR (aR o))) (mR u) U (K.after m) (KX.after m)))
theorem H5(H:jS w os F fn a):au w os F fn (.Q a):=λc z x k X Q E o u h K KX=>H c z _ _ k X Q E o u h K KX
theorem Kg(H:oY w os F fn a):au w os F fn (.cD a):=λc z x k X Q E o u h K KX=>H c z _ _ k X Q E o u h K KX
theorem Li(H:gG w os F fn t)(j:au w os F fn a)(hb:au w os F fn b):au w os F fn (.ite t a b):=λc z x k X Q E o u h K KX=>
 IfExp_ (H c z _ _ X _ E (aL o) (mL u) h (λt Z h' Y=>by
  cases t with
  |true=>exact j c Z _ k X Q E (aL (aR o)) (mL (mR u)) h' (K.after Y) (KX.after Y)
  |false=>exact hb c Z _ k X Q E (aR (aR o)) (mR (mR u)) h' (K.after Y) (KX.after Y)) KX)
theorem IY(H:au w os F fn a)(hb:au w os F fn b)(hd:au w os F fn d):au w os F fn (.ny o q a b d):=λc z x k X Q E ok U h K KX=>
 Compare_chain (gA H (aL (aR (aR ok))) (mL U) h KX λr z₁ V T u y=>chain_link (gA hb (aL (aR (aR (aR ok)))) (mL (mR U)) T (KX.after u) λA Z v C S Y=>
  jX c.hA C (y.step S.kp) Y λt tk R=>wpAny_truthy_bool (by
   cases t with
   |true=>exact chain_last (gA (z:=Z.tk tk) hd (aR (aR (aR (aR ok)))) (mR (mR U)) R (KX.after (u.trans S)) λI O W M L g=>
    jX c.hA M (Y.step L.kp) g λt tk R=>(K.after ((u.trans S).trans L)).j (.bool t) R)
   |false=>exact(K.after (u.trans S)).j (.bool false) R))) (iL (aL (aR ok)))
theorem Ay(H:au w os F fn a)(hb:au w os F fn b)(hd:au w os F fn d):rH w os F fn (.ny o q a b d):=λc z x k X Q E ok U h K KX=>
 isTrue_chain (gA H (aL (aR (aR ok))) (mL U) h KX λr z₁ v T u y=>test_link (gA hb (aL (aR (aR (aR ok)))) (mL (mR U)) T (KX.after u) λA Z P C S Y=>
  jX c.hA C (y.step S.kp) Y λt tk R=>wpAny_truthy_bool (by
   cases t with
   |true=>exact test_last (gA (z:=Z.tk tk) hd (aR (aR (aR (aR ok)))) (mR (mR U)) R (KX.after (u.trans S)) λI V W M L g=>
    jX c.hA M (Y.step L.kp) g λt tk R=>wpAny_truthy_bool (K _ (V.tk tk) R ((u.trans S).trans L)))
   |false=>exact K _ (Z.tk tk) R (u.trans S)))) (iL (aL (aR ok)))
theorem yz(O:au w os F fn e)(I:∀x env H,isTrue (aO fn.g e x) env H=(do let v←H;standAt (aO fn.g e x).pos;holding [v] (truthy v))):rH w os F fn e:=λc z x k X Q E ok u h K KX=>
 wpAny_isTrue_value (gA O ok u h KX λR z₁ V U m y=>Md U y λt h=>wpAny_truthy_bool (K t z₁ h m)) (I ..)
theorem vr{E:Value→Shared→Prop}(h:wpAny M A (eval (.Compare l [op] [r] p) env) (λv j=>wpAny M A (truthy v) Q E j) E s):
 wpAny M A (isTrue (.Compare l [op] [r] p) env (eval (.Compare l [op] [r] p) env)) Q E s:=by
 intro D p H;have z:=h D p H;rw[isTrue_Compare1];rw[eval_Compare1]at z;simp only[Sem.wp_bind',Sem.wp_holding,Sem.wp_cmd_standAt]at z⊢;exact Sem.wp_mono M D _ (λa J j=>Sem.wp_mono M D _ (λb K S C=>Sem.wp_mono M D _ (λc P Z I=>I D P H) (λ_ _ _ h'=>h') _ _ C) (λ_ _ _ h'=>h') _ _) (λ_ _ _ h'=>h') _ _ z
theorem Bg(H:au w os F fn e)(I:∀x,∃l op r p,aO fn.g e x=.Compare l [op] [r] p):rH w os F fn e:=λc z x k X Q E ok u h K KX=>by
 have z:=gA (Q:=λv s=>wpAny (model PP w) c.A (truthy v) Q E s) H ok u h KX λR z₁ V U m y=>Md U y λt h=>wpAny_truthy_bool (K t z₁ h m);obtain⟨l,op,r,p,e⟩:=I x;rw[e]at z⊢;exact vr z
theorem H9(H:tK a=true→rH w os F fn a):gG w os F fn (.D a):=λc z x k X Q E ok u h K KX=>H (aR ok) c z x k X Q E (aL ok) u h K KX
theorem Fc(H:gG w os F fn a):gG w os F fn (.fL a):=λc z x k X Q E ok u h K KX=>isTrue_not (H c z _ _ X _ E ok u h (λt=>K _) KX)
theorem Fd(H:oO w os F fn a):gG w os F fn (.Q a):=λc z x k X Q E ok u h K KX=>H c z _ _ _ k X Q E ok u h K KX
theorem I0(H:pV w os F fn a):gG w os F fn (.cD a):=λc z x k X Q E ok u h K KX=>H c z _ _ _ k X Q E ok u h K KX
theorem EJ(H:gG w os F fn t)(j:gG w os F fn a)(hb:gG w os F fn b):gG w os F fn (.ite t a b):=λc z x k X Q E o u h K KX=>
 PyProof.Rows.isTrue_IfExp (H c z _ _ X _ E (aL o) (mL u) h (λt Z h' Y=>by
  cases t with
  |true=>exact j c Z _ k X Q E (aL (aR o)) (mL (mR u)) h' (K.after Y) (KX.after Y)
  |false=>exact hb c Z _ k X Q E (aR (aR o)) (mR (mR u)) h' (K.after Y) (KX.after Y)) KX)
theorem Di:oO w os F fn .nil:=λc z xs p W k X Q E o H h K KX=>isTrue_and_nil (K true z h .refl)
theorem Bc:pV w os F fn .nil:=λc z xs p W k X Q E o H h K KX=>isTrue_or_nil (K false z h .refl)
theorem y7(H:gG w os F fn a)(hb:oO w os F fn b):oO w os F fn (.cons a b):=λc z xs p W k X Q E o u h K KX=>(cQ (nE (aL o)))▸isTrue_and (H c z _ _ X _ E (aL (aR o)) (mL u) h (λt Z h' Y=>by
 cases t with
 |true=>exact hb c Z _ p W k X Q E (aR (aR o)) (mR u) h' (K.after Y) (KX.after Y)
 |false=>exact K false Z h' Y) KX)
theorem zT(H:gG w os F fn a)(hb:pV w os F fn b):pV w os F fn (.cons a b):=λc z xs p W k X Q E o u h K KX=>(cQ (nE (aL o)))▸isTrue_or (H c z _ _ X _ E (aL (aR o)) (mL u) h (λt Z h' Y=>by
 cases t with
 |true=>exact K true Z h' Y
 |false=>exact hb c Z _ p W k X Q E (aR (aR o)) (mR u) h' (K.after Y) (KX.after Y)) KX)
end
theorem Jq(H:a<9)(hb:b<9)(e:an a=an b):a=b:=by
 have K:∀i,i<9→∀j,j<9→ax (an i) (an j)=beq i j:=by decide+kernel
 exact eq_of_beq_eq_true ((K a H b hb).symm.trans (aD.mpr e))
theorem fY{k:Y}:d6 n L=some k→(n,k)∈L:=by
 induction L with
 |nil=>exactλe=>nomatch e
 |cons p L I=>
  cases b:beq n p.1 with
  |true=>rw[uD b];exactλe=>eq_of_beq_eq_true b▸Option.some.inj e▸.head _
  |false=>rw[uS b];exactλe=>.tail _ (I e)
theorem sZ{n M:Nat}{r:List (Nat×Y)}(e:Nat.beq n M=true):gN n v ((M,u)::r)=(M,v)::r:=by
 show(match Nat.beq n M with
  |true=>(M,v)::r
  |false=>(M,u)::gN n v r)=_
 rw[e]
theorem rJ{n M:Nat}{r:List (Nat×Y)}(e:Nat.beq n M=false):gN n v ((M,u)::r)=(M,u)::gN n v r:=by
 show(match Nat.beq n M with
  |true=>(M,v)::r
  |false=>(M,u)::gN n v r)=_
 rw[e]
theorem C8{k:Y}:x∈(gN n k f).map (·.1)→x=n∨x∈f.map (·.1):=by
 induction f with
 |nil=>exactλh=>.inl (mem_singleton.mp h)
 |cons p f I=>
  cases q:beq n p.1 with
  |true=>rw[sZ q];exact .inr
  |false=>rw[rJ q];exactλh=>(mem_cons.mp h).elim (λe=>.inr (e▸.head _)) λh=>(I h).imp id (.tail _)
theorem uO{p:Nat×Y}{f:List (Nat×Y)}:(f.map (·.1)).Nodup→p∈gN n k f→p=(n,k)∨(p∈f∧p.1≠n):=by
 induction f with
 |nil=>exactλ_ h=>.inl (mem_singleton.mp h)
 |cons r f I=>
  intro N;have N:=nodup_cons.mp N;cases q:beq n r.1 with
  |true=>
   have Q:=eq_of_beq_eq_true q;rw[sZ q];exactλh=>(mem_cons.mp h).imp (λe=>Q▸e) λh=>⟨.tail _ h,λz=>N.1 (mem_map.mpr ⟨p,h,z.trans Q⟩)⟩
  |false=>
   rw[rJ q];exactλh=>(mem_cons.mp h).elim (λe=>.inr (e▸⟨.head _,λz=>ne_of_beq_eq_false q z.symm⟩)) λh=>(I N.2 h).imp id λz=>⟨.tail _ z.1,z.2⟩
theorem xi{k:Y}:(f.map (·.1)).Nodup→((gN n k f).map (·.1)).Nodup:=by
 induction f with
 |nil=>exactλ_=>nodup_cons.mpr ⟨(λh=>nomatch h),nodup_nil⟩
 |cons r f I=>
  intro N;have O:=nodup_cons.mp N;cases q:beq n r.1 with
  |true=>rw[sZ q];exact N
  |false=>rw[rJ q];exact nodup_cons.mpr ⟨λh=>(C8 h).elim (λz=>ne_of_beq_eq_false q z.symm) O.1,I O.2⟩
theorem rD{k:FK}(h:(f.map (·.1)).Nodup∧∀p∈f,p.1<9)(H:n<9):((gN n k f).map (·.1)).Nodup∧∀p∈gN n k f,p.1<9:=
 ⟨xi h.1,λp P=>(uO h.1 P).elim (λe=>e▸H) λz=>h.2 p z.1⟩
section
variable{w:World}{h h':Heap}{W W':cy}{t:Nat}
theorem FR.HR(K:Kp h W h' W')(M:∀a o,h.get? a=some o→W a=(t,n+1)→h'.get? a=some o∧W' a=(t,n+1))(r:FR w h W t n k x):FR w h' W' t n k x:=by
 cases k with
 |j v=>exact VR.step K r
 |U l=>cases r with|mk Q q C X=>exact .mk (M _ _ Q q).1 (M _ _ Q q).2 C (X.step K)
 |od l=>cases r with|mk Q q C=>exact(lV Q).elim λo e=>.mk (gI Q λo e=>(M _ o e q).1) (M _ _ e q).2 (C.step K)
theorem sP(Q:m' (an n)=some j)(u:FR w h' W' H n k' j)(q:DB w h W t m f)(d:(f.map (·.1)).Nodup)
 (k:∀p∈f,p.1≠n→m' (an p.1)=m (an p.1))(L:∀p∈f,p.1≠n→∀x,FR w h W t p.1 p.2 x→FR w h' W' H p.1 p.2 x):DB w h' W' H m' (gN n k' f):=λp P=>
 (uO d P).elim (λe=>e▸⟨j,Q,u⟩) λz=>(q p z.1).imp λx y=>⟨(k p z.1 z.2).trans y.1,L p z.1 z.2 x y.2⟩
noncomputable def xT(a b:Nat×Nat)(p:Nat×Nat):Nat×Nat:=match decide (p=a)with
 |true=>b
 |false=>p
theorem CC:xT a b a=b:=by simp[xT]
theorem o7(h:p≠a):xT a b p=p:=by simp[xT,h]
theorem KE.xT(h1:¬qy a.1)(h2:¬uN a.1)(h3:a.1≠4):KE h W h (λx=>xT a b (W x)):=
 KE.yU λp l=>o7 λe=>by subst e;exact l.elim h1 λl=>l.elim h2 h3
theorem O1{T:Mine.Internal.S}{C:Prop}(h:d4 T=some L)(f:∀c,(T=.oi c L∨T=.bi c L)→C):C:=by
 cases T<;>first|exact f _ (.inl (congrArg _ (Option.some.inj h)))|exact f _ (.inr (congrArg _ (Option.some.inj h)))|cases h
theorem Lp{T:Mine.Internal.S}(e:T=.oi c L∨T=.bi c L)(r:a6 w h W t T v):OI w h W t c L v:=e.elim (λe=>by subst e;exact r) λe=>by subst e;exact r
theorem BJ{T:Mine.Internal.S}(e:T=.oi c L∨T=.bi c L)(r:OI w h W t c f v):a6 w h W t (dM T f) v:=e.elim (λe=>by subst e;exact r) λe=>by subst e;exact r
theorem x7(C:aH w j y ρ h W){T:Mine.Internal.S}{G:Prop}(I:ρ[i]? =some T)(H:d4 T=some L)
 (f:∀c v,(T=.oi c L∨T=.bi c L)→(y i).At h (some v)→OI w h W (10+i) c L v→i<800→G):G:=
 O1 H λc E=>jR C I (λq=>by rw[q]at H;cases H) λv p r h8=>f c v E p (Lp E r) h8
end
inductive mi(w:World)(h:Heap)(W:cy):V→Value→Prop where
 |fr {v x}:VR w h W v x→mi w h W v x
 |li {a vs n l}:h.get? a=some (dc vs n)→vs.length≤aA→cW w h W l vs→mi w h W (.o l) (.ref a)
 |di {a kvs l}:jz w h a kvs→yf w h W l kvs→mi w h W (.lI l) (.ref a)
section
variable{w:World}{os:OsState}{F:Nat→Spec}{fn:hW}
theorem nS(r:FR w h W t n k x):mi w h W k.v x∧handedIn x=true:=by
 cases k with
 |j v=>exact⟨.fr r,rp r⟩
 |U l=>cases r with|mk h1 h2 h3 h4=>exact⟨.li h1 h3 h4,rfl⟩
 |od l=>cases r with|mk h1 h2 h3=>exact⟨.di h1 h3,rfl⟩
theorem BZ{c:Fr fn}{z:Zt w os c.fs c.pl}{T:Mine.Internal.S}{R E:Value→Shared→Prop}(o:qp (fi y) c.cf.nm i=true)(e:z.ρ[i]? =some T)(j:d4 T=some L)(J:d6 n L=some k)
 (next:∀x tk,FR w z.s.heap z.W (10+i) n k x→R x {z.s with toks:=tk}):wpAny (model PP w) c.A (eval (.Attribute (vX y) (an n) p) c.env) R E z.s:=
 x7 z.S.H e j λC v Y p1 oi h8=>by
  cases oi with
  |mk I G m A f d g X M=>
   obtain⟨x,m1,r⟩:=M _ (fY J);exact Attribute_Name_ (bz c.O (bL o) p1 (nY z.S.H I ⟨_,_,_,m,rfl,f,λ_=>rfl⟩ m1 (nS r).2 (next _ _ r)))
theorem n8{c:Fr fn}{z:Zt w os c.fs c.pl}{R E:Value→Shared→Prop}(o:FP c.cf t y=true)(h:pk z.ρ t k)
 (next:∀v x tk,k v→mi w z.s.heap z.W v x→R x {z.s with toks:=tk}):wpAny (model PP w) c.A (eval (Cc t y) c.env) R E z.s:=by
 cases t with
 |v i=>
  delta pk at h;dsimp only at h;generalize e:z.ρ[i]? =O at h;cases O with
  |none=>exact h.elim
  |some T=>
   have N:∀l,dk T=some l→k (.o l)→wpAny (model PP w) c.A (eval (vX y) c.env) R E z.s:=λl L H=>z.S.yy e L λa s n p1 h1 h2 h3 h4=>bz c.O (bL o) p1 (next _ _ z.s.toks H (.li h1 h3 h4));cases T with
   |j v=>exact jR z.S.H e (λq=>nomatch q) λx a r _=>bz c.O (bL o) a (next _ _ z.s.toks h (.fr r))
   |U l=>exact N l rfl h
   |bl l=>exact N l rfl h
   |_=>exact h.elim
 |f i n=>
  delta pk at h;dsimp only at h;generalize e:(z.ρ[i]?).bind d4=O at h;cases O with
  |none=>exact h.elim
  |some B=>
   obtain⟨T,g,V⟩:=Option.bind_eq_some_iff.mp e;dsimp only at h;generalize J:d6 n B=O at h;cases O with
   |none=>exact h.elim
   |some K=>exact BZ o g V J λx tk r=>next _ _ _ h (nS r).1
theorem CB{Q E:Value→Shared→Prop}(hb:zJ v k)(r:mi w s.heap W v x)(K:∀i t tk,k (.int i)→Q (.int i t) {s with toks:=tk}):
 wpAny (model PP w) A (call (.builtin "len") [x]) Q E s:=by
 cases r with
 |fr r=>exact yu hb r K
 |li g Y R=>exact len_list ⟨_,g,rfl,_,rfl⟩ (List.size_toArray▸gW Y) (by rw[size_toArray,←R.length];exact K _ _ _ hb)
 |di g R=>exact hb.elim
theorem zR{C:Prop}(h:tL (.o l) i k)(f:∀j v,i=.int j→cu l j=some v→k v→C):C:=by
 cases i with
 |int j=>exact(sE h).elim λv q=>f j v rfl q.1 q.2
 |_=>exact h.elim
theorem zD{C:Prop}(h:tL (.lI l) i k)(f:∀j v,i=.str j→a4 j l=some v→k v→C):C:=by
 cases i with
 |str j=>exact(sE h).elim λv q=>f j v rfl q.1 q.2
 |_=>exact h.elim
theorem BP{Q E:Value→Shared→Prop}(hb:tL v i k)(r:mi w s.heap W v x)(y:VR w s.heap W i b)
 (K:∀v x tk,k v→VR w s.heap W v x→Q x {s with toks:=tk})(H:subscripted M false x b=operate [x,b] (getItem x b)):wpAny (model PP w) A (subscriptTail C M x b) Q E s:=by
 cases r with
 |fr r=>exact yi hb r y K H
 |li g Y R=>
  exact zR hb λj v e f d=>by
   subst e;cases y;exact tail_any ⟨_,g,rfl⟩ slot_list_getitem.lookup (yN g Y R f λx r=>K _ x s.toks d r) H
 |di g R=>
  exact zD hb λj v e f d=>by
   subst e;cases y;rcases R.find with⟨Z,_⟩|⟨V,X,Z,z,G⟩
   ·exact nomatch Z.symm.trans f
   ·cases Z.symm.trans f
    exact tail_any g.1.typeIs slot_dict_getitem.lookup (wpAny_getItem_of (strKind_is PP w ..) g.1.mapOf z (K _ _ _ d G)) H
theorem Ia:au w os F fn (.qv i n):=by
 intro c z x k X Q E o hu h K KX;have h:A3 z.ρ i n λv ρ=>k (.j v) ρ:=h;delta A3 at h;generalize e:z.ρ[i]? =O at h;cases O with
 |none=>exact h.elim
 |some T=>
  dsimp only at h;generalize V:d4 T=O at h;cases O with
  |none=>exact h.elim
  |some L=>
   dsimp only at h;generalize J:d6 n L=O at h;cases O with
   |none=>exact h.elim
   |some f=>
    have B:(∀(t:Nat)W' x,KE z.s.heap z.W z.s.heap W'→(∀a,z.W a=(t,n+1)→(W' a).1=0)→FR w z.s.heap z.W t n f x→VR w z.s.heap W' f.v x)→k (.j f.v) (z.ρ.set i (dM T (gN n (.j f.v) L)))→wpAny (model PP w) c.A (eval (Cc (.f i n) x) c.env) Q E z.s:=λj d=>
     x7 z.S.H e V λc' v g p1 oi h8=>by
      cases oi with
      |mk A G m D u W s I S=>
       obtain⟨N,m1,r⟩:=S _ (fY J);have M:KE z.s.heap z.W z.s.heap (λb=>xT (10+i,n+1) (0,0) (z.W b)):=KE.xT (cg h8) cn vq;have Y:=j (10+i) _ N M (λa e=>by show(xT _ _ (z.W a)).1=0;rw[e,CC]) r;have Z:∀b,z.W b=(10+i,0)→xT (10+i,n+1) (0,0) (z.W b)=(10+i,0):=λb q=>by rw[q];exact o7 λy=>nomatch y
       refine Attribute_Name_ (bz c.O (bL o) p1 (nY z.S.H A ⟨_,_,_,m,rfl,u,λ_=>rfl⟩ m1 (nS r).2 (K (.j f.v) ⟨_,{z.s with toks:=z.s.toks+1},_,z.S.gens,z.S.os,z.S.H.mC M (λj hj _ b o eb l=>⟨eb,?_⟩) λ_ y a'=>
        ⟨_,(p1.qF a').symm,BJ g (.mk A (Z _ G) m (Z _ D) u W s (rD I (I.2 _ (fY J))) (sP (k':=.j f.v) m1 Y S I.1 (λ_ _ _=>rfl) λp hp ne RB RA=>FR.HR M.kp (λa o ea q=>⟨ea,?_⟩) RA))⟩⟩ N d M Y)))
       ·exact(o7 λy=>Bd hj (l.symm.trans (congrArg Prod.fst y))).trans (Prod.ext l rfl)
       ·show xT _ _ (z.W a)=_
        rw[q];exact o7 λy=>ne (succ.inj (Prod.mk.inj y).2)
    cases f with
    |j v=>exact BZ o e V J λN tk r=>K.j r h
    |U l=>exact B (λt W' N M H r=>by cases r with|mk P R C q4=>exact .o P (H _ R) C (q4.step M.kp)) h
    |od l=>exact B (λt W' N M H r=>by cases r with|mk P R C=>exact .lI P (H _ R) (C.step M.kp)) h
theorem yj{C:Prop}(r:mi w h W v x)(f:∀M,VR w h M v x→Kp h W h M→C):C:=by
 have K:∀a,Kp h W h (dz W a (0,0)):=λa b o e q=>⟨e,by
  by_cases z:b=a
  ·subst z;rw[aJ]
  ·rw[bW z];exact q⟩
 cases r with
 |fr r=>exact f W r (.refl _ _)
 |li E Y R=>exact f _ (.o E (by rw[aJ]) Y (R.step (K _))) (K _)
 |di E R=>exact f _ (.lI E (by rw[aJ]) (R.step (K _))) (K _)
theorem vK:behindInMarks o (Cc t r)=false:=by cases t<;>rfl
theorem GW(H:au w os F fn a):au w os F fn (.Dy g a p):=λc z x k X Q E o u h K KX=>
 wpAny_Compare1 (gA H (aL o) u h KX λr z₁ V U m Z=>n8 (aR o) U λy v tk Y lk=>yj lk λW R P=>
  jX c.hA Y (Z.step P) R λt T d=>(K.after m).j (.bool t) d) vK
theorem Zt.push(z:Zt w os fs pl)(ob)(f){C:Prop}(h:∀(S:St w os fs pl z.ρ {z.s with heap:=z.s.heap.push ob} (dz z.W z.s.heap.objs.size f)),KE z.s.heap z.W (z.s.heap.push ob) (dz z.W z.s.heap.objs.size f)→C):C:=
 z.S.head.elim λ_ g=>g.elim λ_ g=>g.elim λL g=>g.elim λ_ g=>
  have H:=λb o e=>bW λq=>by rw[q,bw]at e;cases e
  have G:=ma L z.s.heap ob
  h (G.st g.2.2.2 H z.S) (G.ke g.2.2.2 H)
theorem F1:au w os F fn (.Hp p):=λc z x k X Q E o u h K KX=>
 wpAny_Compare1 (n8 o h λy v tk H lk=>yj lk λW R P=>wpAny_List_spliced (PyProof.Rows.spliced_none ⟨zero_le _,(z.tk tk).push {cls:=.type "list",data:=.seq (#[])} (0,0) λS M=>
  have U:Kp z.s.heap W (z.s.heap.push {cls:=.type "list",data:=.seq (#[]:Array Value)}) (dz W z.s.heap.objs.size (0,0)):=λb o e q=>⟨Heap.get?_push_of_some _ e,by rw[bW (λq=>by rw[q,bw]at e;cases e)];exact q⟩
  jX c.hA H (R.step U) (.o (get?_push_size _ rfl) (by rw[aJ]) (zero_le _) .nil)
   λt T d=>(K.after (z₁:=⟨z.ρ,_,_,S⟩) M).j (.bool t) d⟩)) rfl
end
section
variable{w:World}{os:OsState}{F:Nat→Spec}{fn:hW}
theorem Af{P:Mine.Internal.S→Prop}(h:match o with|some a=>P a|.none=>False):∃a,o=some a∧P a:=by
 cases o with
 |some a=>exact⟨a,rfl,h⟩
 |none=>exact h.elim
theorem CG{P:List V→Prop}(h:match o with|some a=>P a|.none=>False):∃a,o=some a∧P a:=by
 cases o with
 |some a=>exact⟨a,rfl,h⟩
 |none=>exact h.elim
theorem q9:starEach (Cc t y::Y) env=(false,eval (Cc t y) env)::starEach Y env:=by cases t<;>rfl
theorem NI{P:List V→Prop}{C:Prop}(p:match v with|.o l=>P l|_=>False)(r:VR w h W v x)(f:∀l,P l→VR w h W (.o l) x→C):C:=by
 cases v with
 |o l=>exact f l p r
 |_=>exact p.elim
theorem Lh{s:Str}{P:List Str→Prop}{C:Prop}(h:match s.cps.toList,hH l with|[],some ss=>P ss|_,_=>False)(f:∀ss,s.cps.toList=[]→hH l=some ss→P ss→C):C:=by
 generalize s.cps.toList=o at h f;generalize hH l=O at h f;cases o with
 |nil=>
  cases O with
  |some ss=>exact f ss rfl rfl h
  |none=>exact h.elim
 |cons a b=>exact h.elim
theorem ff{C:Prop}(h:false=true):C:=nomatch h
theorem fN{Y:Type}{v:Y}{C:Prop}(h:none=some v):C:=nomatch h
theorem Bx{o:Option Mine.Internal.S}(h:(match o with
 |some (.j v)=>some v
 |_=>none)=some v):o=some (.j v):=by
 cases o with
 |none=>exact fN h
 |some T=>cases T<;>first|exact congrArg (λv=>some (S.j v)) (Option.some.inj h)|exact fN h
theorem xf{C:E→Prop}(h:wH e ρ=some v)(f:v=.none→C .X)(f1:∀b,v=.bool b→C (.cB b))(y:∀i,v=.int i→C (.p i))(t:∀s,v=.str s→C (.M s))
 (j:∀i,v=.int (-i)→C (.neg (.p i)))(H:∀i,ρ[i]? =some (.j v)→C (.d i)):C e:=by
 cases e with
 |X=>exact f (Option.some.inj h).symm
 |cB b=>exact f1 b (Option.some.inj h).symm
 |p i=>exact y i (Option.some.inj h).symm
 |M s=>exact t s (Option.some.inj h).symm
 |neg a=>
  cases a with
  |p i=>exact j i (Option.some.inj h).symm
  |_=>exact fN h
 |d i=>exact H i (Bx h)
 |_=>exact fN h
theorem kS{c:Fr fn}{z:Zt w os c.fs c.pl}{R E:Value→Shared→Prop}(o:bT fn.g e c.cf x=true)(h:wH e z.ρ=some v)
 (next:∀y tk,VR w z.s.heap z.W v y→R y {z.s with toks:=tk}):wpAny (model PP w) c.A (eval (aO fn.g e x) c.env) R E z.s:=by
 revert o;exact xf (C:=λe=>bT fn.g e c.cf x=true→wpAny (model PP w) c.A (eval (aO fn.g e x) c.env) R E z.s) h (λq _=>wpAny_Constant_none (next _ z.s.toks (q▸.none))) (λb q _=>wpAny_Constant_bool (next _ z.s.toks (q▸.bool _)))
  (λi q _=>wpAny_Constant_int (next _ _ (q▸.int ..))) (λs q _=>wpAny_Constant_str (next _ _ (q▸.str ..))) (λi q _=>wpAny_UnaryOp (wpAny_Constant_int (neg_int (next _ _ (q▸.int ..)))))
  λi e o=>jR z.S.H e (λq=>nomatch q) λy a r _=>bz c.O (bL o) a (next _ z.s.toks r)
theorem xY{C:E→Prop}(nil:C .nil)(cons:∀e es,C es→C (.cons e es))(no:∀e,(∀g f xs,qo g e f xs=false)→C e)(e):C e:=by
 induction e with
 |nil=>exact nil
 |cons e es _ I=>exact cons e es I
 |_=>exact no _ λ_ _ _=>rfl
theorem Aa{m:List V}{C:Prop}(h:(match o,O with
 |some v,some m=>some (v::m)
 |_,_=>none)=some m)(f:∀v l,o=some v→O=some l→v::l=m→C):C:=by
 cases o with
 |none=>cases h
 |some v=>
  cases O with
  |none=>cases h
  |some l=>exact f v l rfl rfl (Option.some.inj h)
theorem vt{c:Fr fn}{E:Value→Shared→Prop}:∀{z:Zt w os c.fs c.pl}{xs}{m}{R},qo fn.g es c.cf xs=true→mW es z.ρ=some m→
 (∀Y tk,cW w z.s.heap z.W m Y→Y.length=(bC fn.g es xs).length→R Y {z.s with toks:=tk})→wpAny (model PP w) c.A (spliced (backTo p (starEach (bC fn.g es xs) c.env))) R E z.s:=
 λ{z xs m R}=>xY (C:=λes=>∀(z:Zt w os c.fs c.pl)xs m R,qo fn.g es c.cf xs=true→mW es z.ρ=some m→
  (∀Y tk,cW w z.s.heap z.W m Y→Y.length=(bC fn.g es xs).length→R Y {z.s with toks:=tk})→wpAny (model PP w) c.A (spliced (backTo p (starEach (bC fn.g es xs) c.env))) R E z.s)
  (λz _ _ _ o h next=>PyProof.Rows.spliced_none (next [] z.s.toks (Option.some.inj h▸.nil) rfl))
  (λe es I z xs m R o h next=>kE o (λd _=>by rw[sj d]at h;cases h) λd P O y=>by
   rw[cQ d]at next⊢;exact Aa h λv l g j N=>PyProof.Rows.spliced_more (kS O g λx tk r=>I (z.tk tk) _ _ _ y j λZ T s le=>next _ _ (N▸.cons r s) (congrArg succ le)) (aE P))
  (λe n z xs m R o=>ff ((n ..).symm.trans o)) es z xs m R
theorem M5(h:(!wO es)=true)(H:wO es=false→n=0):v++replicate n V.none=v:=(H (nE h))▸List.append_nil v
theorem KQ.L{z z₁:Zt w os fs pl}(K:KQ z k Q)(e:Le z z₁)(y:ys.length≤aA)(r:cW w z₁.s.heap z₁.W vs ys)(h:k (.j (.L vs)) z₁.ρ):Q (.ref z₁.s.heap.objs.size) {z₁.s with heap:=z₁.s.heap.push (w5 ys 0)}:=
 z₁.push (w5 ys 0) (0,0) λS E=>K (.j (.L vs)) ⟨z₁.ρ,_,_,S⟩ _ h (e.trans E) (.L (get?_push_size _ rfl) (congrArg Prod.fst aJ) y (r.step E.kp))
theorem KQ.o{z z₁:Zt w os fs pl}(K:KQ z k Q)(e:Le z z₁)(y:ys.length≤aA)(r:cW w z₁.s.heap z₁.W vs ys)(h:k (.U vs) z₁.ρ):Q (.ref z₁.s.heap.objs.size) {z₁.s with heap:=z₁.s.heap.push (dc ys 0)}:=
 z₁.push (dc ys 0) (2,0) λS E=>K (.U vs) ⟨z₁.ρ,_,_,S⟩ _ h (e.trans E) (.mk (get?_push_size _ rfl) aJ y (r.step E.kp))
theorem J8(H:pR w os F fn a):au w os F fn (.L a):=λc z x k X Q E o u h K KX=>
 wpAny_Tuple_spliced (H c z _ _ _ X _ E (aR o) u h (λV n Z s N h' Y R le=>by
  rw[M5 (aL o) N]at h';have y:=R.length▸h'.1;exact⟨eE y,K.L Y y R h'.2⟩) KX)
theorem KA(H:pR w os F fn a):au w os F fn (.Z a):=λc z x k X Q E o u h K KX=>
 wpAny_List_spliced (H c z _ _ _ X _ E (aR o) u h (λV n Z s N h' Y R le=>by
  rw[M5 (aL o) N]at h';have y:=R.length▸h'.1;exact⟨eE y,K.o Y y R h'.2⟩) KX)
theorem MI(H:au w os F fn a)(hb:au w os F fn b):au w os F fn (.sub a b):=λc z x k X Q E o u h K KX=>
 Subscript_ (gA H (aL (aR o)) (mL u) h KX λR z₁ V U m y=>gA hb (aR (aR o)) (mR u) U (KX.after m) λA Z P C S t=>
  yi C (y.step S.kp) t (λv x tk d r=>(K.after (m.trans S)).j r d) (mT (aL o) ..))
theorem Ik:au w os F fn (.dZ t b):=λc z x k X Q E o u h K KX=>
 (sE h).elim λj q=>Subscript_ (n8 (aL (aR o)) q.2 λv x tk H lk=>kS (z:=z.tk tk) (aR (aR o)) q.1 λy T R=>
  BP H lk R (λv x tk H r=>K.j r H) (mT (aL o) ..))
theorem zP{C:E→Prop}(h:MZ F e ρ k X)(no:k .none ρ→C .no)(D:∀a,ev F a ρ (λr ρ=>k r.v ρ) X→C (.D a)):C e:=by
 cases e with
 |no=>exact no h
 |D a=>exact D a h
 |_=>exact h.elim
theorem K0{lo:E}{c:Fr fn}{z:Zt w os c.fs c.pl}{Q E:Value→Shared→Prop}(H:∀a,lo=.D a→au w os F fn a)(o:(oz lo||bT fn.g lo c.cf y)=true)(u:bp lo≤c.u)(h:MZ F lo z.ρ k X)(K:KX z X E)
 (next:∀v(d:Zt w os c.fs c.pl)x,k v d.ρ→Le z d→VR w d.s.heap d.W v x→Q x d.s):wpAny (model PP w) c.A (evalPart (match oz lo with|true=>none|false=>some (aO fn.g lo y)) c.env) Q E z.s:=by
 revert H o u;exact zP (C:=λlo=>(∀a,lo=.D a→au w os F fn a)→(oz lo||bT fn.g lo c.cf y)=true→bp lo≤c.u→wpAny (model PP w) c.A (evalPart (match oz lo with|true=>none|false=>some (aO fn.g lo y)) c.env) Q E z.s) h
  (λh _ _ _=>evalPart_none_step (next .none z .none h .refl .none)) λa h H o u=>evalPart_some_step (gA (H a rfl) o u h K λr d v h' Y e=>next r.v d v h' Y e)
theorem O3{a lo H}(j:au w os F fn a)(L:∀e,lo=.D e→au w os F fn e)(Y:∀e,H=.D e→au w os F fn e):au w os F fn (.sl a lo H):=λc z x k X Q E o u h K KX=>
 Subscript_ (gA j (aL o) (mL u) h KX λR z₁ V U m y=>wpAny_Slice (K0 L (aL (aR o)) (mL (mR u)) U (KX.after m) λv I G C S t=>
  K0 Y (aR (aR o)) (mR (mR u)) C (KX.after (m.trans S)) λW Z J M N g=>evalPart_none_step
   (HC M Z.S (y.step (KE.kp (S.trans N))) (t.step N.kp) g (K.after ((m.trans S).trans N)).res)))
theorem zc(h:aB y=true):eval (.Attribute y n p) env=(do
 let o←eval y env
 standAt p.atName
 let r←holding [o] (getAttr o n true)
 letTemporaryGo y o r
 pure r):=by
 show(attributeBase y n env (eval y env)>>=_)=_;rw[eJ h]
theorem Mf{P:List (Nat×V)→Prop}{C:Prop}(p:match v with|.dn _ j=>P j|_=>False)(r:VR w h W v x)(f:∀a d m c j,x=.ref a→P j→iB h a (cJ c) d→h.Ns d m→MP w h W j m→C):C:=by
 cases r with
 |dn I M i A X=>exact f _ _ _ _ _ rfl p I i X
 |_=>exact p.elim
theorem H8(H:au w os F fn a):au w os F fn (.J a n):=λc z x k X Q E o u h K KX=>
 Attribute_any_ (gA H (aR o) u h KX λR z₁ V U g y=>Mf U y λa d m C L ex U I i j=>(sE U).elim λv q=>by
  subst ex;obtain⟨x,m1,r⟩:=j.find q.1;exact nY z₁.S.H I i m1 (rp r) ((K.after g).j r q.2)) (zc (aL o))
theorem Kk(P):dy P (ofString "len") (.builtin "len"):=.inr ⟨by kernel_rfl,by kernel_rfl⟩
theorem LM(P):dy P (ofString "isinstance") (.builtin "isinstance"):=.inr ⟨by kernel_rfl,by kernel_rfl⟩
theorem El(P):dy P (ofString "range") (.type "range"):=.inr ⟨by kernel_rfl,by kernel_rfl⟩
theorem Pm(P)(g):dy P (M0 g) (ON g):=by
 cases g<;>exact .inr ⟨by kernel_rfl,by kernel_rfl⟩
theorem Ow(P)(g):dy P (Ni g) (N9 g):=by
 cases g<;>exact .inr ⟨by kernel_rfl,by kernel_rfl⟩
theorem Gg(P):dy P (ofString "str") (.type "str"):=.inr ⟨by kernel_rfl,by kernel_rfl⟩
theorem Jb(P)(c):dy P (Hc c) (JV c):=by
 rcases c with _|_|_|c
 ·exact .inl (by show aY (ofString "Vector") _=some (.ref 318);kernel_rfl)
 ·exact Gg P
 ·exact .inr ⟨by show aY (ofString "list") _=none;kernel_rfl,by show aY (ofString "list") _=some (.type "list");kernel_rfl⟩
 ·exact Gg P
theorem Hs:au w os F fn (.j5 p):=λc z x k X Q E o u h K KX=>
 wpAny_Call_Name_kw (dx c.O z.S.H (aL o) (Kk _) (PyProof.Rows.callWith_builtin1 (PyProof.Rows.spliced_more (n8 (aR o) h λv x tk H lk=>PyProof.Rows.spliced_none
  (CB H lk λi t tk O=>K.j (.int i t) O)) (q9)) q9 rfl))
theorem OJ(H:au w os F fn a):au w os F fn (.b1 g a):=λc z x k X Q E o u h K KX=>by
 have st:= @aE _ [] c.env (aL (aR o));refine wpAny_Call_Name_kw (dx c.O z.S.H (aL o) (Pm _ g) ?_);have a9:wpAny (model PP w) c.A (spliced (backTo x.pos (starEach [aO fn.g a (kd x 1)] c.env))) (λV S=>wpAny (model PP w) c.A (call (ON g) V) Q E S) E z.s:=
  PyProof.Rows.spliced_more (gA H (aR (aR o)) u h KX λR z₁ v U m y=>PyProof.Rows.spliced_none (Jp U z₁.S y (K.after m).res)) st
 cases g
 ·exact PyProof.Rows.callWith_builtin1 a9 st rfl
 ·exact PyProof.Rows.callWith_builtin1 a9 st rfl
 ·exact PyProof.Rows.callWith_type1 a9 st rfl
 ·exact PyProof.Rows.callWith_type1 a9 st rfl
 ·exact PyProof.Rows.callWith_builtin1 a9 st rfl
theorem Ov(H:au w os F fn a)(hb:au w os F fn b):au w os F fn (.b2 g a b):=λc z x k X Q E o u h K KX=>by
 have S:= @aE _ [] c.env (aL (aR (aR o)));have s:= @aE _ [aO fn.g b (kd x 2)] c.env (aL (aR o));refine wpAny_Call_Name_kw (dx c.O z.S.H (aL o) (Ow _ g) ?_);have a9:wpAny (model PP w) c.A (spliced (backTo x.pos (starEach [aO fn.g a (kd x 1),aO fn.g b (kd x 2)] c.env))) (λV j=>wpAny (model PP w) c.A (call (N9 g) V) Q E j) E z.s:=
  PyProof.Rows.spliced_more (gA H (aL (aR (aR (aR o)))) (mL u) h KX λR z₁ v U m y=>PyProof.Rows.spliced_more (gA hb (aR (aR (aR (aR o)))) (mR u) U (KX.after m) λr Z P C A t=>
   PyProof.Rows.spliced_none (HW c.hA C Z.S (y.step A.kp) t (K.after (m.trans A)).res)) S) s
 cases g<;>exact PyProof.Rows.callWith_builtin1 a9 s (by rw[S];rfl)
theorem Gm(H:au w os F fn a):au w os F fn (.tT a d):=λc z x k X Q E o u h K KX=>
 have st:=aE (aL (aR (aR o)))
 wpAny_Call_Name_kw (dx c.O z.S.H (aL o) (LM _) (PyProof.Rows.callWith_builtin1 (PyProof.Rows.spliced_more (gA H (aR (aR (aR o))) u h KX λr z₁ V U m y=>PyProof.Rows.spliced_more
  (dx c.O z₁.S.H (aL (aR o)) (Jb _ d) (PyProof.Rows.spliced_none (Hk z₁.S.H U y λb tk R=>(K.after m).j (.bool b) R))) rfl) st) st rfl))
theorem kW(H:∀y∈xs,aB y=true)
 (h:wpAny M A (spliced (backTo p (starEach xs env))) (λv t=>Q ⟨v,[]⟩ t) C s):wpAny M A (evalArgs f true (backTo p (starEach xs env)) []) Q C s:=by
 cases xs with
 |nil=>
  unfold evalArgs;refine wpAny_bind (wpAny_mono h (λv t h'=> ?_) λ_ _ x=>x);apply wpAny_holding;exact wpAny_bind (wpAny_pure (wpAny_bind (wpAny_pure (wpAny_pure h'))))
 |cons y Y=>
  rw[aE (H y (.head _))]at h⊢;exact Calls.evalArgs_plain h
theorem fB:(∀y∈xs,aB y=true)→(backTo p (starEach xs env)).any (·.1)=false∧(backTo p (starEach xs env)).all (λx=> !x.1)=true:=by
 induction xs with
 |nil=>exactλ_=>⟨rfl,rfl⟩
 |cons y Y I=>
  intro h;rw[aE (h y (.head _))];exact I λz H=>h z (.tail _ H)
theorem fW:qo g es f xs=true→∀y∈bC g es xs,aB y=true:=
 xY (C:=λes=>∀xs,qo g es f xs=true→∀y∈bC g es xs,aB y=true) (λ_ _ y H=>nomatch H)
  (λe es I xs o=>kE o (λd _=>(rO d)▸(λy H=>nomatch H)) λd P _ O=>(cQ d)▸(λy H=>(List.mem_cons.mp H).elim (λe=>e▸P) (I _ O y))) (λe n xs o=>ff ((n ..).symm.trans o)) es xs
theorem gS{T id:String}
 (g:attributeBase o name env (eval o env)=eval o env)(L:(D.endLine==U.line)=true)(H:∀y∈xs,aB y=true)(J:xs.length<20)
 (u:PlainAttrs T)(t:Slot T name id)(Y:typeOf (.builtin id)=pure (.type "method_descriptor"))
 (h:wpAny (model PP w) A (eval o env) (λO j=>j.TypeIs O T∧(∀a,O=.ref a→∃ob,j.heap.get? a=some ob∧ob.dict=none)∧
  wpAny (model PP w) A (spliced (backTo U (starEach xs env))) (λv d=>wpAny (model PP w) A (call (.builtin id) (O::v)) Q C d) C j) C s):
 wpAny (model PP w) A (eval (.Call (.Attribute o name D) xs [] U) env) Q C s:=by
 have st:=fB (env:=env) (p:=U) H;refine wpAny_Call_method g ?_ L u t Y (wpAny_mono h (λO j K=>⟨K.1,K.2.1,Calls.callWith_builtin st.1 (kW H K.2.2)⟩) λ_ _ x=>x);rw[st.2];exact decide_eq_true (Nat.lt_trans J (by decide))
theorem fZ:attributeBase (.Name n p) name env t=t:=eJ rfl
theorem PQ:∀y∈([]),aB y=true:=λ_ h=>nomatch h
theorem JA(h:aB a=true):∀y∈[a],aB y=true:=λy H=>mem_singleton.mp H▸h
theorem Ql(h:aB a=true)(h2:aB b=true):∀y∈[a,b],aB y=true:=λy H=>(mem_cons.mp H).elim (λe=>e▸h) (JA h2 y)
theorem ym{h:Heap}(e:h.get? a=some o)(d:o.dict=none):∀b,Value.ref a=.ref b→∃ob,h.get? b=some ob∧ob.dict=none:=λb q=>⟨o,Value.ref.inj q▸e,d⟩
theorem L8:au w os F fn (.JB i):=λc z x k X Q E o u h K KX=>
 (Af h).elim λT q=>(CG q.2).elim λl R=>(sE R.2).elim λv C=>z.S.yy q.1 R.1 λa V N p1 h1 h2 h3 h4=>by
  obtain⟨x,H,r⟩:=h4.getLast C.1;exact gS fZ (aL o) PQ (by decide) PySem.F.plainAttrs_list PySem.F.slot_list_pop PySem.F.type_list_pop (bz c.O (bL (aR o)) p1 ⟨⟨_,h1,rfl⟩,ym h1 rfl,
   PyProof.Rows.spliced_none (H7 h1 h3 H λh' n J S=>z.S.yw q.1 R.1 p1 h2 S J (Nat.le_trans (by simp) h3) h4.dropLast λs M=>K (.j v) ⟨_,_,z.W,s⟩ x C.2 M (VR.step M.kp r))⟩)
theorem yc{s:Shared}:s.TypeIs (.str x t) "str":=rfl
theorem Du{h:Heap}:∀a,Value.str x t=.ref a→∃ob,h.get? a=some ob∧ob.dict=none:=λ_ e=>nomatch e
theorem Iq(H:au w os F fn a)(hb:au w os F fn b):au w os F fn (.join a b):=λc z x k X Q E o u h K KX=>
 have ps:=aL (aR (aR o))
 gS (eJ (aL (aR o))) (aL o) (JA ps) (by decide:1<20) PySem.F.plainAttrs_str PySem.F.slot_str_join PySem.F.type_str_join (gA H (aL (aR (aR (aR o)))) (mL u) h KX λR z₁ V U m y=>Nx U y λt tk U=>
  ⟨yc,Du,PyProof.Rows.spliced_more (gA hb (aR (aR (aR (aR o)))) (mR u) U (KX.after m) λr Z v C S Y=>PyProof.Rows.spliced_none (NI C Y λl C Y=>Lh C λss N D C=>
   EM N Y D C.1 λT tk=>(K.after (m.trans S)).j (.str ..) C.2)) (aE ps)⟩)
theorem Jd{x:V}{y:V}{P:Int→Str→Nat→Prop}{C:Prop}(h:match x,y with
 |.int n,.str c=>(match c.cps.toList with|[H]=>P n c H|_=>False)
 |_,_=>False)(f:∀n c H,x=.int n→y=.str c→c.cps.toList=[H]→P n c H→C):C:=by
 cases x with
 |int n=>
  cases y with
  |str c=>
   dsimp only at h;generalize e:c.cps.toList=o at h;cases o with
   |nil=>exact h.elim
   |cons H r=>
    cases r with
    |nil=>exact f n c H rfl rfl e h
    |cons _ _=>exact h.elim
  |_=>exact h.elim
 |_=>exact h.elim
theorem Pl(e:v=.int n)(r:VR w h W v x):∃t,x=.int n t:=by subst e;exact r.cG
theorem Nz(e:v=.str n)(r:VR w h W v x):∃t,x=.str n t:=by subst e;exact r.cG
theorem Fo(H:au w os F fn a)(hb:au w os F fn b)(hd:au w os F fn d):au w os F fn (.jD a b d):=λc z x k X Q E o u h K KX=>
 have ps:=aL (aR (aR o));have P:=aL (aR (aR (aR o)))
 gS (eJ (aL (aR o))) (aL o) (Ql ps P) (by decide:2<20) PySem.F.plainAttrs_str PySem.F.slot_str_rjust PySem.F.type_str_rjust (gA H (aL (aR (aR (aR (aR o))))) (mL u) h KX λr z₁ V U m y=>Nx U y λt tk U=>
  ⟨yc,Du,PyProof.Rows.spliced_more (gA hb (aL (aR (aR (aR (aR (aR o)))))) (mL (mR u)) U (KX.after m) λA Z v C S Y=>PyProof.Rows.spliced_more (gA hd (aR (aR (aR (aR (aR (aR o)))))) (mR (mR u)) C (KX.after (m.trans S)) λI T W M L g=>
   PyProof.Rows.spliced_none (Jd M λn s D q R N M=>by
    obtain⟨B,rfl⟩:=Pl q (Y.step L.kp);obtain⟨j,rfl⟩:=Nz R g;exact Bu N M.2.1 M.1 λG tk=>(K.after ((m.trans S).trans L)).j (.str ..) M.2.2.2)) (aE P)) (aE ps)⟩)
theorem Ng{P:List (Str×V)→Prop}{C:Prop}(p:match v with|.lI l=>P l|_=>False)(r:VR w h W v x)(f:∀l a k,P l→VR w h W (.lI l) x→x=.ref a→jz w h a k→C):C:=by
 cases r with
 |lI E j N=>exact f _ _ _ p (.lI E j N) rfl E
 |_=>exact p.elim
theorem IK(H:au w os F fn a)(hb:au w os F fn b):au w os F fn (.wJ a b):=λc z x k X Q E o u h K KX=>
 have ps:=aL (aR (aR o))
 gS (eJ (aL (aR o))) (aL o) (JA ps) (by decide:1<20) PySem.F.plainAttrs_dict PySem.F.slot_dict_get PySem.F.type_dict_get (gA H (aL (aR (aR (aR o)))) (mL u) h KX λV z₁ O U m y=>Ng U y λl a s U r ex hd=>
  ⟨ex▸hd.1.typeIs,λb B=>hd.1.elim λo g=>g.elim λes g=>g.elim λp g=>⟨o,(Value.ref.inj (ex.symm.trans B))▸g.1,g.2.1.2.1⟩,PyProof.Rows.spliced_more (gA hb (aR (aR (aR (aR o)))) (mR u) U (KX.after m) λA Z P C S Y=>PyProof.Rows.spliced_none
   (Nx C Y λt tk C=>DT (r.step S.kp) λv tk R=>(K.after (m.trans S)).j R C)) (aE ps)⟩)
end
structure bA(w:World)(fs:List Env)(h:Heap)(W:cy):Prop where
 base:∀b o,(Hd.H1 w.params).get? b=some o→b≠910→h.get? b=some o∧(W b).1=0
 iZ:((W 910).1=0∨(W 910).1=4∨(W 910).1=5)∧∃vs,h.get? 910=some (cK vs)
 frames:∀env∈fs,env.scope.kind≠.module∧∃L m,env.frame=some L∧h.Ns L m∧((W L).1=1∨(W L).1=3)
theorem aH.b(C:aH w fs pl ρ h W):bA w fs h W:=⟨C.base,C.iZ.elim (λt=>⟨t.1.imp id .inr,t.2⟩) λt=>⟨.inr (.inl t.1),t.2.imp λ_ e=>e.1⟩,C.frames⟩
noncomputable def KC(t:Nat)(h:Heap)(W:cy)(h':Heap)(W':cy):Prop:=KE h W h' W'∧∀a o,h.get? a=some o→10≤(W a).1→(W a).1≠t→h'.get? a=some o∧W' a=W a
noncomputable def MU(v:List V)(n:Nat):List Mine.Internal.S:=(v++replicate n V.none).map Mine.Internal.S.j
inductive qH(w:World)(h:Heap)(W:cy)(t:Nat):List Mine.Internal.S→List Value→Prop where
 |all {vs xs n}:cW w h W vs xs→qH w h W t (MU vs n) xs
 |hd {a x vs xs n}:a≠.y→a6 w h W t a x→cW w h W vs xs→qH w h W t (a::MU vs n) (x::xs)
inductive lB(w:World)(h:Heap)(W:cy)(t:Nat):List Mine.Internal.S→List Value→Prop where
 |no {xs}:lB w h W t [] xs
 |vP {s x xs}:a6 w h W t s x→lB w h W t [s] (x::xs)
structure N3(A:Around)(fs:List Env)(f:Nat):Prop where
 frames:A.frames=some fs
 handled:A.handled=none
 depth:A.depth+4*f+2<880
 units:A.units+60*f+120<9900
theorem DG.f{A fs n u f}(a:DG A fs n u)(h:f<n):N3 A fs f:=⟨a.frames,a.handled,by have:=a.depth;exact zl 0x220f93aabd2a22f9c8e033ef9c82 rfl h this,by have:=a.units;exact zl 0xc790ba10b36147f527d15f9c0181e104e0cec8a88ec482 rfl h this⟩
section
variable(w:World)(os:OsState)(F:Nat→Spec)(fn:hW)
noncomputable def wF(f:Nat):Prop:=∀j A s W t args xs K X R,
 N3 A j f→(fn.g f).tS≤xs.length→(t=7∨10≤t∧t<810)→s.gens= #[]→s.os=os→bA w j s.heap W→qH w s.heap W t args xs→F f args K X→
 (∀r ss S W' v,K r ss→S.gens= #[]→S.os=os→KC t s.heap W S.heap W'→a6 w S.heap W' 2 r.s v→lB w S.heap W' t ss xs→R (.ok (.ret v)) S)→
 (∀m a S,X m→XS os j s.heap W a m S→R (.error (.ref a)) S)→codeAny (model PP w) A (.call (.ref (fn.g f).I) ⟨xs,[]⟩) R s
structure Ea(f:Nat):Prop where
 obj:∃o fd,(Hd.bD w.params).get (fn.g f).I=some o∧alive o=some o∧(fn.g f).I<914∧(fn.g f).I≠910∧o.data=.func fd
 tC:(fn.g f).kd=0→dy w.params (fn.g f).name (.ref (fn.g f).I)
 z9:(fn.g f).kd=1→findIn (Kc w.params 1) (.ref (cJ 1)) (fn.g f).name=some (some (.ref (fn.g f).I))∧typeIn (Kc w.params 1) (.ref (fn.g f).I)=some (.type "function")∧∀k,(fn.g f).name≠an k
 OV:∀c,c<2→(fn.g f).kd=2+c→findIn (Kc w.params c) (.ref (cJ c)) "__init__"=some (some (.ref (fn.g f).I))∧typeIn (Kc w.params c) (.ref (fn.g f).I)=some (.type "function")
structure fA:Prop where
 ok:∀f,f<fn.top→Ea w fn f
 snd:∀f,f<fn.top→wF w os F fn f
noncomputable def zH(as:E):Prop:=∀(c:Fr fn)z xs p k X Q E,
 qo fn.g as c.cf xs=true→bp as≤c.u→PI F as z.ρ k X→
 (∀args(Z:Zt w os c.fs c.pl)Y,k args Z.ρ→Le z Z→qH w Z.s.heap Z.W 7 args Y→Y.length=(bC fn.g as xs).length→Q Y Z.s)→KX z X E→wpAny (model PP w) c.A (spliced (backTo p (starEach (bC fn.g as xs) c.env))) Q E z.s
end
section
variable{w:World}{os:OsState}{F:Nat→Spec}{fn:hW}
theorem lW(h:Heap)(W:cy):∃t,1600≤t∧∀a o,h.get? a=some o→(W a).1<t:=
 have:∀n,∃t,1600≤t∧∀a,a<n→(W a).1<t:=λn=>Nat.rec ⟨1600,Nat.le_refl _,λa H=>absurd H (not_lt_zero _)⟩ (λn I=>I.elim λt h=>⟨max t ((W n).1+1),Nat.le_trans h.1 (Nat.le_max_left ..),λa H=>
  (Nat.lt_or_eq_of_le (le_of_lt_succ H)).elim (λl=>Nat.lt_of_lt_of_le (h.2 a l) (Nat.le_max_left ..)) λe=>e▸Nat.le_max_right ..⟩) n
 (this h.objs.size).imp λt h=>⟨h.1,λa o e=>h.2 a (lt_size e)⟩
theorem yL(C:aH w f L ρ h W)(c:aH w f L D H U)(K:KE h W H U)(d:∀a o,h.get? a=some o→(W a).1<t):∀i,i<D.length→(U (L i).I).1<t:=λi I=>by
 rw[C.oX c]at I;obtain⟨x,a⟩:=C.cz I;obtain⟨o,e⟩:=a.lt;rw[K.nk (C.bH i I) a];exact d _ o e
noncomputable def KS(t:Nat)(h:Heap)(W:cy)(h':Heap)(W':cy):Prop:=∀b o,(W b).1<t→h.get? b=some o→h'.get? b=some o∧W' b=W b
theorem xZ(e:n=m)(H:m<900)(C:900≤t):n<t:=e▸Nat.lt_of_lt_of_le H C
theorem KS.kp(k:KS t h W h' W')(ht:900≤t):Kp h W h' W':=λb o e l=>have z:=k b o (xZ l (by decide) ht) e;⟨z.1,z.2▸l⟩
theorem KS.mv(k:KS t h W h' W')(ht:900≤t)(hi:i<800):Mv h W (10+i) h' W' (10+i):=λb o e l=>
 have z:=k b o (xZ l (Nat.lt_trans (Nat.add_lt_add_left hi 10) (by decide)) ht) e
 ⟨z.1,z.2.trans (Prod.ext l rfl)⟩
theorem eH{p:fK}(a:p.At h x)(k:∀o,h.get? p.I=some o→h'.get? p.I=some o):p.At h' x:=by
 cases p with
 |ns L n=>exact a.imp λm y=>⟨cj y.1 k,y.2⟩
 |cell c=>exact a.imp λo y=>⟨k _ y.1,y.2⟩
theorem aH.F0(C:aH w fs pl ρ h W)(ht:900≤t)(hl:ρ'.length=ρ.length)(RA:∀i,i<ρ'.length↔pl' i≠.cell 910)(k:KS t h W h' W')
 (hs:∀i S,ρ'[i]? =some S→∃x,(pl' i).At h' x∧(S=.y∨∃v,x=some v∧a6 w h' W' (10+i) S v))(RB:∀i,i<ρ'.length→qI (pl' i) (W' (pl' i).I).1):aH w fs pl' ρ' h' W':=
 have K:∀L m,(W L).1<t→h.Ns L m→h'.Ns L m∧W' L=W L:=λL m l e=>⟨cj e λo H=>(k L o l H).1,e.elim λo e=>e.elim λ_ e=>e.elim λ_ e=>(k L o l e.1).2⟩;have X:=λL l=>l.elim (λe=>xZ e (by decide) ht) λe=>xZ e (by decide) ht
 ⟨λb o e n=>have z:=C.base b o e n;k.kp ht b o z.1 z.2,C.iZ.elim (λy=>y.2.elim λV e=>have q:=k _ _ (y.1.elim (λe=>xZ e (by decide) ht) λe=>xZ e (by decide) ht) e;.inl ⟨q.2▸y.1,V,q.1⟩)
  (λy=>y.2.elim λV e=>have q:=k _ _ (xZ y.1 (by decide) ht) e.1;.inr ⟨q.2▸y.1,V,q.1,e.2.step (k.kp ht)⟩),hl▸C.len,RA,hs,RB,
  λenv E=>have c:=C.frames env E;⟨c.1,c.2.imp λL y=>y.imp λm y=>have q:=K L m (X L y.2.2) y.2.1;⟨y.1,q.1,q.2▸y.2.2⟩⟩,
  C.head.imp λenv y=>y.imp λO y=>y.imp λL y=>y.imp λm y=>have q:=K L m (X L (.inl y.2.2.2)) y.2.2.1;⟨y.1,y.2.1,q.1,q.2▸y.2.2.2⟩⟩
theorem aH.kC{S:Mine.Internal.S}(C:aH w fs pl ρ h W)(ht:900≤t)(k:KS t h W h' W')(e:ρ[i]? =some S)(hp:∀o,h.get? (pl i).I=some o→h'.get? (pl i).I=some o∧W' (pl i).I=W (pl i).I):
 (∃x,(pl i).At h' x∧(S=.y∨∃v,x=some v∧a6 w h' W' (10+i) S v))∧qI (pl i) (W' (pl i).I).1:=
 have H:=(List.getElem?_eq_some_iff.mp e).1
 (C.slots i S e).elim λx y=>y.1.lt.elim λo E=>
  ⟨⟨x,eH y.1 λo e=>(hp o e).1,y.2.imp id λz=>z.imp λv z=>⟨z.1,z.2.dh (k.kp ht) (k.mv ht (Nat.lt_of_lt_of_le H C.len))⟩⟩,(hp o E).2▸C.bH i H⟩
theorem L9{ρ:R}(h:i<ρ.length):∃S,ρ[i]? =some S:=⟨_,getElem?_eq_getElem h⟩
theorem aH.rB(C:aH w fs pl ρ h W)(ht:900≤t)(hp:∀i,i<ρ.length→∀o,h.get? (pl i).I=some o→h'.get? (pl i).I=some o∧W' (pl i).I=W (pl i).I)(k:KS t h W h' W'):aH w fs pl ρ h' W':=
 C.F0 ht rfl C.a9 k (λi S e=>(C.kC ht k e (hp i (List.getElem?_eq_some_iff.mp e).1)).1) λi H=>(L9 H).elim λS e=>(C.kC ht k e (hp i H)).2
theorem aH.jZ{S:Mine.Internal.S}(C:aH w fs pl ρ h W)(ht:900≤t)(k:KS t h W h' W')(RA:∀i,i≠j→pl' i=pl i)(hj:j<ρ.length)(nj:pl' j≠.cell 910)
 (hp:∀i,i≠j→i<ρ.length→∀o,h.get? (pl i).I=some o→h'.get? (pl i).I=some o∧W' (pl i).I=W (pl i).I)
 (aj:∃x,(pl' j).At h' x∧(S=.y∨∃v,x=some v∧a6 w h' W' (10+j) S v))(lj:qI (pl' j) (W' (pl' j).I).1):aH w fs pl' (ρ.set j S) h' W':=by
 refine C.F0 ht length_set (λi=> ?_) k (λi T e=> ?_) λi H=> ?_
 ·rw[length_set]
  by_cases I:i=j
  ·subst I;exact⟨λ_=>nj,λ_=>hj⟩
  ·rw[RA i I];exact C.a9 i
 ·rw[getElem?_set]at e
  by_cases I:j=i
  ·subst I
   rw[if_pos rfl,if_pos hj]at e;exact Option.some.inj e▸aj
  ·rw[if_neg I]at e
   rw[RA i (Ne.symm I)];exact(C.kC ht k e (hp i (Ne.symm I) (List.getElem?_eq_some_iff.mp e).1)).1
 ·rw[length_set]at H
  by_cases I:i=j
  ·subst I;exact lj
  ·rw[RA i I]
   exact(L9 H).elim λS e=>(C.kC ht k e (hp i I H)).2
theorem aH.yU(C:aH w fs pl ρ h W)(ht:900≤t)(hp:∀i,i<ρ.length→(W (pl i).I).1<t):aH w fs pl ρ h (λa=>lb t u (W a)):=
 C.rB ht (λi H o e=>⟨e,o8 (ne_of_lt (hp i H))⟩) λb o l e=>⟨e,o8 (ne_of_lt l)⟩
theorem Kq.gV(K:Kq xx ss h W RA RB)(hf:∀a o,h.get? a=some o→(W a).1<t)(hk:KS t RA RB RC RD):Kq xx ss h W RC RD:=
 ⟨λa o e l=>have z:=K.ex a o e l;have q:=hk a o (z.2▸hf a o e) z.1;⟨q.1,q.2.trans z.2⟩,
  λa o e l=>have z:=K.sl a o e l;(K.there a o e l).elim λO E=>have lt:=z.2▸hf a o e;⟨λm H=>cj (z.1 m H) λo e=>(hk a o lt e).1,(hk a O lt E).2.trans z.2⟩,
  λa o e l=>(K.there a o e l).imp λO E=>(hk a O ((K.sl a o e l).2▸hf a o e) E).1,
  λV l e=>have y:=K.iZ V l e;y.2.elim λm E=>have q:=hk _ _ (y.1▸hf _ _ e) E;⟨q.2.trans y.1,m,q.1⟩⟩
theorem Kq.OY(K:KE h W h' W')(ht:900≤t):Mv h W t h' W' t:=λa o e l=>have z:=K.ex a o e (.inr (.inr (.inr (l▸ht))));⟨z.1,z.2.trans (Prod.ext l rfl)⟩
theorem Ky{r:Rv}:r.s≠.y:=by cases r<;>exactλe=>nomatch e
theorem zQ{C:E→E→Prop}(h:PI F (.cons a b) ρ k X)(H:∀e,ev F e ρ (λr ρ=>De F b ρ (λv ρ=>k (r.s::v.map .j) ρ) X) X→C (.jU e) b)
 (o:ev F a ρ (λr ρ=>De F b ρ (λv ρ=>k (.j r.v::v.map .j) ρ) X) X→C a b):C a b:=by
 cases a with
 |jU e=>exact H e h
 |_=>exact o h
theorem Eu:zH w os F fn .nil:=λc z xs p k X Q E o H h K _=>PyProof.Rows.spliced_none (K [] z [] h .refl (.all (n:=0) .nil) rfl)
theorem By(H:(∀e,a≠.jU e)→au w os F fn a)(m:∀e,a=.jU e→au w os F fn e)(hb:pR w os F fn b):zH w os F fn (.cons a b):=λc z xs p k X Q E o u h K KX=>kE o
 (λd o=>by
  rw[rO d]at K⊢;have M:=sj d;have B:=kq o;subst M B;exact PyProof.Rows.spliced_none (K _ z [] h .refl (.all (n:=1) .nil) rfl)) λd x O y=>by
  rw[cQ d]at K⊢;refine PyProof.Rows.spliced_more ?_ (aE x)
  by_cases N:∃e,a=.jU e
  ·obtain⟨e,rfl⟩:=N
   obtain⟨t,D,f⟩:=lW z.s.heap z.W;exact m e rfl c z (hd xs) _ X _ E O (mL u) h (λr z₁ v U g I=>
    have J:=g.trans (KE.br)
    hb c ⟨z₁.ρ,z₁.s,λa=>lb 2 t (z₁.W a),z₁.S.gens,z₁.S.os,z₁.S.H.br⟩ _ p _ X _ E y (mR u) U (λV n Z W _ A S G le=>
     have j:=J.trans S;have T:=Nat.le_trans (by decide) D;have s:KS t Z.s.heap Z.W Z.s.heap (λa=>lb t 7 (Z.W a)):=λb o l e=>⟨e,o8 (ne_of_lt l)⟩;have P:=s.kp T
     K _ ⟨Z.ρ,Z.s,_,Z.S.gens,Z.S.os,Z.S.H.yU T (yL z.S.H Z.S.H j f)⟩ _ A (j.gV f s)
      (.hd Ky (((I.dh (KE.br).kp Mv.to).dh S.kp (S.OY T)).dh P Mv.to) (G.step P)) (congrArg succ le)) (KX.after J)) KX
  ·have R:=λe q=>N ⟨e,q⟩
   have h:=zQ (C:=λa b=>(∀e,a≠.jU e)→ev F a z.ρ (λr ρ=>De F b ρ (λV ρ=>k (.j r.v::V.map .j) ρ) X) X) h (λe _ n=>absurd rfl (n e)) (λh _=>h) R;exact gA (H R) O (mL u) h KX λRA z₁ RB U g L=>hb c z₁ _ p _ X _ E y (mR u) U (λV n i W _ h' Y r' le=>
    K _ i _ h' (g.trans Y) (.hd (λq=>nomatch q) (VR.step Y.kp L) r') (congrArg succ le)) (KX.after g)
theorem aH.Cx(C:aH w fs pl ρ h W)(K:KC 7 h W h' W'):aH w fs pl ρ h' W':=
 C.Dd K.1 λj H a o e l=>have z:=K.2 a o e (l▸le_add_right 10 j) (λq=>absurd (l.symm.trans q) (zm 2744556240278 rfl _));⟨z.1,z.2.trans (Prod.ext l rfl)⟩
theorem aH.Ka{S:Mine.Internal.S}(C:aH w fs pl ρ h W)(K:KC (10+i) h W h' W')(hs:S≠.y→∀x,(pl i).At h x→∃v,x=some v∧a6 w h' W' (10+i) S v):aH w fs pl (ρ.set i S) h' W':=
 C.mC K.1 (λj H _ a o e l=>have z:=K.2 a o e (l▸le_add_right 10 j) (λq=>Bd H (l.symm.trans q));⟨z.1,z.2.trans (Prod.ext l rfl)⟩) hs
theorem Ea.has(O:Ea w fn f)(C:aH w fs pl ρ h W):∃o fd,h.get? (fn.g f).I=some o∧o.data=.func fd:=
 O.obj.imp λo g=>g.imp λfd g=>⟨C.obj g.2.2.1 g.2.2.2.1 g.1 g.2.1,g.2.2.2.2⟩
noncomputable def Bj(Q C:Value→Shared→Prop)(r:Result)(t:Shared):Prop:=match r with|.ok (.ret v)=>Q v t|.ok _=>False|.error e=>C e t
theorem callAny(H:∀y∈xs,aB y=true)
 (h:wpAny M A (spliced (backTo p (starEach xs env))) (λv j=>(∃b,(b=Keeper.frame∨b=Keeper.machine)∧∀f,f b j→wpAny M A (keeperOf (.ref a)) f C j)∧codeAny M A (.call (.ref a) ⟨first++v,[]⟩) (Bj Q C) j) C s):
 wpAny M A (callWith p (.ref a) first (backTo p (starEach xs env)) []) Q C s:=by
 unfold callWith;refine wpAny_bind (wpAny_holding (kW H (wpAny_mono h (λv j U=>wpAny_bind (wpAny_standAt ?_)) λ_ _ x=>x)));obtain⟨⟨b,k,hb⟩,c⟩:=U;have S:=wpAny_call c;rw[(fB H).1];have tail:∀{t:Sem Value},wpAny M A t Q C j→wpAny M A (t>>=λr=>holding [r] point>>=λ_=>pure r) Q C j:=
  λT=>wpAny_bind (wpAny_mono T (λr d R=>wpAny_bind (wpAny_holding (wpAny_point (wpAny_pure R)))) λ_ _ x=>x)
 refine wpAny_bind (hb _ ?_);rcases k with rfl|rfl
 ·show wpAny M A (if(backTo p (starEach xs env)).length+2*([]).length>30 then _ else _) Q C j
  split
  ·exact tail S
  ·exact tail (Calls.wpAny_keep S)
 ·exact tail S
theorem ud(h:∃o d,s.heap.get? a=some o∧o.data=.func d):∃b,(b=Keeper.frame∨b=Keeper.machine)∧∀Q,Q b s→wpAny M A (keeperOf (.ref a)) Q C s:=
 h.elim λo g=>g.elim λd g=>⟨.frame,.inl rfl,λQ q=>by
  unfold keeperOf;refine wpAny_bind (wpAny_load g.1 ?_);rw[g.2];exact wpAny_pure q⟩
theorem Ku(Y:Makes (model PP w) s.heap a):∃b,(b=Keeper.frame∨b=Keeper.machine)∧∀Q,Q b s→wpAny (model PP w) A (keeperOf (.ref a)) Q C s:=by
 obtain⟨⟨O,od,d,sl,H,E,j,t⟩,M,B,S,top,cl,T⟩:=Y;refine⟨.machine,.inr rfl,λQ q=> ?_⟩;unfold keeperOf;exact wpAny_bind (wpAny_load H (wpAny_bind (cl.here (wpAny_pure q))))
theorem rX{C:Prop}(o:Lr g c f k r=true)(h:(g f).kd=k→f<c.lv→(g f).tS≤r→C):C:=h (eq_of_beq_eq_true (aL o)) (le_of_ble_eq_true (aL (aR o))) (le_of_ble_eq_true (aR (aR o)))
theorem Ci(G:fA w os F fn)(H:zH w os F fn as):au w os F fn (.call f as):=λc z x k X Q E o u h K KX=>rX (aL (aR o)) λkd d R=>
 have g:=G.ok f (Nat.lt_of_lt_of_le d c.tp)
 wpAny_Call_Name_kw (dx c.O z.S.H (aL o) (g.tC kd) (callAny (fW (aR (aR o))) (H c z _ _ _ X _ E (aR (aR o)) u h (λargs Z s h' Y C le=>⟨ud (g.has Z.S.H),
  G.snd f (Nat.lt_of_lt_of_le d c.tp) c.fs c.A Z.s Z.W 7 args s _ X _ (c.hA.f d) (le▸R) (.inl rfl) Z.S.gens Z.S.os Z.S.H.b C h' (λr ss S W v B g2 O kc t _=>K r ⟨Z.ρ,S,W,g2,O,Z.S.H.Cx kc⟩ v B (Y.trans kc.1) t)
   λm a S V x=>KX m a S V (x.pre Y)⟩) KX)))
theorem CA(e:mB o=some J)(r:a6 w h W t o x):a6 w h W t J x:=by
 cases o<;>first|exact fN e|(cases e;exact r)
theorem rT(e:mB o=some J):o≠.y∧J≠.y:=by
 cases o<;>first|exact fN e|(cases e;exact⟨(λq=>nomatch q),(λq=>nomatch q)⟩)
theorem Ep(e:GS o=some J):mB o=some J∧∃L,o=.oi 1 L∨o=.bi 1 L:=by
 cases o with
 |oi c s=>match c,e with|1,e=>exact⟨e,s,.inl rfl⟩
 |bi c s=>match c,e with|1,e=>exact⟨e,s,.inr rfl⟩
 |_=>exact fN e
theorem KJ{x y:Mine.Internal.S}{C:Prop}(h:(match b with|true=>some x|false=>none)=some y)(f:b=true→x=y→C):C:=by
 cases b with
 |true=>exact f rfl (Option.some.inj h)
 |false=>exact fN h
theorem B5(e:oM o d=some O)(r:a6 w h W t d x):a6 w h W t O x:=by
 cases o with
 |U l=>cases d<;>first|(cases e;exact r)|exact fN e
 |bl l=>cases d<;>first|(cases e;exact r)|exact fN e
 |oi c f=>
  cases d with
  |bi C Z=>exact KJ e λq e=>by rw[←e,eq_of_beq_eq_true q];exact r
  |_=>exact fN e
 |bi c f=>
  cases d with
  |bi C Z=>exact KJ e λq e=>by rw[←e,eq_of_beq_eq_true q];exact r
  |_=>exact fN e
 |_=>exact fN e
theorem QL{P:Mine.Internal.S→List V→Prop}{C:Prop}(h:match o,O with|some a,some b=>P a b|_,_=>False)(f:∀a b,o=some a→O=some b→P a b→C):C:=by
 cases o with
 |none=>exact h.elim
 |some a=>cases O with
  |none=>exact h.elim
  |some b=>exact f a b rfl rfl h
theorem QO{P:Mine.Internal.S→Prop}{C:Prop}(h:match l with|[a]=>P a|_=>False)(f:∀a,l=[a]→P a→C):C:=by
 cases l with
 |nil=>exact h.elim
 |cons a l=>cases l with
  |nil=>exact f a rfl h
  |cons b l=>exact h.elim
theorem qH.Kx(n:a≠.y)(o:a6 w h W t a x)(r:cW w h W vs xs):qH w h W t (a::vs.map .j) (x::xs):=
 congrArg (λl=>a::l.map Mine.Internal.S.j) (append_nil vs)▸qH.hd (n:=0) n o r
theorem lB.cG(b:lB w h W t [s] (x::xs)):a6 w h W t s x:=by
 cases b with
 |vP r=>exact r
theorem uF{c:Fr fn}{z:Zt w os c.fs c.pl}{tk:Nat}{X:Str→Prop}{Q E:Value→Shared→Prop}(G:fA w os F fn)(H:f<c.cf.lv)(U:(fn.g f).tS≤Y.length+1)(J:mB O=some u)
 (I:(c.pl i).At z.s.heap (some y))(M:a6 w z.s.heap z.W (10+i) O y)(h8:i<800)(C:cW w z.s.heap z.W D Y)
 (h:F f (u::D.map .j) (λr ss=>match ss with|[t]=>(match oM O t with|some o=>k r (z.ρ.set i o)|.none=>False)|_=>False) X)(K:KQ z k Q)(KX:KX z X E):
 codeAny (model PP w) c.A (.call (.ref (fn.g f).I) ⟨y::Y,[]⟩) (Bj Q E) {z.s with toks:=tk}:=
 G.snd f (Nat.lt_of_lt_of_le H c.tp) c.fs c.A {z.s with toks:=tk} z.W (10+i) _ _ _ X _ (c.hA.f H) U (.inr ⟨le_add_right 10 i,Nat.add_lt_add_left h8 10⟩) z.S.gens z.S.os z.S.H.b (.Kx (rT J).2 (CA J M) C) h
  (λr ss S W v d g2 L kc R B=>QO d λt es d=>(Af d).elim λo q=>by
   subst es;exact K r ⟨_,S,W,g2,L,z.S.H.Ka kc λ_ x a=>⟨y,(I.qF a).symm,B5 q.1 B.cG⟩⟩ v q.2 kc.1 R) λm a S N x=>KX m a S N x
theorem FI(G:fA w os F fn):au w os F fn (.P f i as):=λc z x k X Q E o H h K KX=>rX (aL (aR o)) λkd d R=>QL h λJ S Y j h=>(Af h).elim λZ q=>
 jR z.S.H Y (rT q.1).1 λy V r h8=>
  have g:=G.ok f (Nat.lt_of_lt_of_le d c.tp);have O:=aR (aR (aR o))
  wpAny_Call_Name_kw (dx c.O z.S.H (aL o) (g.tC kd) (callAny (λu H=>(mem_cons.mp H).elim (λe=>e▸rfl) (fW O u)) (PyProof.Rows.spliced_more (bz c.O (bL (aL (aR (aR o)))) V
   (vt O j λC tk s le=>⟨ud (g.has z.S.H),uF G d (le▸R) q.1 V r h8 s q.2 K KX⟩)) rfl)))
theorem xW(G:fA w os F fn):au w os F fn (.gi f i as):=λc z x k X Q E o L h K KX=>rX (aL (aR o)) λj H r=>QL h λA v Y S h=>(Af h).elim λZ q=>by
 have g:=G.ok f (Nat.lt_of_lt_of_le H c.tp);have O:=aL (aR (aR (aR o)));obtain⟨N,B,W⟩:=Ep q.1;refine jR z.S.H Y (rT N).1 λy V R h8=> ?_;cases Lp W R with
 |mk I M J D u d U C T=>
  obtain⟨m1,m2,m3⟩:=g.z9 j;have P:=fW O;have m:methodCallForm ((bC fn.g as (bR x).tail).length+([]:List Keyword).length) (backTo x.pos (starEach (bC fn.g as (bR x).tail) c.env)) (backToKw x.pos (keywordEach [] c.env))=true:=by
   show((backTo x.pos (starEach (bC fn.g as (bR x).tail) c.env)).all (λx=> !x.1)&&true&&decide ((bC fn.g as (bR x).tail).length+0+0<30))=true;rw[(fB P).2];exact decide_eq_true (Nat.lt_trans (le_of_ble_eq_true (aR (aR (aR (aR o))))) (by decide))
  show wpAny _ _ (eval (.Call (.Attribute (vX _) _ _) _ [] _) _) _ _ _;rw[arm_eval_Call,show∀t,attributeBase (vX (kd (kd x 0) 0)) (fn.g f).name c.env t=t fromλt=>fZ];refine wpAny_bind (bz c.O (bL (aL (aR (aR o)))) V (wpAny_bind (wpAny_standAt ?_)));unfold methodCall;rw[m];refine wpAny_bind (wpAny_holding (zq z.S.H I ⟨_,_,_,J,rfl,u,λ_=>rfl⟩ (U _ m3) m1 m2 ?_));refine wpAny_bind (wpAny_of_eq (show methodCallPos true _ _ _ _=pure x.pos by unfold methodCallPos;rw[(aL o:((kd x 0).pos.endLine==x.pos.line)=true)];rfl) ?_);exact callAny P (vt O S λp tk s le=>⟨ud (g.has z.S.H),uF G H (le▸r) N V R h8 s q.2 K KX⟩)
theorem Mo(P)(h:c<2):dy P (HL c) (.ref (cJ c)):=by
 rcases c with _|_|c
 ·exact .inl (by show aY (ofString "Vector") _=some (.ref 318);kernel_rfl)
 ·exact .inl (by show aY (ofString "Matching") _=some (.ref 614);kernel_rfl)
 ·exact absurd h (zm 701935988683 rfl _)
theorem me:StrKeys (#[]):=λe H=>by simp at H
theorem Ab(a:DG A j n u)(h:f<n):N3 (A.under (.builtin "type.__call__" ⟨.ref C::t,[]⟩)) j f:=
 ⟨a.frames,a.handled,by have:=a.depth;exact zl 0x883e4eaaf4de8c2269c8e033ef9c82 rfl h this,by have:=a.units;exact zl 0x31e42e842cd851fd4ba4611179c0181e104e0cec8a88ec482 rfl h this⟩
theorem Oi{r:Rv}{ss:List Mine.Internal.S}{c:Nat}{P:List (Nat×FK)→Prop}{C:Prop}(h:match r,ss with|.j .none,[.bi U d]=>(match Nat.beq c U with|true=>P d|false=>False)|_,_=>False)(f:∀d,r=.j .none→ss=[.bi c d]→P d→C):C:=by
 cases r with
 |j v=>
  cases v with
  |none=>
   cases ss with
   |nil=>exact h.elim
   |cons s ss=>
    cases s with
    |bi U d=>
     cases ss with
     |nil=>
      dsimp only at h;cases e:Nat.beq c U with
      |true=>rw[e]at h;exact f d rfl (by rw[Nat.eq_of_beq_eq_true e]) h
      |false=>rw[e]at h;exact h.elim
     |cons _ _=>exact h.elim
    |_=>exact h.elim
  |_=>exact h.elim
 |_=>exact h.elim
theorem Kr(G:fA w os F fn)(H:pR w os F fn as):au w os F fn (.new c f as):=λC z x k X Q E o u h K KX=>rX (aL (aR o)) λkd d g=>
 have M:=le_of_ble_eq_true (aL (aR (aR o)));have N:=(G.ok f (Nat.lt_of_lt_of_le d C.tp)).OV c M kd;have O:=aR (aR (aR o))
 wpAny_Call_Name_kw (dx C.O z.S.H (aL o) (Mo _ M) (callAny (fW O) (H C z _ _ _ X _ E O u h (λvs n Z D _ h' U A le=>
  have Y:=makes_of (oA Z.S.H c) (EU _ c)
  ⟨Ku Y,Z.push emptyDict (7,0) λJ T=>Zt.push ⟨Z.ρ,_,_,J⟩ (instObj (cJ c) Z.s.heap.objs.size) (7,0) λS V=>by
   have I:=T.trans V;refine make_core Y (looks_findIn (oA Z.S.H c) N.1) (λt=>bind_fn (oA Z.S.H c) t N.2) (.inl rfl) ?_;dsimp only at S V I;rw[size_push]at S V I;have B:((Z.s.heap.push emptyDict).push (instObj (cJ c) Z.s.heap.objs.size)).get? (Z.s.heap.objs.size+1)=some (instObj (cJ c) Z.s.heap.objs.size):=by
    have:((Z.s.heap.push emptyDict).push (instObj (cJ c) Z.s.heap.objs.size)).get? (Z.s.heap.push emptyDict).objs.size=some (instObj (cJ c) Z.s.heap.objs.size):=get?_push_size _ rfl;rw[size_push]at this;exact this
   have oi:OI w ((Z.s.heap.push emptyDict).push (instObj (cJ c) Z.s.heap.objs.size)) (dz (dz Z.W Z.s.heap.objs.size (7,0)) (Z.s.heap.objs.size+1) (7,0)) 7 c [] (.ref (Z.s.heap.objs.size+1)):=
    .mk (es:=[]) (n:=0) ⟨_,B,rfl,rfl,rfl⟩ aJ (Heap.get?_push_of_some _ (Heap.get?_push_size _ rfl)) ((bW (Nat.ne_of_lt (Nat.lt_succ_self _))).trans aJ) me (Nat.zero_le _) (λy _=>rfl) ⟨List.nodup_nil,λp P=>nomatch P⟩ (λp P=>nomatch P)
   exact G.snd f (Nat.lt_of_lt_of_le d C.tp) C.fs _ _ _ 7 _ (.ref (Z.s.heap.objs.size+1)::D) _ X _ (Ab C.hA d) (by rw[length_cons,le];exact g) (.inl rfl) S.gens S.os S.H.b (.hd (a:=.bi c []) (λq=>nomatch q) oi (A.step (KE.kp I))) h'
    (λr ss s W v L g2 i kc b l=>Oi L λe er es RA=>by
     subst er es;have ev:=VR.cG b;subst ev;have R:KE s.heap W s.heap (λa=>lb 7 2 (W a)):=KE.wX (by unfold qy;exact zm 0x20574f04523feb3598157e71888 rfl) (by unfold uN;exact zm 670338037205128 rfl) (zm 85029060 rfl);exact⟨rfl,K (.oi c e) ⟨Z.ρ,s,λa=>lb 7 2 (W a),g2,i,(S.H.Cx kc).Dd R λj _=>Mv.wX (zm 2744556240278 rfl _)⟩ _ RA (((U.trans I).trans kc.1).trans R) (OI.dh R.kp Mv.to l.cG)⟩)
    (λm a s hx x=>KX m a s hx (x.pre (U.trans I)))⟩) KX)))
end
inductive ID(w:World)(A:Around)(h:Heap)(W:cy)(I:Addr)(items:List V):Prop where
 |mk {fp P Q} (wk:Walks PP w A I fp [I] items.length P Q) (live:∀i h,Q i h→∃o,h.get? I=some o) (q0:Q 0 h) (hfp:∀b∈fp,b=I∨(∃o,h.get? b=some o)∧(W b).1=0) (hv:∀i x v,items[i]? =some x→P i v→VR w h W x v)
section
variable(w:World)(os:OsState)(F:Nat→Spec)(fn:hW)
noncomputable def rQ(I:E):Prop:=∀(c:Fr fn)z x k X Q E t,
 bT fn.g I c.cf x=true→bp I≤c.u→qS F I z.ρ k X→
 (∀items(Z:Zt w os c.fs c.pl)S,k items Z.ρ→Le z Z→Z.W S=(t,0)→(∃o,Z.s.heap.get? S=some o)→ID w c.A Z.s.heap Z.W S items→Q (.ref S) Z.s)→KX z X E→
 wpAny (model PP w) c.A (eval (aO fn.g I x) c.env) (λv s=>wpAny (model PP w) c.A (pyIter v) Q E s) E z.s
end
section
variable{w:World}{os:OsState}{F:Nat→Spec}{fn:hW}
theorem wz{lo st:Int}{n i:Nat}(e:(ao lo n st)[i]? =some x):x=.int (lo+i*st):=by
 unfold ao at e;rw[getElem?_map]at e;obtain⟨j,q,e⟩:=Option.map_eq_some_iff.mp e;have:=(List.getElem?_eq_some_iff.mp q).2;simp at this;rw[←e,←this,Int.mul_comm]
theorem uT{z:Zt w os y p}(g:z.s.heap.get? a=some o)(u:(z.W a).1=0)(j:cW w z.s.heap z.W l m)
 (k:KE z.s.heap z.W (z.s.heap.push ob) (dz z.W z.s.heap.objs.size (t,0)))(H:Walks PP w A z.s.heap.objs.size [z.s.heap.objs.size,a] [z.s.heap.objs.size] m.toArray.size P Q)(L:∀i h,Q i h→∃o,h.get? z.s.heap.objs.size=some o)(f:Q 0 (z.s.heap.push ob))(d:∀i v,P i v→m[i]? =some v):
 ID w A (z.s.heap.push ob) (dz z.W z.s.heap.objs.size (t,0)) z.s.heap.objs.size l:=by
 rw[((List.size_toArray (as:=m)).trans j.length.symm)]at H;refine .mk H L f (λb hb=>(mem_cons.mp hb).imp id λhb=>mem_singleton.mp hb▸KE.kp k a o g u|>.imp (λe=>⟨o,e⟩) id) λi x v E V=> ?_;obtain⟨N,X,R⟩:=j.get E;cases X.symm.trans (d i v V);exact R.step k.kp
theorem C7{P:List V→Prop}{C:Prop}(p:match tI v with|some l=>P l|.none=>False)(r:VR w h W v x)
 (f:∀l a m n,P l→x=.ref a→h.get? a=some (dc m n)→(W a).1=0→cW w h W l m→C)(ft:∀l a m n,P l→x=.ref a→h.get? a=some (w5 m n)→(W a).1=0→cW w h W l m→C):C:=by
 cases r with
 |o E j N t=>exact f _ _ _ _ p rfl E j t
 |L E j N t=>exact ft _ _ _ _ p rfl E j t
 |_=>exact p.elim
theorem lD{h:Heap}(e:h.get? a=some o):a≠h.objs.size:=ne_of_lt (lt_size e)
theorem G6(H:au w os F fn a):rQ w os F fn (.D a):=λc z x k X Q E t o y h K KX=>gA H o y h KX λr z₁ O Y u Z=>C7 Y Z
 (λl a V n d ex g W R=>by
  subst ex;have U:=lD g;exact wpAny_pyIter_list ⟨_,g,rfl,n,rfl⟩ (z₁.push _ (t,0) λS M=>K l ⟨z₁.ρ,_,_,S⟩ _ d (u.trans M) aJ ⟨_,get?_push_size _ rfl⟩
   (uT g W R M (Walks.list c.hA.handled _ a U V.toArray) (λi h q=>q.1.imp λo q=>q.1) ⟨⟨_,get?_push_size _ rfl,rfl,rfl⟩,⟨_,get?_push_of_some _ g,rfl,n,rfl⟩⟩ λi v P=>by simpa using P)))
 λl a V n d ex g W R=>by
  subst ex;have U:=lD g;exact wpAny_pyIter_tuple ⟨_,g,rfl,n,rfl⟩ (z₁.push _ (t,0) λS M=>K l ⟨z₁.ρ,_,_,S⟩ _ d (u.trans M) aJ ⟨_,get?_push_size _ rfl⟩
   (uT g W R M (Walks.tuple c.hA.handled _ a U V.toArray) (λi h q=>q.1.imp λo q=>q.1) ⟨⟨_,get?_push_size _ rfl,rfl,rfl⟩,⟨_,get?_push_of_some _ g,rfl,n,rfl⟩⟩ λi v P=>by simpa using P))
theorem j9(h:vc a b=true):(-(2^62)≤a∧a<2^62∧-(2^62)≤b∧b<2^62):=by
 have h:(match decide (a.natAbs<2^60)with
  |true=>decide (b.natAbs<2^60)
  |false=>false)=true:=h
 cases q:decide (a.natAbs<2^60)with
 |true=>
  rw[q]at h;have h1:=of_decide_eq_true q;have h2:=of_decide_eq_true h;exact zl 0x22386b50900c8bb969b33f81ffc89879c640fc48dbaecc773 rfl h1 h2
 |false=>rw[q]at h;cases h
theorem jx:Builtin.Range.rangeSize a b 2=(((b-a+1).fdiv 2).toNat):=by
 unfold Builtin.Range.rangeSize;simp only[show(2:Int)>0 by decide,if_true];rw[Int.fdiv_eq_ediv_of_nonneg _ (by decide)];split<;>lia
theorem fits(h: -(2^63)≤a∧a<2^63):Builtin.Range.rangeFitsLong a=true:=by
 unfold Builtin.Range.rangeFitsLong;simp only[Bool.and_eq_true,decide_eq_true_eq];exact h
theorem zy(h:vc a b=true):Builtin.Range.small a b 2=true:=by
 obtain⟨h1,h2,h3,h4⟩:=j9 h;have d1:(((b-a+1)/2).toNat:Int)<2^63:=zl 0x14d2b2003f6cc79f61010ed3462859149fa75d45d3d057c6b0a5e55d26a0372 rfl (Qj _) h1 h4;unfold Builtin.Range.small;rw[jx,Int.fdiv_eq_ediv_of_nonneg _ (by decide)];simp only[show(2:Int)>0 by decide,if_true,fits (show-(2^63)≤a∧a<2^63 from zl 0xa6f9223ed99cc8ee4053e4b254f9ca7 rfl h1 h2),fits (show-(2^63)≤b∧b<2^63 from zl 0xa6f9223ed99cc8ee4053e4b254f9ca7 rfl h3 h4),fits (show-(2^63)≤(2:Int)∧(2:Int)<2^63 by decide),fits (a:=(((b-a+1)/2).toNat:Int)) ⟨zl 0x5d891e9b001075659c3875d45d3d057e9181fe7a376a0372 rfl (Qj _),d1⟩,
  fits (show-(2^63)≤b+(2-1)∧b+(2-1)<2^63 from zl 0xa6f9273f152dba84aff150e8ee4053e4b254f9ca7 rfl h3 h4),Bool.and_true,Bool.or_true]
theorem jV{c:Fr fn}{z z₁:Zt w os c.fs c.pl}{lo H st:Int}{n:Nat}{u M D tk t:Nat}{Q E:Value→Shared→Prop}{k:List V→R→Prop}(m:Le z z₁)
 (C:Builtin.Range.small lo H st=true)(U:Builtin.Range.rangeSize lo H st=n)(y:k (ao lo n st) z₁.ρ)
 (next:∀items(d:Zt w os c.fs c.pl)I,k items d.ρ→Le z d→d.W I=(t,0)→(∃o,d.s.heap.get? I=some o)→ID w c.A d.s.heap d.W I items→Q (.ref I) d.s):
 wpAny (model PP w) c.A (pyIter (.ref z₁.s.heap.objs.size)) Q E {z₁.s with heap:=z₁.s.heap.push {cls:=.type "range",data:=.fields #[.int lo u,.int H M,.int st D]},toks:=tk}:=
 (z₁.tk tk).push _ (0,0) λs K=>wpAny_pyIter_range (IsRange.new z₁.s.heap lo H st u M D) C (by
  rw[U];exact Zt.push ⟨z₁.ρ,_,_,s⟩ {cls:=.type "range_iterator",data:=.fields #[rawInt lo,rawInt n,rawInt st]} (t,0) λS B=>next (ao lo n st) ⟨z₁.ρ,_,_,S⟩ _ y (m.trans (K.trans B)) aJ ⟨_,get?_push_size _ rfl⟩ (by
   have W:=Walks.range (prog:=PP) (w:=w) c.hA.handled (z₁.s.heap.push {cls:=.type "range",data:=.fields #[.int lo u,.int H M,.int st D]}).objs.size lo st n;rw[←j7 (n:=n)]at W;refine .mk W (λi h q=>⟨_,q⟩) ?_ (λb hb=>.inl (mem_singleton.mp hb)) λi x v T P=> ?_
   ·have e:∀(h:Heap)(o O:Obj),o.isFreed=false→o=O→(h.push o).get? h.objs.size=some O:=λh o O f e=>e▸get?_push_size _ f
    exact e _ _ _ rfl (by simp[j7])
   ·obtain⟨j,rfl⟩:=P
    rw[wz T];exact .int ..))
theorem oG(h:pE v=some i):v=.int i:=by cases v<;>first|exact congrArg V.int (Option.some.inj h)|exact fN h
theorem Jx{l l':List V}(h:(match b with|true=>some l|false=>none)=some l'):b=true∧l=l':=by
 cases b with
 |true=>exact⟨rfl,Option.some.inj h⟩
 |false=>exact fN h
theorem si{C:Prop}(h:dG v=some l)(f1:∀n,v=[.int n]→vc 0 n=true→ao 0 n.toNat 1=l→C)(f:∀a b,v=[.int a,.int b]→vc a b=true→ao a (b-a).toNat 1=l→C)
 (t:∀a b,v=[.int a,.int b,.int 2]→vc a b=true→ao a ((b-a+1).fdiv 2).toNat 2=l→C):C:=by
 cases v with
 |nil=>exact fN h
 |cons x r=>
  delta dG at h;dsimp only at h;generalize e:pE x=o at h;cases o with
  |none=>exact fN h
  |some a=>
   have e:=oG e;subst e;cases r with
   |nil=>exact f1 a rfl (Jx h).1 (Jx h).2
   |cons y r=>
    dsimp only at h;generalize e:pE y=o at h;cases o with
    |none=>exact fN h
    |some b=>
     have e:=oG e;subst e;cases r with
     |nil=>exact f a b rfl (Jx h).1 (Jx h).2
     |cons y r=>
      dsimp only at h;generalize e:pE y=o at h;cases o with
      |none=>exact fN h
      |some c=>
       have e:=oG e;subst e;cases r with
       |nil=>
        dsimp only at h;generalize q:decide (c=2)=d at h;cases d with
        |true=>exact t a b (by rw[of_decide_eq_true q]) (Jx h).1 (Jx h).2
        |false=>exact fN h
       |cons _ _=>exact fN h
theorem zW{C:Prop}(r:cW w h W (.int a::v) y)(f:∀t Y,y=.int a t::Y→cW w h W v Y→C):C:=by
 cases r with
 |cons R P=>exact(VR.cG R).elim λt e=>f t _ (by rw[e]) P
theorem I7(r:cW w h W [] Y):Y=[]:=by cases r;rfl
theorem DX(H:pR w os F fn as):rQ w os F fn (.eX as):=λc z x k X Q E t o u h K KX=>by
 have O:=aR (aR (aR o));have P:=fW O;obtain⟨y,s,L⟩:=w9 (aL (aR (aR o)));refine wpAny_Call_Name_kw (dx c.O z.S.H (aL o) (El _) ?_);have a9:wpAny (model PP w) c.A (spliced (backTo x.pos (starEach (bC fn.g as (bR x).tail) c.env))) (λV=>wpAny (model PP w) c.A (call (.type "range") V) (λv S=>wpAny (model PP w) c.A (pyIter v) Q E S) E) E z.s:=by
  refine H c z _ _ _ X _ E O u h (λV n I s N h' Y R le=> ?_) KX;rw[M5 (aL (aR o)) N]at h';obtain⟨l,e,d⟩:=CG h';refine si e (λn ev ok L=> ?_) (λa b ev ok L=> ?_) λa b ev ok L=> ?_
  ·subst ev L
   exact zW R λT B e R=>by
    have:=I7 R;subst this e;exact call_range_1 (jV Y (small_one (by decide) (by decide) (j9 ok).2.2.1 (j9 ok).2.2.2) (by rw[rangeSize_one];split<;>(first|exact zl 46378913731112 rfl ‹_›|exact zl 21921293853630 rfl ‹_›)) d K)
  ·subst ev L
   exact zW R λT B e R=>zW R λW J j R=>by
    have:=I7 R;subst this j e;exact call_range_2 (jV Y (small_one (j9 ok).1 (j9 ok).2.1 (j9 ok).2.2.1 (j9 ok).2.2.2) (by rw[rangeSize_one];split<;>(first|exact zl 0xa70ec2a615a61 rfl ‹_›|exact zl 5556375717148977 rfl ‹_›)) d K)
  ·subst ev L
   exact zW R λT B e R=>zW R λW J j R=>zW R λD f m R=>by
    have:=I7 R;subst this m j e;exact call_range_3 (by decide) (jV Y (zy ok) jx d K) (.inl (PyProof.noPylong_small (by decide)))
 rw[L]at a9 P⊢;exact PyProof.Rows.callWith_type1 a9 (aE (P y (.head _))) (fB λz Z=>P z (.tail _ Z)).1
end
noncomputable def l8(cells:List (Str×Addr)):List (Str×NameKind)→List (Str×Addr)→List (Str×Addr)
|[],c=>c
|(n,k)::r,c=>if k==.free then l8 cells r ((n,(cells.lookup n).getD 0)::c)else l8 cells r c
theorem BN
 (H:∀n k cs,f (n,k) cs=if(k==.free)=true then(do let c←cellOf env n;pure (ForInStep.yield ((n,c)::cs)))else pure (ForInStep.yield cs))
 (names):∀C,(∀n,(n,NameKind.free)∈names→(env.cells.lookup n).isSome=true)→(forIn names C f:Sem _)=pure (l8 env.cells names C):=by
 induction names with
 |nil=>exactλ_ _=>rfl
 |cons p r I=>
  obtain⟨n,k⟩:=p;intro C h;have I:=λA=>I A λm M=>h m (.tail _ M);rw[forIn_cons,H];show _=pure (if(k==NameKind.free)=true then l8 env.cells r ((n,(env.cells.lookup n).getD 0)::C)else l8 env.cells r C);split
  ·rename_i K
   have U:k=.free:=by simpa using K
   subst U;obtain⟨c,O⟩:=Option.isSome_iff_exists.mp (h n (.head _));have:cellOf env n=pure c:=by unfold cellOf;rw[O]
   rw[this,O];simp only[pure_bind];exact I _
  ·simp only[pure_bind]
   exact I _
theorem jQ(h:∀n,(n,NameKind.free)∈sc.names→(env.cells.lookup n).isSome=true):closureFor sc env=pure (l8 env.cells sc.names []):=by
 unfold closureFor;show(forIn sc.names [] _>>=λs=>pure s)=_;rw[BN _ sc.names [] h]
 ·rfl
 ·intro n k cs
  dsimp only
theorem Ig{a b:Str}(h:¬a=b):(a==b)=false:=by simpa using h
theorem my(H:cells.lookup n=some c)(names):∀C,((n,NameKind.free)∈names∨C.lookup n=some c)→(∀U,C.lookup n=some U→U=c)→(l8 cells names C).lookup n=some c:=by
 induction names with
 |nil=>exactλC h _=>h.elim (λh=>nomatch h) id
 |cons p r I=>
  obtain⟨m,k⟩:=p;intro C h q;show List.lookup n (if(k==NameKind.free)=true then l8 cells r ((m,(cells.lookup m).getD 0)::C)else l8 cells r C)=_;split
  ·by_cases e:n=m
   ·subst e
    have E:List.lookup n ((n,(cells.lookup n).getD 0)::C)=some c:=by rw[lookup_cons_self,H];rfl
    exact I _ (.inr E) λU h'=>Option.some.inj (h'.symm.trans E)
   ·have E:List.lookup n ((m,(cells.lookup m).getD 0)::C)=List.lookup n C:=by rw[lookup_cons,Ig e]
    exact I _ (h.imp (λh=>(mem_cons.mp h).resolve_left λz=>e (Prod.mk.inj z).1) λh=>E.trans h) λU h'=>q U (E.symm.trans h')
  ·rename_i K
   exact I _ (h.imp (λh=>(mem_cons.mp h).resolve_left λz=>K (by rw[←(Prod.mk.inj z).2];rfl)) id) q
theorem dH(names):∀k c,cellsFrom k names c=cellsFrom k names []++c:=by
 induction names with
 |nil=>exactλ_ _=>rfl
 |cons p r I=>
  obtain⟨n,kd⟩:=p;intro k c;unfold cellsFrom;split
  ·rw[I (k+1) ((n,k)::c),I (k+1) [(n,k)],List.append_assoc];rfl
  ·exact I k c
theorem qA:∀{k},(n,c)∈cellsFrom k names []→(n,NameKind.cell)∈names:=by
 induction names with
 |nil=>exactλh=>nomatch h
 |cons p r I=>
  obtain⟨m,kd⟩:=p;intro k h;unfold cellsFrom at h;split at h
  ·rename_i H
   have O:kd=.cell:=by simpa using H
   subst O;rw[dH]at h;exact(mem_append.mp h).elim (λh=>.tail _ (I h)) λh=>(Prod.mk.inj (mem_singleton.mp h)).1▸.head _
  ·exact .tail _ (I h)
theorem jC:∀{k},(n,NameKind.cell)∈names→∃c,(n,c)∈cellsFrom k names []:=by
 induction names with
 |nil=>exactλh=>nomatch h
 |cons p r I=>
  obtain⟨m,kd⟩:=p;intro k h;unfold cellsFrom;split
  ·rw[dH]
   exact(mem_cons.mp h).elim (λz=>⟨k,mem_append_right _ ((Prod.mk.inj z).1▸.head _)⟩) λh=>(I h).imp λc H=>mem_append_left _ H
  ·rename_i K
   exact(mem_cons.mp h).elim (λz=>absurd (by rw[←(Prod.mk.inj z).2];rfl) K) I
theorem oF{Y:Type}{l l':List (Str×Y)}:(l++l').lookup n=(l.lookup n).or (l'.lookup n):=by
 induction l with
 |nil=>rfl
 |cons p l I=>
  rw[cons_append,lookup_cons,lookup_cons];cases n==p.1 with
  |true=>rfl
  |false=>exact I
theorem uA{Y:Type}{l:List (Str×Y)}(h:∀c,(n,c)∉l):l.lookup n=none:=by
 cases e:l.lookup n with
 |none=>rfl
 |some c=>exact absurd (mem_of_lookup e) (h c)
theorem pU{Y:Type}{n:Str}{c:Y}{l:List (Str×Y)}:(n,c)∈l→(l.lookup n).isSome=true:=by
 induction l with
 |nil=>exactλh=>nomatch h
 |cons p l I=>
  intro h;rw[lookup_cons];cases e:n==p.1 with
  |true=>rfl
  |false=>exact(mem_cons.mp h).elim (λz=>by rw[←z,beq_self_eq_true]at e;cases e) I
theorem wA{E:Value→Shared→Prop}
 (H:Q (newEnv sc s.heap.objs.size g (cellsFrom (s.heap.objs.size+1) sc.names cl) L none .none (some env) builtinsNs) {s with heap:=pushCells (s.heap.push {cls:=.type "dict",data:=.dict #[]}) sc.names}):
 wpAny M A (newFunctionEnv sc g cl [] L none .none (some env)) Q E s:=by
 simp only[newFunctionEnv,Option.isSome_some,if_true];refine wpAny_bind (wpAny_alloc ?_);refine wpAny_bind (wpAny_layCells _ (λname K cells=>by cases c:K==NameKind.cell<;>simp[c]) _ _ _ _ ?_);rw[show({s with heap:=s.heap.push {cls:=.type "dict",data:=.dict #[]}}:Shared).heap.objs.size=s.heap.objs.size+1 from size_push ..,forIn_nil];exact wpAny_bind (wpAny_pure (wpAny_pure H))
noncomputable def qB(j:Nat)(P:fK)(L:Nat→fK):Nat→fK:=λi=>match decide (i=j)with
 |true=>P
 |false=>L i
theorem dj:qB j P L j=P:=by simp[qB]
theorem iQ(h:i≠j):qB j P L i=L i:=by simp[qB,h]
theorem iU{env:Env}{names:List (Str×NameKind)}:
 (names.map λ(n,k)=>if(k==NameKind.free&&env.scope.kind==.function&&env.kindOf n==some .cell)then(n,NameKind.cell)else(n,k)).lookup x=(names.lookup x).map λk=>if(k==NameKind.free&&env.scope.kind==.function&&env.kindOf x==some .cell)=true then NameKind.cell else k:=by
 induction names with
 |nil=>rfl
 |cons p r I=>
  obtain⟨n,k⟩:=p;show List.lookup x ((if(k==NameKind.free&&env.scope.kind==.function&&env.kindOf n==some .cell)=true then(n,NameKind.cell)else(n,k))::_)=_;cases H:x==n with
  |true=>
   have:x=n:=by simpa using H
   subst this;simp only[List.lookup_cons,H,Option.map_some];split<;>simp
  |false=>
   simp only[H];split<;>(simp only[List.lookup_cons,H];exact I)
noncomputable abbrev sV(sc:Scope)(C k:Nat)(cl:List (Str×Addr))(env:Env):Env:={newEnv sc C env.globals (cellsFrom k sc.names cl) env.qual none .none (some env) builtinsNs with scope:=relabel sc env}
section
variable{w:World}{os:OsState}{F:Nat→Spec}{fn:hW}
noncomputable def xy(sc:Scope)(t:Str)(C k:Nat)(cl:List (Str×Addr))(P:fK):Prop:=(sc.names.lookup t=some .local∧P=.ns C t)∨(sc.names.lookup t=some .cell∧∃c,(cellsFrom k sc.names cl).lookup t=some c∧P=.cell c)
theorem zx(H:HS g t j sc)(f:sc.names.lookup n=some .free)(C:cl.lookup n=some c):(cellsFrom k sc.names cl).lookup n=some c:=by
 rw[dH,oF,uA λX m=>(H.free n (mem_of_lookup f)).2 (H.cel n (qA m))];exact C
theorem gq{kd:NameKind}(ne:kd≠.free)(e:sc.names.lookup n=some kd):(sV sc C k cl env).kindOf n=some kd:=by
 show(relabel sc env).names.lookup n=_;unfold relabel;dsimp only;rw[iU,e];simp[ne]
theorem Ek(H:sc.names.lookup n=some .free):(sV sc C k cl env).kindOf n=some .cell∨(sV sc C k cl env).kindOf n=some .free:=by
 show(relabel sc env).names.lookup n=_∨(relabel sc env).names.lookup n=_;unfold relabel;dsimp only;rw[iU,H];dsimp only[Option.map_some];split
 ·exact .inl rfl
 ·exact .inr rfl
theorem Ad(O:jL f env L)(H:HS f t j sc)
 (U:∀n c,(n,NameKind.free)∈sc.names→env.cells.lookup n=some c→cl.lookup n=some c)(d:xy sc t C k cl P):jL (sf f j sc) (sV sc C k cl env) (qB j P L):=by
 have free:∀n,sc.names.lookup n=some .free→∃c,(cellsFrom k sc.names cl).lookup n=some c∧((sV sc C k cl env).kindOf n=some .cell∨(sV sc C k cl env).kindOf n=some .free)∧∀i,aQ n f.nm=some i→L i=.cell c:=λn V=>
  (O.IX n (H.free n (mem_of_lookup V)).1).imp λc e=>⟨zx H V (U n c (mem_of_lookup V) e.1),Ek V,e.2.2⟩
 refine⟨H.kind,O.vd,O.blt,λn i h=> ?_,λn N=> ?_,λn N=>⟨gq (by decide) (H.gl n N).1,(H.gl n N).2⟩⟩
 ·rcases H.nm n i h with⟨rfl,rfl⟩|⟨h1,h2,h3⟩
  ·rw[dj]
   exact⟨H.QH.1,H.QH.2,d.imp (λp=>⟨gq (by decide) p.1,p.2⟩) λp=>⟨.inl (gq (by decide) p.1),p.2⟩⟩
  ·have z:=O.d n i h2
   rw[iQ h3];exact⟨z.1,z.2.1,.inr ((free n h1).elim λc e=>⟨e.2.1,c,e.1,e.2.2 i h2⟩)⟩
 ·rcases H.QP n N with⟨h1,rfl⟩|⟨h1,h2⟩
  ·rcases d with⟨p1,p2⟩|⟨p1,c,p2,p3⟩
   ·exact nomatch h1.symm.trans p1
   ·refine⟨c,p2,.inl (gq (by decide) p1),λi I=> ?_⟩
    rcases H.nm _ i I with⟨_,rfl⟩|⟨y,_⟩
    ·rw[dj];exact p3
    ·exact nomatch h1.symm.trans y
  ·refine(free n h1).imp λc e=>⟨e.1,e.2.1,λi I=> ?_⟩
   rcases H.nm _ i I with⟨rfl,rfl⟩|⟨_,T,h3⟩
   ·exact absurd rfl (H.free _ (mem_of_lookup h1)).2
   ·rw[iQ h3];exact e.2.2 i T
theorem we(d:sc.kind=.function)(J:xy sc t C k cl P)(a:P.At s.heap x)(H:s.heap.Ns C m)
 (h:∀h' tk m',P.At h' (some v)→Heap.SameBut P.I s.heap h'→h'.Ns C m'→Q () {s with heap:=h',toks:=tk}):wpAny M A (assign (.Name t p) (sV sc C k cl env) v) Q Y s:=by
 rcases J with⟨p1,rfl⟩|⟨p1,c,p2,rfl⟩
 ·refine wpAny_assign_Name (wpAny_storeName_local (gq (by decide) p1) H (λh' n S=>h h' _ _ ⟨_,n,by simp⟩ S n) ?_)
  show((relabel sc env).kind==.class||((relabel sc env).kind==.module&&_))=false;unfold relabel;dsimp only;rw[d];rfl
 ·refine wpAny_assign_Name (wpAny_storeName_cell (by show(relabel sc env).kind=_;exact d) (gq (by decide) p1) p2 a λh' O S=>h h' s.toks m O S (H.sameBut S ?_))
  rintro rfl;obtain⟨o,U,hd⟩:=id a;obtain⟨X,es,f,R,E,_⟩:=H;rw[U]at R;cases R;rw[hd]at E;cases E
theorem aH.J5(C:aH w fs pl ρ h W)(j):aH w fs pl (ρ.set j .y) h W:=
 C.mC .refl (λj _ _ a o e l=>⟨e,by rw[←l]⟩) λq=>absurd rfl q
theorem gH{S:Mine.Internal.S}(h:bG ρ j S k):k (ρ.set j S)∧j<ρ.length:=by
 delta bG at h;generalize e:ρ[j]? =o at h;cases o with
 |none=>exact h.elim
 |some T=>
  have l:=(List.getElem?_eq_some_iff.mp e).1;cases T<;>first|exact h.elim|exact⟨h,l⟩
noncomputable def ui(w:World)(os:OsState)(F:Nat→Spec)(fn:hW)(d:E):Prop:=∀(c:Fr fn)(z:Zt w os c.fs c.pl)y k X Q R,
 MT fn.g d c.cf y=true→bp d≤c.u→GV F d z.ρ k X→GY z k Q→KX z X R→
 wpAny (model PP w) c.A (forIn (match oz d with|true=>[]|false=>[aO fn.g d y]) true λx r=>if r=true then do let ok←isTrue x c.env (eval x c.env);pure (ForInStep.yield ok)else pure (ForInStep.yield r)) Q R z.s
theorem Jn:ui w os F fn .no:=λc z y k X Q E o H h K _=>wpAny_tests_nil (K true z h .refl)
theorem Iv(H:gG w os F fn a):ui w os F fn (.D a):=λc z y k X Q E o u h K KX=>wpAny_tests_one (H c z y k X Q E o u h K KX)
theorem KE.LB(K:KE h W h' W')(e:h.get? a=some o)(l:900≤(W a).1):h'.get? a=some o∧W' a=W a:=K.ex a o e (.inr (.inr (.inr l)))
end
section
variable{w:World}{os:OsState}{F:Nat→Spec}{fn:hW}
noncomputable def EO{f L}(z:Zt w os f L)(A:Around)(k:Rv→R→Prop)(Q Y:Value→Shared→Prop)(use:Option (Value→Sem Unit)):Prop:=
 ∀c Z D C tt,1600≤tt→(∀a o,z.s.heap.get? a=some o→(z.W a).1<tt)→k (.U c) Z.ρ→Le z Z→a6 w Z.s.heap Z.W 2 (.U c) (.ref D)→(∃m,Z.s.heap.Ns C m)→tt≤(Z.W C).1→
  (∀i,i<Z.ρ.length→(Z.W (L i).I).1<tt)→compPost (model PP w) A Y use Q (.ref D) C (.ok .next) Z.s
noncomputable def Kh{f L}(z:Zt w os f L)(j:Nat)(P:fK)(items:List V)(p:List Addr)(J:Nat→Value→Prop)(Q:Nat→Heap→Prop)(I D tt:Nat)(step:V→(List V→R→Prop)→List V→R→Prop)(a9:List V→R→Prop)(k:Nat)(t:Shared):Prop:=
 ∀C,(∀i A ρ' W' xs n m,i≤items.length→k=items.length+1-i→St w os f (qB j P L) (ρ'.set j .y) t W'→j<ρ'.length→KE z.s.heap z.W t.heap W'→Q i t.heap→W' I=(tt,0)→
  t.heap.get? D=some (dc xs n)→W' D=(tt+1,0)→cW w t.heap W' A xs→xs.length≤i→t.heap.Ns (D+1) m→W' (D+1)=(tt+2,0)→W' P.I=(tt+2,0)→
  (∀b∈p,b=I∨(∃o,t.heap.get? b=some o)∧(W' b).1=0)→(∀i x v,items[i]? =some x→J i v→VR w t.heap W' x v)→((items.drop i).foldr step a9) A ρ'→C)→C
theorem wq(Y:aB y=true):foldedSetIterable y env x=pure x:=by cases y<;>first|rfl|cases Y
theorem PT(H:1600≤tt):900≤tt+n:=Nat.le_trans (Nat.le_trans (by decide) H) (le_add_right ..)
theorem o9{W':cy}(e:W' a=(tt+n,0)):tt≤(W' a).1:=e▸Nat.le_add_right _ _
theorem rS{W':cy}(e:W' a=n)(j:W' b=m)(h:n≠m):a≠b:=λz=>h (e.symm.trans (z▸j))
theorem Fq{Y U:Type}{items:List Y}{step:Y→(List U→R→Prop)→List U→R→Prop}{j c}{ρ:R}{a9}(h:items.foldr step a9 c ρ)(H:∀v r a,step v r a ρ→j<ρ.length)(f:∀a,a9 a ρ→j<ρ.length):j<ρ.length:=by
 cases items with
 |nil=>exact f _ h
 |cons v V=>exact H v _ _ h
theorem zp{g:Heap}{W:cy}{sc:Scope}{t:Str}{tt D:Nat}{cl:List (Str×Addr)}{h4:Heap}(O:g.objs.size=D)(H:pushCells ((g.push {cls:=.type "list",data:=.seq ([]:List Value).toArray}).push {cls:=.type "dict",data:=.dict #[]}) sc.names=h4)
 (J:sc.names.lookup t=some .local∨sc.names.lookup t=some .cell)(f:910<D){C:Prop}
 (next:∀(L:cy)P,(∀b o,g.get? b=some o→h4.get? b=some o)→(∀a o,g.get? a=some o→L a=W a)→h4.get? D=some (dc [] 0)→L D=(tt+1,0)→h4.Ns (D+1) (λ_=>none)→L (D+1)=(tt+2,0)→xy sc t (D+1) (D+2) cl P→P.At h4 none→L P.I=(tt+2,0)→P≠.cell 910→C):C:=by
 have E:(g.push {cls:=.type "list",data:=.seq ([]:List Value).toArray}).objs.size=D+1:=by rw[Heap.size_push,O]
 have T:∀b o,g.get? b=some o→h4.get? b=some o:=λb o e=>H▸pushCells_keeps _ _ b o (Heap.get?_push_of_some _ (Heap.get?_push_of_some _ e))
 let L:cy:=λa=>match decide (a=D)with
  |true=>(tt+1,0)
  |false=>match decide (D+1≤a)with
   |true=>(tt+2,0)
   |false=>W a
 have Q:L D=(tt+1,0):=by simp[L]
 have i:∀a,D+1≤a→L a=(tt+2,0):=λa h=>by
  have h1:a≠D:=λz=>by rw[z]at h;exact absurd h (Nat.not_succ_le_self _)
  simp[L,h1,h]
 have R:∀a o,g.get? a=some o→L a=W a:=λa o e=>by
  have K:=Heap.lt_size e;rw[O]at K;have h1:a≠D:=Nat.ne_of_lt K;have h2:¬D+1≤a:=Nat.not_le.mpr (Nat.lt_succ_of_lt K);simp[L,h1,h2]
 have d:h4.get? D=some (dc [] 0):=H▸pushCells_keeps _ _ _ _ (Heap.get?_push_of_some _ (O▸Heap.get?_push_size _ rfl));have N:h4.Ns (D+1) λ_=>none:=by
  have:=(Heap.Ns.new (g.push {cls:=.type "list",data:=.seq ([]:List Value).toArray}) (.type "dict")).keeps (pushCells_keeps sc.names _);rw[E,H]at this;exact this
 obtain⟨P,Z,A,j,n⟩:∃P,xy sc t (D+1) (D+2) cl P∧P.At h4 none∧L P.I=(tt+2,0)∧P≠.cell 910:=by
  rcases J with h1|h1
  ·exact⟨.ns (D+1) _,.inl ⟨h1,rfl⟩,⟨_,N,rfl⟩,i _ (Nat.le_refl _),λz=>nomatch z⟩
  ·obtain⟨X,S⟩:=jC (k:=D+2) (mem_of_lookup h1)
   obtain⟨c,I⟩:=Option.isSome_iff_exists.mp (pU S);have ok:=cellsFrom_ok sc.names ((g.push {cls:=.type "list",data:=.seq ([]:List Value).toArray}).push {cls:=.type "dict",data:=.dict #[]}) (D+2) [] ⟨λ_ _ m=>(nomatch m),List.Pairwise.nil⟩ (by rw[Heap.size_push,E];exact Nat.le_refl _);rw[Heap.size_push,E,H]at ok;have z:=ok.empty _ c (mem_of_lookup I);exact⟨.cell c,.inr ⟨h1,c,by rw[dH,oF,I];rfl,rfl⟩,z.1,i _ (Nat.le_of_succ_le z.2),
    λq=>absurd (Nat.lt_of_lt_of_le f (Nat.le_of_succ_le (Nat.le_of_succ_le ((fK.cell.inj q)▸z.2)))) (Nat.lt_irrefl _)⟩
 exact next L P T R d Q N (i (D+1) (Nat.le_refl _)) Z A j n
theorem u5(H:rQ w os F fn I)(O:ui w os F fn d)(J:au w os F fn e){c:Fr fn}{z:Zt w os c.fs c.pl}
 (o:bT fn.g (.comp j I d e) c.cf x=true)(u:bp (.comp j I d e)≤c.u)(h:ev F (.comp j I d e) z.ρ k X)(K:EO z c.A k Q Y use)(KX:KX z X Y):
 wpAny (model PP w) c.A (comprehension (aO fn.g (.comp j I d e) x) (qx x) c.env p (newList []) false (eval (aO fn.g I (kd x 2)) c.env) use) Q Y z.s:=by
 have u:=Nat.le_trans (Nat.le_add_right _ 2) u;have L:=Cg (aL (aR o));have hn:=bL (aL o);have py:=aL (aR (aR o));have oi:=aL (aR (aR (aR o)));have oc:=aL (aR (aR (aR (aR o))));have oe:=aR (aR (aR (aR (aR o))));clear o;obtain⟨tt,ht,hf⟩:=lW z.s.heap z.W;have Sg:=jQ (sc:=qx x) (env:=c.env) λn hn=>(c.O.IX n (L.free n hn).1).elim λ_ e=>by rw[e.1];rfl
 have Sh:∀n c',(n,NameKind.free)∈(qx x).names→c.env.cells.lookup n=some c'→(l8 c.env.cells (qx x).names []).lookup n=some c':=λn c' hn e=>my e _ _ (.inl hn) λ_ e=>nomatch e;generalize l8 c.env.cells (qx x).names []=cl at Sg Sh;refine wpAny_comprehension_free (use:=use) (cl:=cl) (g:=⟨vX (kd x 1),aO fn.g I (kd x 2),match oz d with|true=>[]|false=>[aO fn.g d (kd x 3)],0⟩) (gs:=[]) rfl (λ_=>wq py) Sg L.kind (λx hx e=>bN L.BM (e▸hx)) ?_;refine H c z (kd x 2) _ X _ Y tt oi (mL u) h (λitems B G hh SS wI eI SU=> ?_) KX;cases SU with
 | @mk fp Pp Qs Wk SV q0 SW hv=>
 have RQ:=hh.2;have Si:=hh.1;have hj:=Fq RQ (λ_ _ _ h=>(gH h).2) λ_ h=>(gH h).2;have M:∀n,900≤tt+n:=λn=>PT ht;refine wpAny_newList ?_ (by simp[sizeLine]);refine wA ?_;dsimp only;generalize hD:B.s.heap.objs.size=D;have eC:(B.s.heap.push {cls:=.type "list",data:=.seq ([]:List Value).toArray}).objs.size=D+1:=by rw[Heap.size_push,hD]
 rw[eC];generalize Sj:pushCells ((B.s.heap.push {cls:=.type "list",data:=.seq ([]:List Value).toArray}).push {cls:=.type "dict",data:=.dict #[]}) (qx x).names=h4;have SX:910<D:=hD▸B.S.H.b.iZ.2.elim λvs e=>Heap.lt_size e;refine zp (W:=B.W) (tt:=tt) (cl:=cl) hD Sj L.has SX λW4 P k4 RR dD wD nC SY hP aP wP nP=> ?_;obtain⟨Tq,Tr,Z,m0,S0,S2,S3,hl⟩:=B.S.head;have g4:Gr Z B.s.heap h4:=.fU k4;have S4:=g4.st (t:=B.s.toks) hl RR B.S;have Sk:KE B.s.heap B.W h4 W4:=g4.ke hl RR;have K4:=SS.trans Sk;clear hD Sj eC S0 S2 S3 hl g4 hh
 let c':Fr fn:=⟨sf c.cf j (qx x),sV (qx x) (D+1) (D+2) cl c.env,c.fs,qB j P c.pl,c.A,c.u,Ad (C:=D+1) (k:=D+2) c.O L Sh hP,c.hA,c.tp⟩
 have R2:∀ρ'(s:Shared)W',aH w c.fs (qB j P c.pl) ρ' s.heap W'→KE z.s.heap z.W s.heap W'→∀i,i≠j→i<ρ'.length→(W' (c.pl i).I).1<tt:=λρ'(s:Shared)W' C' A i ne H=>by
  have:qB j P c.pl i≠.cell 910:=(C'.a9 i).mp H;rw[iQ ne]at this;have Sl:=(z.S.H.a9 i).mpr this;obtain⟨x,a⟩:=z.S.H.cz Sl;obtain⟨o,e⟩:=a.lt;rw[A.nk (z.S.H.bH i Sl) a];exact hf _ o e
 have FP:∀W':cy,W' P.I=(tt+2,0)→qI (qB j P c.pl j) (W' (qB j P c.pl j).I).1:=λW' e=>by
  rw[dj,e];exact .inl (.inr (.inr (.inl (M 2))))
 have start:St w os c.fs (qB j P c.pl) (B.ρ.set j .y) {B.s with heap:=h4} W4:=⟨S4.gens,S4.os,
  S4.H.jZ (t:=tt) (M 0) (λb o _ e=>⟨e,rfl⟩) (λi ne=>iQ ne) hj (by rw[dj];exact nP) (λi _ _ o e=>⟨e,rfl⟩) ⟨none,by rw[dj];exact aP,.inl rfl⟩ (FP _ wP)⟩
 generalize Sn:(λ(v:V)(So:List V→R→Prop)(RC:List V)(ρ:R)=>bG ρ j (.j v) λρ=>GV F d ρ (λc ρ=>match c with
  |true=>ev F e ρ (λr ρ=>So (RC++[r.v]) ρ) (λ_=>False)
  |false=>So RC ρ) (λ_=>False))=step at RQ
 generalize S5:(λ(RC:List V)(ρ:R)=>bG ρ j .y λρ=>k (.U RC) ρ)=a9 at RQ;have Sp:∀ρ'(s:Shared)W'(h':Heap)a,aH w c.fs (qB j P c.pl) ρ' s.heap W'→KE z.s.heap z.W s.heap W'→tt≤(W' a).1→a≠P.I→(∀b o,b≠a→s.heap.get? b=some o→h'.get? b=some o)→
  ∀i,i<ρ'.length→∀o,s.heap.get? (qB j P c.pl i).I=some o→h'.get? (qB j P c.pl i).I=some o∧W' (qB j P c.pl i).I=W' (qB j P c.pl i).I:=λρ'(s:Shared)W' h' a C' A wa na kk i H o eo=>by
  refine⟨kk _ o (λz=> ?_) eo,rfl⟩
  by_cases q:i=j
  ·subst q;rw[dj]at z;exact na z.symm
  ·rw[iQ q]at z
   have:=R2 ρ' s W' C' A i q H;rw[z]at this;exact Nat.not_lt.mpr wa this
 have R3:∀{W':cy}{h h':Heap}{a:Addr},tt≤(W' a).1→(∀b o,b≠a→h.get? b=some o→h'.get? b=some o)→KS tt h W' h' W':=λwa kk b o l e=>⟨kk b o (λz=>Nat.not_lt.mpr wa (z▸l)) e,rfl⟩;have Sq:codeAny (model PP w) c.A (.compLoop (aO fn.g (.comp j I d e) x) 0 (.ref G) (.ref D) (sV (qx x) (D+1) (D+2) cl c.env)) (compPost (model PP w) c.A Y use Q (.ref D) (D+1)) {B.s with heap:=h4}:=by
  refine codeAny_compLoop_tests (Kh z j P items fp Pp Qs G D tt step a9) (λkk s S6=>S6 _ λi RC ρ' W' xs n m S7 ek S' RS A q' RH eD RD rv hx Sr RT RI R4 Ss RU=> ?_) (items.length+1)
   (λ_ f=>f 0 [] B.ρ W4 [] 0 _ (Nat.zero_le _) rfl start hj K4 (Wk.frame _ _ _ q0 (λb hb o e=>k4 b o e)) (eI.elim λoI eI=>(RR _ _ eI).trans wI) dD wD .nil (Nat.zero_le _) nC SY wP
    (λb hb=>(SW b hb).imp id λq=>⟨q.1.imp λo=>k4 b o,q.1.elim λo e=>by rw[RR b o e];exact q.2⟩) (λi x v ei pv=>(hv i x v ei pv).step Sk.kp) RQ)
  subst ek;have S8:(tt+1,0)≠((tt,0):Nat×Nat):=λq=>Nat.succ_ne_self _ (Prod.mk.inj q).1;have Su:(tt+2,0)≠((tt,0):Nat×Nat):=λq=>absurd (Prod.mk.inj q).1 (zm 167115702 rfl _);have S9:(tt+2,0)≠((tt+1,0):Nat×Nat):=λq=>absurd (Prod.mk.inj q).1 (zm 174839045046 rfl _);have Sv:D+1≠G:=rS RT RH Su;have RV:D≠G:=rS RD RH S8;have Sw:P.I≠G:=rS RI RH Su;have R5:P.I≠D:=rS RI RD S9;have R6:D+1≠D:=Nat.succ_ne_self _;have RE:tt≤(W' G).1:=o9 (n:=0) RH;have Sx:tt≤(W' D).1:=o9 RD;have RJ:tt≤(W' P.I).1:=o9 RI;have nz:∀{b a:Addr},tt≤(W' a).1→(W' b).1=0→b≠a:=λg l q=>by subst q;rw[l]at g;exact absurd (Nat.le_trans ht g) (by decide)
  by_cases lt:i<items.length
  ·rw[List.drop_eq_getElem_cons lt,List.foldr_cons,←Sn]at RU
   have hk:=(gH RU).1;rw[Sn]at hk;refine Wk.item i s _ _ lt q' λv U tk pv Ta R7=> ?_;have RA:∀b o,b≠G→s.heap.get? b=some o→U.get? b=some o:=λb o ne e=>R7 b o (λq=>ne (List.mem_singleton.mp q)) e;have R8:KS tt s.heap W' U W':=R3 RE RA;have S1:St w os c.fs (qB j P c.pl) (ρ'.set j .y) {s with heap:=U,toks:=tk} W':=⟨S'.gens,S'.os,S'.H.rB (t:=tt) (M 0) (Sp _ s W' U G S'.H A RE (Ne.symm Sw) RA) R8⟩;have K1:KE z.s.heap z.W U W':=A.gV hf R8;obtain⟨xP,Sy⟩:=S1.H.cz (i:=j) (by rw[List.length_set];exact RS);rw[dj]at Sy;refine we L.kind hP Sy (cj Sr λo e=>RA _ o Sv e) λN Sz SA SD Tb SE=> ?_;have RK:∀b o,b≠P.I→U.get? b=some o→N.get? b=some o:=λb o ne e=>(Tb.2 b ne).trans e;have R9:KS tt U W' N W':=R3 RJ RK;have RX:Kp s.heap W' N W':=(R8.kp (M 0)).trans (R9.kp (M 0));have K2:KE z.s.heap z.W N W':=K1.gV hf R9;have SG:St w os c.fs (qB j P c.pl) (ρ'.set j (.j items[i])) {s with heap:=N,toks:=Sz} W':=by
    have C2:=S1.H.jZ (t:=tt) (j:=j) (pl':=qB j P c.pl) (S:=.j items[i]) (h':=N) (W':=W') (M 0) R9 (λ_ _=>rfl) (by rw[List.length_set];exact RS) (by rw[dj];exact nP)
     (λi ne H o e=>⟨RK _ o (λz=>by rw[iQ ne]at z;have:=R2 _ _ W' S1.H K1 i ne H;rw[z]at this;exact Nat.not_lt.mpr RJ this) e,rfl⟩)
     ⟨some v,by rw[dj];exact SD,.inr ⟨v,rfl,(Ss i _ v (List.getElem?_eq_getElem lt) pv).step RX⟩⟩ (FP _ RI)
    rw[List.set_set]at C2;exact⟨S1.gens,S1.os,C2⟩
   have q2:Qs (i+1) N:=Wk.frame _ _ _ Ta λb hb o e=>RK b o ((R4 b hb).elim (λq=>q▸Ne.symm Sw) λq=>nz RJ q.2) e;have SH:N.get? D=some (dc xs n):=RK _ _ (Ne.symm R5) (RA _ _ RV eD);have again:∀RY RL(RB:Shared)E RM Sa,St w os c.fs (qB j P c.pl) RL RB E→KE z.s.heap z.W RB.heap E→(∀a o,a≠D→N.get? a=some o→(900≤(W' a).1∨(W' a).1=0)→RB.heap.get? a=some o∧E a=W' a)→
    RB.heap.get? D=some (dc RM Sa)→E D=(tt+1,0)→cW w RB.heap E RY RM→RM.length≤i+1→Kp N W' RB.heap E→((items.drop (i+1)).foldr step a9) RY RL→
    ∃m',m'<items.length+1-i∧Kh z j P items fp Pp Qs G D tt step a9 m' RB:=λRY RL RB E RM Sa RZ Sb RF e4 w4 r4 l4 Tc f4=>⟨items.length+1-(i+1),zl 0x5496d6178b00abff02 rfl lt,λ_ f=>by
    obtain⟨Td,Te⟩:=SV _ _ q2;have pI:=RF G Td (Ne.symm RV) Te (.inl (Nat.le_trans (M 0) RE));have R0:∀b∈fp,b≠D∧(900≤(W' b).1∨(W' b).1=0):=λb hb=>(R4 b hb).elim (λq=>⟨q▸Ne.symm RV,.inl (q▸Nat.le_trans (M 0) RE)⟩) λq=>⟨nz Sx q.2,.inr q.2⟩;have pP:E P.I=W' P.I:=SD.lt.elim λoP eP=>(RF P.I oP R5 eP (.inl (Nat.le_trans (M 0) RJ))).2;have Tf:j<RL.length:=by rw[SG.H.oX RZ.H,List.length_set];exact RS
    have SI:900≤(W' (D+1)).1:=by rw[RT];exact M 2
    have pC:RB.heap.Ns (D+1) SA∧E (D+1)=W' (D+1):=⟨cj SE λo e=>(RF (D+1) o R6 e (.inl SI)).1,SE.elim λo q=>q.elim λ_ q=>q.elim λ_ q=>(RF (D+1) o R6 q.1 (.inl SI)).2⟩;exact f (i+1) RY RL E RM Sa SA lt rfl ⟨RZ.gens,RZ.os,RZ.H.J5 j⟩ Tf Sb (Wk.frame _ _ _ q2 λb hb o e=>(RF b o (R0 b hb).1 e (R0 b hb).2).1) (pI.2.trans RH) e4 w4 r4 l4 pC.1 (pC.2.trans RT) (pP.trans RI)
     (λb hb=>(R4 b hb).imp id λq=>q.1.elim λo eo=>have y:=RF b o (R0 b hb).1 (RK b o (nz RJ q.2) (RA b o (nz RE q.2) eo)) (R0 b hb).2;⟨⟨o,y.1⟩,by rw[y.2];exact q.2⟩)
     (λi x v ei pv=>(Ss i x v ei pv).step (RX.trans Tc)) f4⟩
   have SJ:900≤(W' D).1:=by rw[RD];exact M 1
   refine O c' ⟨ρ'.set j (.j items[i]),{s with heap:=N,toks:=Sz},W',SG⟩ (kd x 3) _ (λ_=>False) _ _ oc (mL (mR u)) hk (λcc RN SK RG=> ?_) (λ_ _ _ q _=>q.elim);cases cc with
   |false=>
    have D3:=KE.LB RG SH SJ;exact again RC RN.ρ RN.s RN.W xs n RN.S (K2.trans RG) (λa o _ e l=>RG.ex a o e (l.elim (λq=>.inr (.inr (.inr q))) .inl)) D3.1 (D3.2.trans RD) ((rv.step RX).step RG.kp) (Nat.le_succ_of_le hx) RG.kp SK
   |true=>
    refine gA (c:=c') (z:=RN) (X:=λ_=>False) J oe (mR (mR u)) SK (λ_ _ _ q _=>q.elim) λr T Tg Th Sb Ti=> ?_;have RO:KE N W' T.s.heap T.W:=RG.trans Sb;have D4:=KE.LB RO SH SJ;have SM:T.W D=(tt+1,0):=D4.2.trans RD;have SN:tt≤(T.W D).1:=o9 SM;refine ri D4.1 (Nat.lt_of_le_of_lt hx (Nat.lt_of_lt_of_le lt Si)) λR1 Tj Tn To=> ?_;have Sd:∀b o,b≠D→T.s.heap.get? b=some o→R1.get? b=some o:=λb o ne e=>(To.2 b ne).trans e;have Se:KS tt T.s.heap T.W R1 T.W:=R3 SN Sd;have SO:KE z.s.heap z.W T.s.heap T.W:=K2.trans RO;have k5:=Se.kp (M 0);exact again (RC++[r.v]) T.ρ {T.s with heap:=R1} T.W (xs++[Tg]) Tj ⟨T.S.gens,T.S.os,T.S.H.rB (t:=tt) (M 0) (Sp _ T.s T.W R1 D T.S.H SO SN (Ne.symm R5) Sd) Se⟩ (SO.gV hf Se)
     (λa o ne e l=>have y:=RO.ex a o e (l.elim (λq=>.inr (.inr (.inr q))) .inl);⟨Sd a o ne y.1,y.2⟩) Tn SM (cM.append ((((rv.step RX).step RO.kp)).step k5) (.cons (VR.step k5 Ti) .nil)) (by rw[List.length_append];exact Nat.succ_le_succ hx) (Kp.trans RO.kp k5) Th
  ·have Tp:i=items.length:=Nat.le_antisymm S7 (Nat.not_lt.mp lt)
   subst Tp;rw[List.drop_length,List.foldr_nil,←S5]at RU;have hk:=(gH RU).1;refine Wk.done s _ _ q' λU tk R7=> ?_;have RA:∀b o,b≠G→s.heap.get? b=some o→U.get? b=some o:=λb o ne e=>R7 b o (λq=>ne (List.mem_singleton.mp q)) e;have ks:KS tt s.heap W' U (dz W' D (2,0)):=λb o l e=>⟨RA b o (λz=>Nat.not_lt.mpr RE (z▸l)) e,bW λz=>Nat.not_lt.mpr Sx (z▸l)⟩;have l2:B.ρ.length=z.ρ.length:=z.S.H.oX B.S.H;have RP:j<z.ρ.length:=l2▸hj;obtain⟨x0,a0⟩:=z.S.H.cz RP;have lj:=A.nk (z.S.H.bH j RP) a0;have aj:=A.cz (z.S.H.bH j RP) a0;have SQ:(W' (c.pl j).I).1<tt:=a0.lt.elim λoj ej=>by rw[lj];exact hf _ oj ej
   have Sf:=S'.H.jZ (t:=tt) (j:=j) (pl':=c.pl) (S:=.y) (M 0) ks (λi ne=>(iQ ne).symm) (by rw[List.length_set];exact RS) ((z.S.H.a9 j).mp RP)
    (λi ne H o e=>by
     have:=R2 _ s W' S'.H A i ne H;rw[iQ ne]at e⊢;exact ks _ o this e) ⟨x0,eH aj λo e=>(ks _ o SQ e).1,.inl rfl⟩ (aj.lt.elim λo' e'=>by
     rw[(ks _ o' SQ e').2,lj];exact z.S.H.bH j RP)
   rw[List.set_set]at Sf;have SR:KE z.s.heap z.W U (dz W' D (2,0)):=A.gV hf ks;exact K RC ⟨ρ'.set j .y,{s with heap:=U,toks:=tk},dz W' D (2,0),S'.gens,S'.os,Sf⟩ D (D+1) tt ht hf hk SR
    (OL.mk (RA D _ RV eD) aJ (Nat.le_trans hx Si) (rv.step (ks.kp (M 0)))) ⟨m,cj Sr λo e=>RA _ o Sv e⟩ (by show tt≤(dz W' D (2,0) (D+1)).1;rw[bW R6];exact o9 RT) (yL z.S.H Sf SR hf)
 exact codeAny_compStart_list Sq (Wk.self 0 _ _ _ (Wk.frame _ _ _ q0 (λb hb o e=>k4 b o e)) Sq)
theorem Ji(H:rQ w os F fn I)(O:ui w os F fn d)(y:au w os F fn e):au w os F fn (.comp j I d e):=λc z x k X Q r o u h K KX=>by
 show wpAny _ _ (eval (.ListComp _ _ _ _) _) _ _ _;rw[eval_ListComp];refine u5 H O y o u h (λA Z D C tt t f R Y E N W L=>N.elim λm N=>⟨m,N,λh' S=> ?_⟩) KX;have p:∀b o,b≠C→Z.s.heap.get? b=some o→h'.get? b=some o:=λb o ne e=>(S.2 b ne).trans e;have s:KS tt Z.s.heap Z.W h' Z.W:=λb o l e=>⟨p b o (λq=>Nat.not_lt.mpr W (q▸l)) e,rfl⟩;cases E with
 |mk B P g M=>
  exact K (.U A) ⟨Z.ρ,{Z.s with heap:=h'},Z.W,Z.S.gens,Z.S.os,Z.S.H.rB (PT (n:=0) t) (λi H o=>s _ o (L i H)) s⟩ _ R (Y.gV f s)
   (OL.mk (p D _ (λq=>by rw[←q,P]at W;exact absurd W (by show¬tt≤2;exact zl 0x9a61925a2b34a rfl t)) B) P g (M.step (s.kp (PT (n:=0) t))))
end
section
variable{w:World}{os:OsState}{F:Nat→Spec}{fn:hW}
noncomputable def NR{f L}(z:Zt w os f L)(A:Around)(k:Rv→R→Prop)(Q:Unit→Shared→Prop)(Y:Value→Shared→Prop)(use:Value→Sem Unit):Prop:=
 ∀r Z D C tt,1600≤tt→(∀a o,z.s.heap.get? a=some o→(z.W a).1<tt)→k r Z.ρ→Le z Z→a6 w Z.s.heap Z.W 2 r.s (.ref D)→(∃m,Z.s.heap.Ns C m)→tt≤(Z.W C).1→
  (∀i,i<Z.ρ.length→(Z.W (L i).I).1<tt)→wpAny (model PP w) A (use (.ref D)) (λ_ S=>∃m,S.heap.Ns C m∧∀h',SameBut C S.heap h'→Q () {S with heap:=h'}) Y Z.s
noncomputable def xa(w:World)(os:OsState)(F:Nat→Spec)(fn:hW)(e:E):Prop:=∀(c:Fr fn)(z:Zt w os c.fs c.pl)x k X Q r use,
 bT fn.g e c.cf x=true→bp e≤c.u→ev F e z.ρ k X→NR z c.A k Q r use→KX z X r→wpAny (model PP w) c.A (evalThenUse (aO fn.g e x) c.env use) Q r z.s
theorem A8(H:rQ w os F fn I)(C:ui w os F fn d)(O:au w os F fn e):xa w os F fn (.comp j I d e):=λc z x k X Q E use o u h K KX=>by
 show wpAny _ _ (evalThenUse (.ListComp _ _ _ _) _ _) _ _ _;rw[arm_evalThenUse_ListComp];dsimp only;refine wpAny_bind (wpAny_mono ?_ (λ_ _=>wpAny_pure) λ_ _ h=>h);exact u5 H C O o u h (λA=>K (.U A)) KX
theorem K3(h:p.1<tt)(H:u<tt):(lb a u p).1<tt:=by
 by_cases q:p.1=a
 ·rw[A5 q];exact H
 ·rw[o8 q];exact h
theorem Fe(H:xa w os F fn e):xa w os F fn (.Y e):=λc z x k X Q E use o u h K KX=>
 H c z x (λr=>k (.j r.v)) X Q E use o u h (λr Z D C tt t f d Y O L5 W P=>K (.j r.v) Z.Y D C tt t f d (Y.trans KE.br) (a6.cC KE.br.kp Fz.wX O) L5
  (by show tt≤(lb 2 0 (Z.W C)).1;rw[o8 (λq=>by rw[q]at W;exact absurd (Nat.le_trans t W) (by decide))];exact W) λi I=>K3 (P i I) (Nat.lt_of_lt_of_le (by decide) t)) KX
noncomputable def O5:E→Option E
|.jU a=>some a
|.D a=>some a
|.cZ _ _ a=>some a
|_=>none
structure jm(w:World)(os:OsState)(F:Nat→Spec)(fn:hW)(e:E):Prop where
 ee:au w os F fn e
 s:pR w os F fn e
 a:zH w os F fn e
 an:jS w os F fn e
 or:oY w os F fn e
 t:gG w os F fn e
 ta:oO w os F fn e
 to:pV w os F fn e
 i:rQ w os F fn e
 c:ui w os F fn e
 b:tK e=true→rH w os F fn e
 u:Ao e=true→xa w os F fn e
 sb:∀a,O5 e=some a→au w os F fn a
theorem jm.m(h:jm w os F fn e):∀e',e=.jU e'→au w os F fn e':=λa q=>h.sb a (q▸rfl)
theorem jm.v(h:jm w os F fn e):∀e',e=.D e'→au w os F fn e':=λa q=>h.sb a (q▸rfl)
theorem jm.kp(h:jm w os F fn e):∀f vs b,e=.cZ f vs b→au w os F fn b:=λ_ _ b q=>h.sb b (q▸rfl)
theorem xo{C:Prop}(e:a=false)(h:a=true):C:=ff (e.symm.trans h)
theorem vS(h:∀g C x,qo g e C x=false):pR w os F fn e:=λ_ _ _ _ _ _ _ _ o=>xo (h ..) o
theorem vA(h:∀g C x,qo g e C x=false):zH w os F fn e:=λ_ _ _ _ _ _ _ _ o=>xo (h ..) o
theorem vN(h:∀g C x,Ey g e C x=false):jS w os F fn e:=λ_ _ _ _ _ _ _ _ o=>xo (h ..) o
theorem vO(h:∀g C x,Ey g e C x=false):oY w os F fn e:=λ_ _ _ _ _ _ _ _ o=>xo (h ..) o
theorem vT(h:∀g C x,Ap g e C x=false):gG w os F fn e:=λ_ _ _ _ _ _ _ o=>xo (h ..) o
theorem Ry(h:∀g C x,sH g e C x=false):oO w os F fn e:=λ_ _ _ _ _ _ _ _ _ o=>xo (h ..) o
theorem Rp(h:∀g C x,sH g e C x=false):pV w os F fn e:=λ_ _ _ _ _ _ _ _ _ o=>xo (h ..) o
theorem vI(h:∀F ρ k X,qS F e ρ k X=False):rQ w os F fn e:=λ_ _ _ _ _ _ _ _ _ _ q=>((h ..).mp q).elim
theorem vC(h:∀g C x,MT g e C x=false):ui w os F fn e:=λ_ _ _ _ _ _ _ o=>xo (h ..) o
theorem vE(h:∀g C x,bT g e C x=false):au w os F fn e:=λ_ _ _ _ _ _ _ o=>xo (h ..) o
abbrev MX:(Nat→Fn)→Cf→Expr→Bool:=λ_ _ _=>false
abbrev L5:(Nat→Fn)→Cf→List Expr→Bool:=λ_ _ _=>false
noncomputable def nL(e:E):=(λg=>qo g e,λg=>Ey g e,λg=>sH g e)
noncomputable def nI(e:E):=(λg=>qS g e,λg=>MT g e,O5 e)
noncomputable def nT(e:E):=(λg=>Ap g e,Ao e)
noncomputable def nM:=(L5,L5,L5)
noncomputable def nJ:((Nat→Spec)→R→(List V→R→Prop)→(Str→Prop)→Prop)×((Nat→Fn)→Cf→Expr→Bool)×Option E:=(λ_ _ _ _=>False,MX,none)
theorem MR{C:Prop}{a:Y}(h:i=none)(q:i=some a):C:=by rw[h]at q;cases q
theorem jm.sp(ee:au w os F fn e)(t:gG w os F fn e)(b:tK e=true→rH w os F fn e)(u:Ao e=true→xa w os F fn e)(i:rQ w os F fn e)(c:ui w os F fn e)(sb:∀a,O5 e=some a→au w os F fn a)(h:nL e=nM):jm w os F fn e:=
 have p (g) (C) (x):qo g e C x=false:=congrFun (congrFun (congrFun (congrArg (·.1) h) g) C) x;have q (g) (C) (x):Ey g e C x=false:=congrFun (congrFun (congrFun (congrArg (·.2.1) h) g) C) x;have r (g) (C) (x):sH g e C x=false:=congrFun (congrFun (congrFun (congrArg (·.2.2) h) g) C) x
 ⟨ee,vS p,vA p,vN q,vO q,t,Ry r,Rp r,i,c,b,u,sb⟩
theorem jm.te(ee:au w os F fn e)(t:gG w os F fn e)(b:tK e=true→rH w os F fn e)(u:Ao e=true→xa w os F fn e)(h:(nL e,nI e)=(nM,nJ)):jm w os F fn e:=
 have k:=congrArg (·.2) h
 .sp ee t b u (vI λF ρ k' X=>congrFun (congrFun (congrFun (congrFun (congrArg (·.1) k) F) ρ) k') X) (vC λg C x=>congrFun (congrFun (congrFun (congrArg (·.2.1) k) g) C) x) (λ_=>MR (congrArg (·.2.2) k)) (congrArg (·.1) h)
theorem jm.ex(ee:au w os F fn e)(b:tK e=true→rH w os F fn e)(h:((nL e,nI e),nT e)=((nM,nJ),MX,false)):jm w os F fn e:=
 .te ee (vT λg C x=>congrFun (congrFun (congrFun (congrArg (·.2.1) h) g) C) x) b (xo (congrArg (·.2.2) h)) (congrArg (·.1) h)
theorem jm.li(s:pR w os F fn e)(a:zH w os F fn e)(an:jS w os F fn e)(or:oY w os F fn e)(ta:oO w os F fn e)(to:pV w os F fn e)(h:((λg=>bT g e,nI e),nT e,tK e)=((MX,nJ),(MX,false),false)):jm w os F fn e:=
 have k:=congrArg (·.1.2) h
 ⟨vE λg C x=>congrFun (congrFun (congrFun (congrArg (·.1.1) h) g) C) x,s,a,an,or,vT λg C x=>congrFun (congrFun (congrFun (congrArg (·.2.1.1) h) g) C) x,ta,to,vI λF ρ k' X=>congrFun (congrFun (congrFun (congrFun (congrArg (·.1) k) F) ρ) k') X,
  vC λg C x=>congrFun (congrFun (congrFun (congrArg (·.2.1) k) g) C) x,xo (congrArg (·.2.2) h),xo (congrArg (·.2.1.2) h),λ_=>MR (congrArg (·.2.2) k)⟩
theorem Px:au w os F fn .dN:=λ_ _ _ _ _ _ _ o=>ff o
theorem EF:au w os F fn .K:=λ_ _ _ _ _ _ _ _ _ h=>h.elim
theorem zh:rH w os F fn .K:=λ_ _ _ _ _ _ _ _ _ h=>h.elim
theorem Ha(H:au w os F fn a):au w os F fn (.jU a):=λ_ _ _ _ _ _ _ _ _ h=>h.elim
theorem LH:au w os F fn (.D a):=λ_ _ _ _ _ _ _ _ _ h=>h.elim
theorem I1:au w os F fn (.eX a):=λ_ _ _ _ _ _ _ _ _ h=>h.elim
theorem MH(G:fA w os F fn)(e):jm w os F fn e:=by
 induction e with
 |X=>exact .ex NH ff rfl
 |cB b=>exact .ex N5 ff rfl
 |p i=>exact .ex N4 ff rfl
 |M s=>exact .ex Nw ff rfl
 |tC i=>exact .ex Ib ff rfl
 |d i=>exact .ex Gd (λ_=>yz Gd λ_ _ _=>rfl) rfl
 |JC i=>exact .ex KZ ff rfl
 |qv i n=>exact .ex Ia ff rfl
 |w o a b I B=>exact .ex (Lz I.ee B.ee) ff rfl
 |neg a I=>exact .ex (Kn I.ee) ff rfl
 |fL a I=>exact .te (Ht I.ee) (Fc I.t) ff ff rfl
 |Q a I=>exact .te (H5 I.an) (Fd I.ta) ff ff rfl
 |cD a I=>exact .te (Kg I.or) (I0 I.to) ff ff rfl
 |ite t a b T I B=>exact .te (Li T.t I.ee B.ee) (EJ T.t I.t B.t) ff ff rfl
 |ag o a b I B=>exact .ex (GB I.ee B.ee) (λ_=>Bg (GB I.ee B.ee) λ_=>⟨_,_,_,_,rfl⟩) rfl
 |ny o p a b c I B ic=>exact .ex (IY I.ee B.ee ic.ee) (λ_=>Ay I.ee B.ee ic.ee) rfl
 |Dy g x p u=>exact .ex (GW u.ee) (λ_=>Bg (GW u.ee) λ_=>⟨_,_,_,_,rfl⟩) rfl
 |Hp p=>exact .ex F1 (λ_=>Bg F1 λ_=>⟨_,_,_,_,rfl⟩) rfl
 |L a I=>exact .ex (J8 I.s) ff rfl
 |Z a I=>exact .ex (KA I.s) ff rfl
 |nil=>exact .li Ef Eu zX A1 Di Bc rfl
 |cons a b I B=>exact .li (B6 I.ee B.s) (By (λ_=>I.ee) I.m B.s) (vV I.ee B.an) (zF I.ee B.or) (y7 I.t B.ta) (zT I.t B.to) rfl
 |jU a I=>exact .sp (Ha I.ee) (vT λ_ _ _=>rfl) ff ff (vI λ_ _ _ _=>rfl) (vC λ_ _ _=>rfl) (λ_ q=>Option.some.inj q▸I.ee) rfl
 |sub a b I B=>exact .ex (MI I.ee B.ee) ff rfl
 |dZ p b B=>exact .ex Ik ff rfl
 |sl a b c I B ic=>exact .ex (O3 I.ee B.v ic.v) ff rfl
 |no=>exact .sp (vE λ_ _ _=>rfl) (vT λ_ _ _=>rfl) ff ff (vI λ_ _ _ _=>rfl) Jn (λ_=>MR rfl) rfl
 |J a n I=>exact .ex (H8 I.ee) ff rfl
 |j5 p=>exact .ex Hs ff rfl
 |call f a I=>exact .ex (Ci G I.a) (λ_=>yz (Ci G I.a) λ_ _ _=>rfl) rfl
 |P f i a I=>exact .ex (FI G) ff rfl
 |gi f i a I=>exact .ex (xW G) (λ_=>yz (xW G) λ_ _ _=>rfl) rfl
 |new c f a I=>exact .ex (Kr G I.s) ff rfl
 |b1 g a I=>exact .ex (OJ I.ee) ff rfl
 |b2 g a b I B=>exact .ex (Ov I.ee B.ee) ff rfl
 |tT a c I=>exact .ex (Gm I.ee) (λ_=>yz (Gm I.ee) λ_ _ _=>rfl) rfl
 |JB i=>exact .ex L8 ff rfl
 |join a b I B=>exact .ex (Iq I.ee B.ee) ff rfl
 |jD a b c I B ic=>exact .ex (Fo I.ee B.ee ic.ee) ff rfl
 |wJ a b I B=>exact .ex (IK I.ee B.ee) ff rfl
 |comp j T c e S ic E=>exact .te (Ji S.i ic.c E.ee) (vT λ_ _ _=>rfl) ff (λ_=>A8 S.i ic.c E.ee) rfl
 |eX a I=>exact .sp I1 (vT λ_ _ _=>rfl) ff ff (DX I.s) (vC λ_ _ _=>rfl) (λ_=>MR rfl) rfl
 |cZ f V b B=>exact .sp (vE λ_ _ _=>rfl) (vT λ_ _ _=>rfl) ff ff (vI λ_ _ _ _=>rfl) (vC λ_ _ _=>rfl) (λ_ q=>Option.some.inj q▸B.ee) rfl
 |D a I=>exact .sp LH (H9 I.b) ff ff (G6 I.ee) (Iv I.t) (λ_ q=>Option.some.inj q▸I.ee) rfl
 |Y a I=>exact .te (K7 I.ee) (vT λ_ _ _=>rfl) ff (λq=>Fe (I.u q)) rfl
 |dN=>exact .ex Px ff rfl
 |K=>exact .ex EF (λ_=>zh) rfl
end
noncomputable def PM:List ExceptHandler→Expr×Pos×List Stmt
|.ExceptHandler (some x) _ b p::_=>(x,p,b)
|_=>(default,⟨0,0,0,0⟩,[])
set_option backward.match.sparseCases false in
noncomputable def sA:Stmt→List Expr×List Stmt×List Stmt×Bool
|.Expr y _=>([y],[],[],false)
|.Assign ts v _=>(v::ts,[],[],false)
|.AugAssign t _ v _=>([v,t],[],[],false)
|.If y a b _=>([y],a,b,false)
|.While y a _ _=>([y],a,[],false)
|.For t y a _ _=>([y,t],a,[],false)
|.Return (some y) _=>([y],[],[],false)
|.Return none _=>([],[],[],true)
|.Raise (some y) _ _=>([y],[],[],false)
|.Try b h _ _ _=>([(PM h).1,.Name default (PM h).2.1],b,(PM h).2.2,false)
|_=>([],[],[],false)
noncomputable def sx(x:Stmt):=(sA x).1
noncomputable def sv(x:Stmt):Expr:=hd (sx x)
noncomputable def st(x:Stmt):Expr:=hd (sx x).tail
noncomputable def HN(x:Stmt):=(sA x).2.1
noncomputable def P4(x:Stmt):=(sA x).2.2.1
noncomputable def AL(x:Stmt):=(sA x).2.2.2
noncomputable def DZ:List Stmt→Stmt
|[]=>.Continue ⟨0,0,0,0⟩
|x::_=>x
section
variable(g:Nat→Fn)
set_option backward.match.sparseCases false in
noncomputable def JP:E→Expr→Expr
|.cZ _ _ b,v=>.Call (nX (ofString "_law_kept") (kd v 0)) [.Lambda ⟨[],[],none,[],[],none,[]⟩ (aO g b (kd (kd v 1) 0)) (qx (kd v 1)) (kd v 1).pos] [] v.pos
|e,v=>aO g e v
set_option backward.match.sparseCases false in
noncomputable def vh:List Nat→List Expr→List Expr
|[],_=>[]
|_::is,xs=>vX (hd xs)::vh is xs.tail
noncomputable def OA(n:String)(as:List Expr)(x:Stmt):Stmt:=.Expr (.Call (.Attribute (vX (kd (kd (sv x) 0) 0)) (ofString n) (kd (sv x) 0).pos) as [] (sv x).pos) x.pos
set_option backward.match.sparseCases false in
mutual
noncomputable def Qf:T→Stmt→Stmt
|.ex e,x=>.Expr (aO g e (sv x)) x.pos
|.C _ e,x=>.Assign [vX (st x)] (JP g e (sv x)) x.pos
|.jn is e,x=>.Assign [.Tuple (vh is (bR (st x))) (Gv (st x)) (st x).pos] (aO g e (sv x)) x.pos
|.GO _ _ a b,x=>.Assign [.Tuple [vX (kd (st x) 0),vX (kd (st x) 1)] (Gv (st x)) (st x).pos] (.Tuple [aO g a (kd (sv x) 0),aO g b (kd (sv x) 1)] (Gv (sv x)) (sv x).pos) x.pos
|.vH _ o e,x=>.AugAssign (vX (st x)) (xQ o) (aO g e (sv x)) x.pos
|.dB t I e,x=>.Assign [.Subscript (Cc t (kd (st x) 0)) (aO g I (kd (st x) 1)) (st x).pos] (aO g e (sv x)) x.pos
|.kz _ n e,x=>.Assign [.Attribute (vX (kd (st x) 0)) (an n) (st x).pos] (aO g e (sv x)) x.pos
|.wU _ n,x=>.Assign [.Attribute (vX (kd (st x) 0)) (an n) (st x).pos] (.Dict [] [] (sv x).pos) x.pos
|.lZ _ e,x=>OA "append" [aO g e (kd (sv x) 1)] x
|.ins _ a b,x=>OA "insert" [aO g a (kd (sv x) 1),aO g b (kd (sv x) 2)] x
|.HQ _,x=>OA "reverse" [] x
|.iff c a b,x=>.If (aO g c (sv x)) (uE a (HN x)) (uE b (P4 x)) x.pos
|.tU c b,x=>.While (aO g c (sv x)) (uE b (HN x)) [] x.pos
|.bU _ i b,x=>.For (vX (st x)) (aO g i (sv x)) (uE b (HN x)) [] x.pos
|.ret e,x=>.Return (match AL x with|true=>none|false=>some (aO g e (sv x))) x.pos
|.fR e,x=>.Raise (some (.Call (nX (Str.ofString "Refusal") (kd (sv x) 0)) [aO g e (kd (sv x) 1)] [] (sv x).pos)) none x.pos
|.cont,x=>.Continue x.pos
|_,x=>x
noncomputable def uE:T→List Stmt→List Stmt
|.nil,_=>[]
|.cons s r,xs=>Qf s (DZ xs)::uE r xs.tail
|_,xs=>xs
end
noncomputable def AB(C:Cf)(i:Nat)(x:Expr):Bool:=qp (fi x) C.nm i&& !(C.Gu&&beq i 0)
noncomputable def Ip(C:Cf):List Nat→List Expr→Bool
|[],_=>true
|i::is,xs=>AB C i (hd xs)&&Ip C is xs.tail
noncomputable def L4(cl:List Str)(x:Str×NameKind):Bool:= !kB .cell x.2&&(!kB .local x.2&&((!kB .free x.2||(bP x.1 cl&&ze x.1))&&(!kB .globalImplicit x.2|| !ax x.1 FH)))
noncomputable def NC(C:Cf)(v:List Nat)(l:List (Str×NameKind)):Bool:=
 (iA C.nm 0 l).all (λx=>bP x.1 C.cl&&fQ x.2 v)&&v.all λi=>C.cl.any λn=>qp n C.nm i
noncomputable def KG(C:Cf)(v:List Nat)(sc:Scope):Bool:=rZ sc&&(!sc.isCoroutine&&(!sc.isGenerator&&(rk (sc.names.map (·.1))&&(sc.names.all (L4 C.cl)&&NC C v sc.names))))
noncomputable def Av(C:Cf)(sc:Scope):Cf:=⟨iA C.nm 0 sc.names,t7 sc.names,[],C.lv-1,false,false⟩
noncomputable def MN:E→Cf→Expr→Bool
|.cZ _ Q b,C,v=>bP (ofString "_law_kept") C.gs&&(KG C Q (qx (kd v 1))&&(blt 0 C.lv&&(C.lm&&bT g b (Av C (qx (kd v 1))) (kd (kd v 1) 0))))
|e,C,v=>(d5 (aO g e v)||Ao e)&&bT g e C v
noncomputable def Qr(H t:Expr)(y z:Expr):Bool:=(t.pos.line==H.pos.line)&&(!ax (fi H) (fi t)&&(!([y,z].all (foldedForSure 8))&& !([y,z].all (constantsAlone 8))))
noncomputable def ND(C:Cf)(i:Nat)(x:Stmt):Bool:=Jw (kd (sv x) 0) (sv x)&&qp (fi (kd (kd (sv x) 0) 0)) C.nm i
set_option backward.match.sparseCases false in
noncomputable def Cd:Expr→Bool
|.Tuple .. =>false
|_=>true
set_option backward.match.sparseCases false in
mutual
noncomputable def NN:T→Cf→Stmt→Bool
|.ex e,C,x=>d5 (aO g e (sv x))&&bT g e C (sv x)
|.C i e,C,x=>AB C i (st x)&&MN g e C (sv x)
|.jn is e,C,x=>Ip C is (bR (st x))&&(d5 (aO g e (sv x))&&(Cd (aO g e (sv x))&&bT g e C (sv x)))
|.GO i j a b,C,x=>(AB C i (kd (st x) 0)&&AB C j (kd (st x) 1))&&((!bP (fi (kd (st x) 0)) C.cl&& !bP (fi (kd (st x) 1)) C.cl)&&(((aB (aO g a (kd (sv x) 0))&&aB (aO g b (kd (sv x) 1)))&&Qr (kd (st x) 0) (kd (st x) 1) (aO g a (kd (sv x) 0)) (aO g b (kd (sv x) 1)))&&(bT g a C (kd (sv x) 0)&&bT g b C (kd (sv x) 1))))
|.vH i _ e,C,x=>AB C i (st x)&&bT g e C (sv x)
|.dB p I e,C,x=>(d5 (aO g e (sv x))&&aB (aO g I (kd (st x) 1)))&&(FP C p (kd (st x) 0)&&(bT g I C (kd (st x) 1)&&bT g e C (sv x)))
|.kz i _ e,C,x=>d5 (aO g e (sv x))&&(qp (fi (kd (st x) 0)) C.nm i&&bT g e C (sv x))
|.wU i _,C,x=>qp (fi (kd (st x) 0)) C.nm i
|.lZ i e,C,x=>ND C i x&&(aB (aO g e (kd (sv x) 1))&&bT g e C (kd (sv x) 1))
|.ins i a b,C,x=>ND C i x&&((aB (aO g a (kd (sv x) 1))&&aB (aO g b (kd (sv x) 2)))&&(bT g a C (kd (sv x) 1)&&bT g b C (kd (sv x) 2)))
|.HQ i,C,x=>ND C i x
|.iff c a b,C,x=>Ap g c C (sv x)&&(Al a C (HN x)&&Al b C (P4 x))
|.tU c b,C,x=>Ap g c C (sv x)&&Al b C (HN x)
|.bU i t b,C,x=>AB C i (st x)&&(aB (aO g t (sv x))&&(bT g t C (sv x)&&Al b C (HN x)))
|.ret e,C,x=>(match AL x with|true=>Ja e|false=>bT g e C (sv x))
|.fR e,C,x=>Ls e&&(bP (Str.ofString "Refusal") C.gs&&bT g e C (kd (sv x) 1))
|.cont,_,_=>true
|.K,_,_=>true
|_,_,_=>false
noncomputable def Al:T→Cf→List Stmt→Bool
|.nil,_,_=>true
|.cons s r,C,xs=>NN s C (DZ xs)&&Al r C xs.tail
|.K,_,_=>true
|_,_,_=>false
end
end
structure uo(fn:hW)extends Fr fn where
 z:Option Value
 bh:List Env
 zz:z=none∨cf.Gu=true
 fr:env.frame=some env.locals
 hd:fs=env::bh
 kd:∀n i,aQ n cf.nm=some i→(env.kindOf n=some .local∧pl i=.ns env.locals n)∨(n∈cf.cl∧env.kindOf n=some .cell∧∃c,env.cells.lookup n=some c∧pl i=.cell c)
 OP:∀i,pl i≠.cell 910→(∃n,pl i=.ns env.locals n)∨∃c,pl i=.cell c
 inj:∀i j,pl i=pl j→pl i≠.cell 910→i=j
 Q6:cf.lm=true→env.code=.ref 912∧env.qual++("<lambda>":Str)=kL
structure dt(w:World)(os:OsState){fn:hW}(c:uo fn)extends Zt w os c.fs c.pl where
 cel:∀i a,i<ρ.length→c.pl i=.cell a→(W a).1=4
 zero:∀v,c.z=some v→0<ρ.length∧(c.pl 0).At s.heap (some v)
 lm:c.env.code=.ref 912→(W 910).1=4
section
variable{w:World}{os:OsState}{fn:hW}{c:uo fn}
noncomputable abbrev qP(z d:dt w os c):Prop:=KT z.s.heap z.W d.s.heap d.W
noncomputable def dt.ke(z:dt w os c)(y)(K:Le z.toZt y):dt w os c where
 toZt:=y
 cel i a H e:=by
  have H:=z.S.H.oX y.S.H▸H;obtain⟨x,A⟩:=z.S.H.cz H;have l:=K.nk (z.S.H.bH i H) A;rw[e]at l;exact(congrArg Prod.fst l).trans (z.cel i a H e)
 zero v e:=(z.zero v e).elim λF a=>⟨z.S.H.oX y.S.H▸F,K.cz (z.S.H.bH 0 F) a⟩
 lm e:=by
  have l:=z.lm e;obtain⟨_,V,e⟩:=z.S.H.b.iZ;exact(congrArg Prod.fst (K.ex 910 _ e (.inr (.inl l))).2).trans l
theorem sC{h:Heap}(x:h.IsCell a v)(y:h.Ns a m):False:=
 x.elim λo q=>y.elim λO Q=>Q.elim λes Q=>Q.elim λE Q=>by
  cases q.1.symm.trans Q.1;cases q.2.symm.trans Q.2.1
end
section
variable{w:World}{os:OsState}{F:Nat→Spec}{fn:hW}
theorem zZ(C:aH w f L ρ h W)(H:i<ρ.length)(e:h.get? 910=some (cK v)):910≠(L i).I:=λq=>(C.cz H).elim λy a=>by
 have N:=(C.a9 i).mp H;generalize L i=p at a q N;cases p with
 |cell c=>exact N (congrArg _ q.symm)
 |ns j n=>
  obtain⟨m,⟨o,es,E,O,hd,_⟩,_⟩:=a;cases(q.symm:j=910);cases e.symm.trans O;cases hd
theorem Qz(l:n=1∨n=4)(k:yQ n∨DY n):False:=by
 unfold yQ DY at k;exact zl 0xf7481f82dfed8e908b67c4fcd3 rfl l k
theorem aH.IW{S:Mine.Internal.S}(C:aH w fs pl ρ h W)(hi:i<ρ.length)(hl:(W (pl i).I).1=1∨(W (pl i).I).1=4)(sb:∀b o,b≠(pl i).I→h.get? b=some o→h'.get? b=some o)
 (RA:(pl i).At h' (some v))(RB:∀j x,j≠i→j<ρ.length→(pl j).At h x→(pl j).At h' x)(ns:∀m,h.Ns (pl i).I m→∃m',h'.Ns (pl i).I m')(r:a6 w h W (10+i) S v):aH w fs pl (ρ.set i S) h' W:=by
 have ne:∀b,(W b).1≠1→(W b).1≠4→b≠(pl i).I:=λb h1 h2 z=>(z▸hl).elim h1 h2;have N:=λL m e=>by
  by_cases q:L=(pl i).I
  ·exact q▸ns m (q▸e)
  ·exact⟨m,cj e λo=>sb L o q⟩
 have K:Kp h W h' W:=λb o e l=>⟨sb b o (ne b (λz=>nomatch l.symm.trans z) λz=>nomatch l.symm.trans z) e,l⟩;have t:∀{j n},10+j=n→¬n<10:=λq=>q▸Nat.not_lt.mpr (le_add_right 10 _);have M:∀j,Mv h W (10+j) h' W (10+j):=λj b o e l=>⟨sb b o (ne b (λz=>t (l.symm.trans z) (by decide)) λz=>t (l.symm.trans z) (by decide)) e,by rw[←l]⟩;refine⟨λb o e n=>have z:=C.base b o e n;⟨sb b o (ne b (λq=>nomatch z.2.symm.trans q) λq=>nomatch z.2.symm.trans q) z.1,z.2⟩,?_,by rw[List.length_set];exact C.len,by rw[List.length_set];exact C.a9,λj T e=> ?_,
  λj H=>C.bH j (length_set▸H),λenv Z=> ?_,?_⟩
 ·refine C.iZ.imp (λl=>⟨l.1,l.2.imp λV e=>sb _ _ (zZ C hi e) e⟩) λl=>⟨l.1,l.2.imp λV e=>⟨sb _ _ (zZ C hi e.1) e.1,e.2.step K⟩⟩
 ·rw[getElem?_set]at e
  by_cases I:i=j
  ·subst I
   rw[if_pos rfl,if_pos hi]at e;cases e;exact⟨some v,RA,.inr ⟨v,rfl,r.dh K (M i)⟩⟩
  ·rw[if_neg I]at e
   obtain⟨x,a,q⟩:=C.slots j T e;exact⟨x,RB j x (Ne.symm I) (List.getElem?_eq_some_iff.mp e).1 a,q.imp id λ⟨v,e,q⟩=>⟨v,e,q.dh K (M j)⟩⟩
 ·obtain⟨k,L,m,f,e,l⟩:=C.frames env Z
  exact⟨k,L,(N L m e).elim λm' E=>⟨m',f,E,l⟩⟩
 ·obtain⟨env,O,L,m,f,q,e,l⟩:=C.head
  exact⟨env,O,L,(N L m e).elim λm' E=>⟨m',f,q,E,l⟩⟩
theorem aH.H0(C:aH w fs pl ρ h W)(hi:i<ρ.length)(hl:(W (pl i).I).1=1∨(W (pl i).I).1=4)(sb:∀b o,b≠(pl i).I→h.get? b=some o→h'.get? b=some o):KT h W h' W:=
 have ne:∀b,yQ (W b).1∨DY (W b).1→b≠(pl i).I:=λb l z=>Qz hl (z▸l)
 ⟨λa o e l=>⟨sb a o (ne a (.inl l)) e,rfl⟩,λa o e l=>⟨λm q=>cj q λo=>sb a o (ne a (.inr l)),rfl⟩,λa o e l=>⟨o,sb a o (ne a (.inr l)) e⟩,λV l e=>⟨rfl,#[],by simpa using sb _ _ (zZ C hi e) e⟩⟩
theorem pK(h:AB C i x=true):aQ (fi x) C.nm=some i∧(C.Gu=true→i≠0):=⟨bL (aL h),λq z=>by
 have h:=nE (aR h);rw[q,z]at h;cases h⟩
variable{c:uo fn}
theorem dt.own(z:dt w os c):(∃m,z.s.heap.Ns c.env.locals m)∧(z.W c.env.locals).1=1:=by
 obtain⟨E,O,L,m,H,r,s,R⟩:=z.S.head;cases c.hd.symm.trans H;cases c.fr.symm.trans r;exact⟨⟨m,s⟩,R⟩
theorem dt.cz(z:dt w os c){i}(hi:i<z.ρ.length):(z.W (c.pl i).I).1=1∨(z.W (c.pl i).I).1=4:=
 (c.OP i ((z.S.H.a9 i).mp hi)).elim (λ⟨n,e⟩=>.inl (e▸z.own.2)) λ⟨a,e⟩=>.inr ((congrArg (λp:fK=>(z.W p.I).1) e).trans (z.cel i a hi e))
theorem dt.Ga(z){S:Mine.Internal.S}(hi:i<z.ρ.length)(h0:c.cf.Gu=true→i≠0)(sb:∀b o,b≠(c.pl i).I→z.s.heap.get? b=some o→h'.get? b=some o)
 (RB:(c.pl i).At h' (some v))(RA:∀j x,j≠i→j<z.ρ.length→(c.pl j).At z.s.heap x→(c.pl j).At h' x)(ns:∀m,z.s.heap.Ns (c.pl i).I m→∃m',h'.Ns (c.pl i).I m')(r:a6 w z.s.heap z.W (10+i) S v){C:Prop}
 (next:∀z':dt w os c,z'.s={z.s with heap:=h',toks:=t}→z'.ρ=z.ρ.set i S→qP z z'→C):C:=
 next ⟨⟨z.ρ.set i S,{z.s with heap:=h',toks:=t},z.W,z.S.gens,z.S.os,z.S.H.IW hi (z.cz hi) sb RB RA ns r⟩,λj a H=>z.cel j a (length_set▸H),
  λv e=>have q:=z.zero v e;⟨(length_set).symm▸q.1,RA 0 _ (λq=>c.zz.elim (λy=>nomatch y.symm.trans e) λy=>h0 y q.symm) q.1 q.2⟩,z.lm⟩ rfl rfl (z.S.H.H0 hi (z.cz hi) sb)
theorem yG(O:jL C env L):interactive env=false:=by
 unfold interactive;rw[O.kind];rfl
theorem vj{S:Mine.Internal.S}(o:AB c.cf i x=true)(h:bG z.ρ i S k)(r:a6 w z.s.heap z.W (10+i) S v)
 (next:∀d:dt w os c,k d.ρ→qP z d→(∃h' t,d.s={z.s with heap:=h',toks:=t})→Q () d.s):wpAny (model PP w) c.A (storeName c.env (fi x) v) Q C z.s:=by
 have I:=(gH h).2;have N:∀h' t,∀d:dt w os c,d.s={z.s with heap:=h',toks:=t}→d.ρ=z.ρ.set i S→qP z d→Q () {z.s with heap:=h',toks:=t}:=λh' t d g f l=>g▸next d (f▸((gH h).1)) l ⟨h',t,g⟩;rcases c.kd _ i (pK o).1 with⟨k1,k2⟩|⟨_,k1,a,k2,k3⟩
 ·obtain⟨⟨m,s⟩,L⟩:=z.own
  have K:(c.pl i).I=c.env.locals:=congrArg fK.I k2;refine wpAny_storeName_local k1 s (λh' E B=>z.Ga I (pK o).2 (λb o ne=>(B.2 b (K▸ne)).trans) (k2▸⟨_,E,if_pos rfl⟩) (λj y ne H a=> ?_) (λm' e=>⟨_,by rw[k2];exact E⟩) r (N h' _)) (by rw[c.O.kind];rfl);rcases c.OP j ((z.S.H.a9 j).mp H)with⟨n,e⟩|⟨b,e⟩
  ·rw[e]at a⊢
   obtain⟨m1,W,Z⟩:=a;exact⟨_,E,(if_neg λq=>ne (c.inj j i ((q▸e).trans k2.symm) ((z.S.H.a9 j).mp H))).trans ((congrFun (s.eq_nsMap.trans W.eq_nsMap.symm) n).trans Z)⟩
  ·rw[e]at a⊢
   exact IsCell.sameBut a B λz=>sC (z▸a) s
 ·obtain⟨X,A⟩:=z.S.H.cz I
  rw[k3]at A;have K:(c.pl i).I=a:=congrArg fK.I k3;refine wpAny_storeName_cell c.O.kind k1 k2 A λh' O B=>z.Ga I (pK o).2 (λb o ne e=>(B.2 b (K▸ne)).trans e) (k3▸O) (λj x ne H M=> ?_) (λm' e=>by rw[k3]at e;exact(sC A e).elim) r (N h' _);rcases c.OP j ((z.S.H.a9 j).mp H)with⟨n,e⟩|⟨b,e⟩
  ·rw[e]at M⊢
   exact M.imp λm1 q=>⟨q.1.sameBut B λz=>sC A (z▸q.1),q.2⟩
  ·rw[e]at M⊢
   exact IsCell.sameBut M B λq=>ne (c.inj j i (e.trans (q▸k3.symm)) ((z.S.H.a9 j).mp H))
end
structure LQ(fs:List Env)(a:Addr)(T:Option Addr)(h h':Heap)(T':Addr):Prop where
 new:T=some T'∨h.get? T'=none
 keep:∀b o,h.get? b=some o→b≠a→T≠some b→b∉fs.filterMap (·.frame)→h'.get? b=some o
 ns:∀b m,h.Ns b m→h'.Ns b m
theorem xK{h:Heap}{j}(f:∀env∈j,env.scope.kind≠.module∧∃L m',env.frame=some L∧h.Ns L m'):h.FunFrames {} j:=by
 induction j with
 |nil=>trivial
 |cons env j I=>
  obtain⟨k,L,m',e,o,es,p,H,hd,_⟩:=f env (.head _);exact⟨k,⟨L,o,e,lS _,H,λV q=>by rw[hd]at q;cases q⟩,I λenv E=>f env (.tail _ E)⟩
theorem Mx{h h':Heap}(k:∀b o,h.get? b=some o→(∀v,o.data≠.fields v)→∃sl,h'.get? b=some {o with slots:=sl})(n:h.Ns b m):h'.Ns b m:=by
 obtain⟨o,es,E,H,hd,r⟩:=n;obtain⟨sl,e⟩:=k b o H λv q=>by rw[hd]at q;cases q
 exact⟨_,es,E,e,hd,r⟩
section
variable{M:Model}{A:Around}{E:Value→Shared→Prop}{s:Shared}
theorem uR{head:Value}(C:A.frames=some (env::O))(J:s.heap.FunFrames {} (env::O))(f:env.frame=some L)
 (H:s.heap.get? e=some g)(hd:g.data=.fields v)(z:1<v.size)
 (h:∀h' t D ts,h'.get? e=some (g.mapFields (·.setIfInBounds 1 (.ref t)))→s.heap.get? t=none→t≠e→h'.get? t=some D→D.data=.fields ts→ts[3]? =some (rawInt L)→
  (∀b o,s.heap.get? b=some o→b≠e→b∉(env::O).filterMap (·.frame)→h'.get? b=some o)→(∀b m,s.heap.Ns b m→h'.Ns b m)→Q () {s with heap:=h'}):
 wpAny M A (do let a←frameOf env;let p←entryPlaceOf L u;let b←EntryCells.newEntry head a .none (rawInt L) .none p;setField (.ref e) 1 b) Q E s:=by
 have R:e∉(env::O).filterMap (·.frame):=λj=>by
  obtain⟨_,o,B,F⟩:=J.mem j;rw[H]at B;injection B with B;subst B;exact F v hd
 refine wpAny_bind (wpAny_frameOf_fun C J f λU X=> ?_);refine wpAny_bind (wpAny_entryPlaceOf λp W=> ?_);unfold EntryCells.newEntry newFields;refine wpAny_bind (wpAny_newObj_type ?_ (W.sizeOk5 ..));have Y:=(X.2.1 e R).trans H;generalize Z:({cls:=.type "traceback",dict:=none,data:=.fields ([head,.ref L,.none,rawInt L,.none]++(if p.isEmpty then replicate 6 Value.none else p)).toArray}:Obj)=ob;have d:ob.data=.fields ([head,.ref L,.none,rawInt L,.none]++(if p.isEmpty then replicate 6 Value.none else p)).toArray:=by rw[←Z]
 have G:=get?_push_of_some ob Y;refine wpAny_setField G hd z ?_;have S:=Nat.ne_of_gt (lt_size Y);have I:=Obj.data_mapFields hd (·.setIfInBounds 1 (Value.ref U.objs.size));have y:=get?_update_self (Obj.mapFields (·.setIfInBounds 1 (Value.ref U.objs.size))) G (Obj.isFreed_of_fields I);have N:=(Heap.get?_update_other (U.push ob) (Obj.mapFields (·.setIfInBounds 1 (Value.ref U.objs.size))) (Ne.symm S)).trans (Heap.get?_push_size U (Obj.isFreed_of_fields d));have P:∀b o,b≠e→U.get? b=some o→((U.push ob).update e (Obj.mapFields (·.setIfInBounds 1 (Value.ref U.objs.size)))).get? b=some o:=λb o K hb=>by
  rw[Heap.get?_update_other _ _ (Ne.symm K)];exact Heap.get?_push_of_some _ hb
 have V:∀b o,s.heap.get? b=some o→(∀v,o.data≠.fields v)→b≠e:=λb o hb F q=>by
  rw[q,H]at hb;injection hb with hb;subst hb;exact F v hd
 refine h _ U.objs.size ob _ y ?_ S N d ?_ (λb o hb K F=>P b o K ((X.2.1 b F).trans hb)) λb m n=>Mx (λb o hb F=> ?_) n
 ·rw[X.1];exact bw _
 ·rcases W with rfl|⟨_,_,_,_,_,_,_,rfl⟩<;>simp
 ·obtain⟨sl,T⟩:=X.2.2 b o hb
  exact⟨sl,P b _ (V b o hb F) T⟩
theorem u3{h h':Heap}{O o:Obj}{hd x:Value}(C:O.cls=.ref 291)(c2:O.dict=some d)(c3:O.data=.fields v)(y:v[1]? =some hd)(D:h.Ns d J)(U:J (Str.ofString "message")=some (.str m t))
 (fr:∀env∈f,env.scope.kind≠.module∧∃L m',env.frame=some L∧h.Ns L m')(Q:h'.get? a=some (O.mapFields (·.setIfInBounds 1 (.ref g))))(j:g≠a)(I:h'.get? g=some o)(u:o.data=.fields ts)(Y:ts[3]? =some x)(n:∀b m,h.Ns b m→h'.Ns b m):DC f h' a (some g) m:=
 .mk Q ((Obj.cls_mapFields ..).trans C) (by obtain⟨c,d,dd,sl⟩:=O;cases dd<;>exact c2) (Obj.data_mapFields c3 _) (by simp[(Array.getElem?_eq_some_iff.mp y).1]) ⟨rfl,j,o,ts,_,I,u,Y⟩ (n _ _ D) U λenv H=>(fr env H).imp id λq=>q.imp λL q=>q.imp λm q=>⟨q.1,n _ _ q.2⟩
theorem Qp{f:List Env}{h h':Heap}(fr:∀env∈f,env.scope.kind≠.module∧∃L m',env.frame=some L∧h.Ns L m')(n:∀b m,h.Ns b m→h'.Ns b m):∀env∈f,env.scope.kind≠.module∧∃L m',env.frame=some L∧h'.Ns L m':=λenv H=>(fr env H).imp id λq=>q.imp λL q=>q.imp λm q=>⟨q.1,n _ _ q.2⟩
theorem Bp{h:Heap}(g:h.get? t=some O)(dT:O.data=.fields ts):∀b m,h.Ns b m→(h.update t f).Ns b m:=λb m n=>cj n λo e=>(get?_update_other _ _ (by
 rintro rfl;obtain⟨C,es,p,H,d,_⟩:=n;cases g.symm.trans H;cases dT.symm.trans d)).trans e
theorem EH{T:Option Addr}(C:A.frames=some (env::O))(H:env.frame=some L)(j:DC (env::O) s.heap a T m)
 (h:∀h' Y,DC (env::O) h' a (some Y) m→LQ (env::O) a T s.heap h' Y→Q () {s with heap:=h'}):wpAny M A (noteFrame (.ref a) env) Q E s:=by
 cases j with
 |mk g u c2 c3 c y N U fr=>
 unfold noteFrame;simp only[H];refine wpAny_bind (wpAny_field g c3 c ?_);cases T with
 |none=>
  cases y;rw[if_neg (by decide)];exact uR C (xK fr) H g c3 (Array.getElem?_eq_some_iff.mp c).1 λh' Y K ts F V J D B R W Z=>h h' Y (u3 u c2 c3 c N U fr F J D B R Z) ⟨.inr V,λb o d S _ P=>W b o d S P,Z⟩
 |some t=>
  obtain⟨rfl,I,K,ts,i,G,dT,h3⟩:=y;rw[if_pos (by simp:(Value.ref t !=Value.none)=true)];refine wpAny_bind (wpAny_field G dT h3 ?_);split
  ·exact wpAny_pure (h s.heap t (.mk g u c2 c3 c ⟨rfl,I,K,ts,_,G,dT,h3⟩ N U fr) ⟨.inl rfl,λ_ _ e _ _ _=>e,λ_ _ n=>n⟩)
  ·refine wpAny_bind (wpAny_setField G dT (Array.getElem?_eq_some_iff.mp h3).1 ?_)
   have r:∀b,b≠t→(s.heap.update t (Obj.mapFields (·.setIfInBounds 3 Value.none))).get? b=s.heap.get? b:=λb hb=>get?_update_other _ _ (Ne.symm hb);have X:=Bp (f:=Obj.mapFields (·.setIfInBounds 3 Value.none)) G dT;have v:=Qp fr X;refine uR C (xK v) H ((r a (Ne.symm I)).trans g) c3 (Array.getElem?_eq_some_iff.mp c).1 λh' Y w l F V J D B R W Z=>h h' Y (u3 u c2 c3 c (X _ _ N) U v F J D B R Z)
    ⟨.inr ?_,λb o d S k P=>W b o ((r b (λz=>k (by rw[z]))).trans d) S P,λb m n=>Z _ _ (X b m n)⟩
   by_cases q:Y=t
   ·subst q
    cases(get?_update_self _ G (Obj.isFreed_of_fields (Obj.data_mapFields dT _))).symm.trans V
   ·exact(r Y q).symm.trans V
theorem ja(H:DC j s.heap a (some t) m)
 (h:∀h',DC j h' a (some t) m→(∀b,b≠t→h'.get? b=s.heap.get? b)→(∀b m,s.heap.Ns b m→h'.Ns b m)→Q () {s with heap:=h'}):wpAny M A (setFlight (.ref a) fr) Q E s:=by
 cases H with
 |mk g c c2 c3 C Z d U F=>
 obtain⟨rfl,n,T,ts,P,G,dT,h3⟩:=Z;have W:=(Array.getElem?_eq_some_iff.mp h3).1;unfold setFlight;refine wpAny_bind (wpAny_field g c3 C ?_);rw[if_pos (by simp:(Value.ref t !=Value.none)=true)];apply wpAny_setField G dT W;generalize X:(fr.elim Value.none λf=>rawInt f)=x;have O:∀b,b≠t→(s.heap.update t (Obj.mapFields (·.setIfInBounds 3 x))).get? b=s.heap.get? b:=λb hb=>get?_update_other _ _ (Ne.symm hb);have N:=Bp (f:=Obj.mapFields (·.setIfInBounds 3 x)) G dT;exact h _ (.mk ((O a (Ne.symm n)).trans g) c c2 c3 C ⟨rfl,n,_,_,x,get?_update_self _ G (Obj.isFreed_of_fields (Obj.data_mapFields dT _)),Obj.data_mapFields dT _,by simp[W]⟩ (N _ _ d) U (Qp F N)) O N
end
inductive XT(os:OsState)(fs:List Env)(h:Heap)(W:cy)(a:Addr)(m:Str)(s':Shared):Prop where
 |mk {T} (gens:s'.gens= #[]) (os:s'.os=os) (keep:KT h W s'.heap W) (fly:DC fs s'.heap a T m)
  (nn:∀b o,h.get? b=some o→(yQ (W b).1∨DY (W b).1)→b≠a∧T≠some b) (tb:(W 910).1=4→∀vs,h.get? 910=some (cK vs)→910≠a∧T≠some 910)
theorem XS.fh{os fs h W a m s'}:XS os fs h W a m s'→XT os fs h W a m s'
|.mk g o e f n tb=>.mk g o e.fh f (λb o eb l=>n b o eb (l.imp (λl=>l.elim .inl λl=>.inr (.inr l)) .inr)) tb
theorem KT.self(k:KT h W h' W'):KT h W h' W:=
 ⟨λa o e l=>⟨(k.ex a o e l).1,rfl⟩,λa o e l=>⟨(k.sl a o e l).1,rfl⟩,k.there,λV l e=>⟨rfl,(k.iZ V l e).2⟩⟩
theorem XT.pre{os fs h W RA RB a m s'}(k:KT h W RA RB):XT os fs RA RB a m s'→XT os fs h W a m s'
|.mk g o e f n tb=>.mk g o (KT.self (k.trans e)) f (λb o e' l=>l.elim (λl=>have z:=k.ex b o e' l;n b o z.1 (.inl (z.2▸l))) λl=>(k.there b o e' l).elim λo' z=>n b o' z (.inr ((k.sl b o e' l).2▸l)))
 λl vs e=>have z:=k.iZ vs l e;z.2.elim λmore e'=>tb (z.1▸l) _ e'
section
variable{w:World}{os:OsState}{fn:hW}{c:uo fn}
noncomputable def An(z:dt w os c)(X:Str→Prop)(E:Value→Shared→Prop):Prop:=∀m a S,X m→XT os c.fs z.s.heap z.W a m S→E (.ref a) S
variable{z z₁:dt w os c}{X:Str→Prop}{E:Value→Shared→Prop}{M:Model}{A:Around}
theorem An.after(K:An z X E)(e:qP z z₁):An z₁ X E:=λm a S h x=>K m a S h (x.pre e)
theorem An.x(K:An z X E):KX z.toZt X E:=λm a S h x=>K m a S h x.fh
theorem QD(C:aH w j L ρ h W)(hb:b∈j.filterMap (·.frame)):(W b).1=1∨(W b).1=3:=
 (mem_filterMap.mp hb).elim λenv q=>by
  obtain⟨_,I,m,f,_,l⟩:=C.frames env q.1;cases f.symm.trans q.2;exact l
theorem PG(l:yQ n)(k:n=1∨n=3):False:=by
 unfold yQ at l;exact zl 0x20b2d9eab85fb5b3d3d17a3 rfl l k
theorem AH(C:aH w j p ρ h W)(H:j=env::O)(U:A.frames=some j)(J:env.frame=some L)(x:XT os j h W a m d)
 (next:∀h' t,DC j h' a (some t) m→(∀h2,DC j h2 a (some t) m→(∀b,b≠t→h2.get? b=h'.get? b)→(∀b m,h'.Ns b m→h2.Ns b m)→XT os j h W a m {d with heap:=h2})→Q () {d with heap:=h'}):wpAny M A (noteFrame (.ref a) env) Q E d:=by
 subst H;cases x with
 |mk g o k f n tb=>
 refine EH U J f λh' t Z N=>next h' t Z λh2 B F G=> ?_;have S:∀b o,h.get? b=some o→(yQ (W b).1∨DY (W b).1)→b≠t:=λb o e l q=>N.new.elim (λy=>(n b o e l).2 (q▸y)) λy=>by
  subst q;rcases l with l|l
  ·cases y.symm.trans (k.ex b o e l).1
  ·exact(k.there b o e l).elim λR u=>nomatch y.symm.trans u
 have T:∀V,(W 910).1=4→h.get? 910=some (cK V)→910≠t:=λV l e q=>N.new.elim (λy=>(tb l V e).2 (q▸y)) λy=>by
  subst q;exact(k.iZ V l e).2.elim λmore u=>nomatch y.symm.trans u
 refine .mk g o ⟨λb o e l=> ?_,λb o e l=>⟨λm q=>G b m (N.ns b m ((k.sl b o e l).1 m q)),rfl⟩,λb o e l=> ?_,λV l e=>⟨rfl,(k.iZ V l e).2.imp λmore u=> ?_⟩⟩ B (λb o e l=>⟨(n b o e l).1,λq=>S b o e l (Option.some.inj q).symm⟩) λl V e=>⟨(tb l V e).1,λq=>T V l e (Option.some.inj q).symm⟩
 ·have z:=n b o e (.inl l)
  exact⟨(F b (S b o e (.inl l))).trans (N.keep b o (k.ex b o e l).1 z.1 z.2 λhb=>PG l (QD C hb)),rfl⟩
 ·obtain⟨R,u⟩:=k.there b o e l
  have z:=n b o e (.inr l);have P:=F b (S b o e (.inr l))
  by_cases q:b∈(env::O).filterMap (·.frame)
  ·obtain⟨env,K,Y⟩:=mem_filterMap.mp q
   cases Z with
   |mk _ _ _ _ _ _ _ _ fr=>
   obtain⟨_,L,m',I,D,es,s,v,_⟩:=fr env K;cases I.symm.trans Y;exact⟨D,P.trans v⟩
  ·exact⟨R,P.trans (N.keep b R u z.1 z.2 q)⟩
 ·have z:=tb l V e
  exact(F 910 (T V l e)).trans (N.keep _ _ u z.1 z.2 λhb=>(QD C hb).elim (λy=>nomatch l.symm.trans y) λy=>nomatch l.symm.trans y)
theorem tX(K:An z X E):An z X (notedBy M c.A c.env λe t=>cameBackBy M c.A c.env E e t):=λm a t H x=>
 AH z.S.H c.hd c.hA.frames c.fr x λh' T F k=>by
  have f:=F;cases F with
  |mk g u c2 c3 C Z d U fr=>
  obtain⟨rfl,_⟩:=Z;refine wpAny_bind (wpAny_field g c3 C ?_);rw[if_neg (by simp)];exact ja f λh2 N O n=>K m a _ H (k h2 N O n)
theorem ur{s:Shared}(C:aH w f p ρ s.heap W)(H:f=env::O)(Q:A.frames=some f)(d:env.frame=some L)(I:X m)(x:XT os f s.heap W a m t)(K:∀m a t,X m→XT os f s.heap W a m t→E (.ref a) t):wpAny M A (leaving env (.ref a)) (λ_ y=>E (.ref a) y) J t:=by
 unfold leaving;exact wpAny_bind (AH C H Q d x λh' T F k=>ja F λh2 N o n=>K m a _ I (k h2 N o n))
end
set_option backward.match.sparseCases false in
noncomputable def j3:T→Nat
|.cons a b=>max (j3 a) (j3 b)|.ex e=>bp e|.C _ e=>bp e|.jn _ e=>bp e|.GO _ _ a b=>max (bp a) (bp b)|.vH _ _ e=>bp e
|.dB _ a b=>max (bp a) (bp b)|.kz _ _ e=>bp e|.lZ _ e=>bp e|.ins _ a b=>max (bp a) (bp b)|.iff c a b=>max (bp c) (max (j3 a) (j3 b))
|.tU c b=>max (bp c) (j3 b)|.bU _ I b=>max (bp I) (j3 b)|.ret e=>bp e|.fR e=>bp e
|_=>0
section
variable{w:World}{os:OsState}{F:Nat→Spec}{fn:hW}{c:uo fn}
structure KF(z:dt w os c)(nx ct:R→Prop)(rt:Rv→R→Prop)(Q:Flow→Shared→Prop):Prop where
 nx:∀z':dt w os c,nx z'.ρ→qP z z'→Q .next z'.s
 ct:∀z':dt w os c,ct z'.ρ→qP z z'→Q .cont z'.s
 rt:∀r(z':dt w os c)v,rt r z'.ρ→qP z z'→a6 w z'.s.heap z'.W 2 r.s v→Q (.ret v) z'.s
theorem KF.after{nx ct rt Q}(K:KF z nx ct rt Q)(e:qP z z₁):KF z₁ nx ct rt Q:=
 ⟨λZ h k=>K.nx Z h (e.trans k),λZ h k=>K.ct Z h (e.trans k),λr Z v h k o=>K.rt r Z v h (e.trans k) o⟩
end
section
variable(w:World)(os:OsState)(F:Nat→Spec)(fn:hW)
noncomputable def bY(b:T):Prop:=∀(c:uo fn)(z:dt w os c)x N C R X Q E,
 NN fn.g b c.cf x=true→j3 b≤c.u→ex F b z.ρ N C R X→KF z N C R Q→An z X E→wpAny (model PP w) c.A (exec (Qf fn.g b x) c.env) Q E z.s
noncomputable def gj(b:T):Prop:=∀(c:uo fn)(z:dt w os c)xs N C R X Q E,
 Al fn.g b c.cf xs=true→j3 b≤c.u→ex F b z.ρ N C R X→KF z N C R Q→An z X E→wpAny (model PP w) c.A (execs (uE fn.g b xs) c.env) Q E z.s
end
section
variable{w:World}{os:OsState}{F:Nat→Spec}{fn:hW}{c:uo fn}{z:dt w os c}{x:Expr}{X:Str→Prop}{R:Value→Shared→Prop}
theorem rY(H:au w os F fn e)(o:bT fn.g e c.cf x=true)(u:bp e≤c.u)(h:ev F e z.ρ k X)(K:An z X R)
 (next:∀r(d:dt w os c)v,k r d.ρ→Le z.toZt d.toZt→VR w d.s.heap d.W r.v v→An d X R→Q v d.s):wpAny (model PP w) c.A (eval (aO fn.g e x) c.env) Q R z.s:=
 gA H o u h K.x λr y v h' E Z=>next r (z.ke y E) v h' E Z (K.after E.fh)
theorem Jg(H:au w os F fn e)(o:bT fn.g e c.cf x=true)(u:bp e≤c.u)(h:ev F e z.ρ k X)(K:An z X R)
 (next:∀r(d:dt w os c)v,k r d.ρ→Le z.toZt d.toZt→a6 w d.s.heap d.W 2 r.s v→Q v d.s):wpAny (model PP w) c.A (eval (aO fn.g e x) c.env) Q R z.s:=
 H c.toFr z.toZt x k X Q R o u h (λr y v h' E=>next r (z.ke y E) v h' E) K.x
theorem BB{r:Rv}(o:AB c.cf i x=true)(h:bG z.ρ i r.s k)(O:a6 w z.s.heap z.W 2 r.s v)
 (next:∀d:dt w os c,k d.ρ→qP z d→(∃h' t,d.s={z.s with heap:=h',toks:=t})→Q () d.s):wpAny (model PP w) c.A (storeName c.env (fi x) v) Q R z.s:=
 have K:=KE.br
 vj (z:=z.ke ⟨z.ρ,z.s,_,z.S.gens,z.S.os,z.S.H.br⟩ K) o h (O.dh K.kp Mv.to) λd H l=>next d H (K.fh.trans l)
theorem Kj:gj w os F fn .nil:=λc z xs N C t X Q R o H h K KX=>wpAny_execs_nil (K.nx z h .refl)
theorem HZ(H:bY w os F fn a)(hb:gj w os F fn b):gj w os F fn (.cons a b):=λc z xs N C t X Q R o u h K KX=>
 wpAny_execs_cons (H c z _ _ C t X _ R (aL o) (mL u) h ⟨λZ h' k=>hb c Z _ N C t X Q R (aR o) (mR u) h' (K.after k) (KX.after k),K.ct,K.rt⟩ KX)
theorem E6:gj w os F fn .K:=λc z xs N C t X Q R o H h=>h.elim
theorem Cw:bY w os F fn .K:=λc z xs N C t X Q R o H h=>h.elim
theorem bZ(h:d5 v=true):swapsWith v t l env=pure false:=by
 cases v<;>first|rfl|cases h
theorem J1(H:au w os F fn e):bY w os F fn (.ex e):=λc z x N C t X Q R o u h K KX=>
 wpAny_Expr_any (rY H (aR o) u h KX λr Z v h' E _ _=>K.nx Z h' E.fh) (yG c.O) (bZ (aL o))
theorem EI:bY w os F fn .cont:=λc z x N C t X Q R o H h K KX=>wpAny_Continue (K.ct z h .refl)
theorem MA{e:E}(h:Ja e=true):e=.X:=yq h
theorem IC(H:au w os F fn e):bY w os F fn (.ret e):=λc z x N C t X Q R o u h K KX=>by
 have o:(match AL x with|true=>Ja e|false=>bT fn.g e c.cf (sv x))=true:=o;show wpAny _ _ (exec (.Return (match AL x with|true=>none|false=>some (aO fn.g e (sv x))) x.pos) _) _ _ _;generalize AL x=b at o;cases b with
 |true=>
  cases MA o;exact wpAny_Return_none (K.rt _ z .none h .refl .none)
 |false=>exact wpAny_Return_some (Jg H o u h KX λr Z v h' E O=>K.rt r Z v h' E.fh O)
theorem HU{c a b}(H:gG w os F fn c)(j:gj w os F fn a)(hb:gj w os F fn b):bY w os F fn (.iff c a b):=λc z x N C T X Q R o u h K KX=>
 wpAny_If (H c.toFr z.toZt _ _ X _ R (aL o) (mL u) h (λt y h' E=>by
  have k:=KX.after (z₁:=z.ke y E) E.fh;have Y:=K.after (z₁:=z.ke y E) E.fh;cases t with
  |true=>exact j c (z.ke y E) _ N C T X Q R (aL (aR o)) (mL (mR u)) h' Y k
  |false=>exact hb c (z.ke y E) _ N C T X Q R (aR (aR o)) (mR (mR u)) h' Y k) KX.x)
theorem LG:∀{x},Ao e=true→∃t g sc p,aO fn.g e x=.ListComp t g sc p:=by
 induction e with
 |Y e I=>exactλh=>I h
 |comp j T c e _ _ _=>exactλ_=>⟨_,_,_,_,rfl⟩
 |_=>exact ff
theorem dt.drop(z:dt w os c){C:Prop}(sb:Heap.SameBut RA z.s.heap h')(ht:900≤t)(wD:t≤(z.W RA).1)(next:∀z':dt w os c,z'.s={z.s with heap:=h'}→z'.ρ=z.ρ→KS t z.s.heap z.W z'.s.heap z'.W→C):C:=
 have K:KS t z.s.heap z.W h' z.W:=λb o l e=>⟨(sb.2 b (λq=>absurd l (Nat.not_lt.mpr (q▸wD)))).trans e,rfl⟩;have P:∀i,i<z.ρ.length→(z.W (c.pl i).I).1<t:=λi H=>(z.cz H).elim (λe=>xZ e (by decide) ht) λe=>xZ e (by decide) ht
 next ⟨⟨z.ρ,{z.s with heap:=h'},z.W,z.S.gens,z.S.os,z.S.H.rB ht (λi H o e=>K _ o (P i H) e) K⟩,z.cel,λv e=>have q:=z.zero v e;⟨q.1,eH q.2 λo E=>(K _ o (P 0 q.1) E).1⟩,z.lm⟩ rfl rfl K
theorem II(H:∀f v,MN fn.g e f v=((d5 (aO fn.g e v)||Ao e)&&bT fn.g e f v))(D:∀v,JP fn.g e v=aO fn.g e v)(O:au w os F fn e)(U:Ao e=true→xa w os F fn e):bY w os F fn (.C i e):=λc z x n a rt X Q R o u h K KX=>by
 have W:=aR o;rw[H]at W;show wpAny _ _ (exec (.Assign [.Name (fi (st x)) (st x).pos] (JP fn.g e (sv x)) x.pos) _) _ _ _;rw[D];have plain:wpAny (model PP w) c.A (eval (aO fn.g e (sv x)) c.env) (λv S=>wpAny (model PP w) c.A (storeName c.env (fi (st x)) v) (λ_=>Q .next) R S) R z.s:=
  Jg O (aR W) u h KX λr z' v h' E g=>BB (aL o) h' g λZ d Y _=>K.nx Z d (E.fh.trans Y)
 cases P:d5 (aO fn.g e (sv x))with
 |true=>exact wpAny_Assign_Name plain (bZ P)
 |false=>
  have ic:Ao e=true:=by rw[P]at W;exact aL W
  obtain⟨RA,RB,sc,V,ex⟩:=LG ic;have hb:swapsWith (aO fn.g e (sv x)) (some (.Name (fi (st x)) (st x).pos)) x.pos.line c.env=pure (c.env.blockKind==.function&&c.env.kindOf (fi (st x))==some .local&&(st x).pos.line==V.line&& !(sc.names.any λ(m,k)=>m==fi (st x)&&(k==.local||k==.cell))):=by rw[ex];rfl
  generalize(c.env.blockKind==.function&&c.env.kindOf (fi (st x))==some .local&&(st x).pos.line==V.line&& !(sc.names.any λ(m,k)=>m==fi (st x)&&(k==.local||k==.cell)))=b at hb;cases b with
  |false=>exact wpAny_Assign_Name plain hb
  |true=>
   rw[exec_Assign_Name_used _ _ _ _ hb];refine wpAny_bind (wpAny_standAt (wpAny_bind ?_));refine U ic c.toFr z.toZt _ _ X _ R _ (aR W) u h (λr y A C tt t j d E g N L pL=> ?_) KX.x;refine wpAny_assign_Name (BB (z:=z.ke y E) (aL o) d g λZ G Y es=> ?_);refine N.elim λm q=>q.elim λB q=>q.elim λes q=>q.elim λp q=> ?_;have J:=Y.ex C B q.1 (.inr (.inr (Nat.le_trans (by decide) (Nat.le_trans t L))));exact⟨m,⟨B,es,p,J.1,q.2⟩,λh' s=>wpAny_pure (Z.drop s (Nat.le_trans (by decide) t) (J.2.symm▸L) λT M I l=>M▸K.nx T (I.symm▸G) ((E.fh.trans Y).gV j l))⟩
end
section
variable{w:World}{os:OsState}{F:Nat→Spec}{fn:hW}{c:uo fn}{z:dt w os c}
theorem dt.Mz(z:dt w os c)(t){C:Prop}(k:∀b o,z.s.heap.get? b=some o→h'.get? b=some o)(next:∀z':dt w os c,z'.s={z.s with heap:=h',toks:=t}→z'.ρ=z.ρ→Le z.toZt z'.toZt→C):C:=
 have g:Gr c.env.locals z.s.heap h':=.fU k;have K:=g.ke z.own.2 λ_ _ _=>rfl
 next (z.ke ⟨z.ρ,{z.s with heap:=h',toks:=t},z.W,g.st z.own.2 (λ_ _ _=>rfl) z.S⟩ K) rfl rfl K
theorem ya(h:d5 v=true):swapsWithSole [t] v l env=pure false:=bZ h
theorem lP(o:AB c.cf i x=true)(h:bG z.ρ i (.j v) k)(r:VR w z.s.heap z.W v y)
 (next:∀d:dt w os c,k d.ρ→qP z d→Q () d.s):wpAny (model PP w) c.A (storeName c.env (fi x) y) Q C z.s:=vj o h r λd H l _=>next d H l
theorem gL:∀{xs},(assignEach (vh is xs) env).findIdx? (·.1)=none∧(assignEach (vh is xs) env).length=is.length:=by
 induction is with
 |nil=>exact⟨rfl,rfl⟩
 |cons i is I=>
  intro xs;show((false,assign (vX (hd xs)) env)::assignEach (vh is xs.tail) env).findIdx? (·.1)=none∧(_::assignEach (vh is xs.tail) env).length=_;rw[findIdx?_cons,I.1,length_cons,I.2];exact⟨rfl,rfl⟩
theorem qQ{C:Prop}(h:j8 (i::is) l ρ k)(f:∀v l',l=v::l'→bG ρ i (.j v) (λρ=>j8 is l' ρ k)→C):C:=by
 cases l with
 |nil=>exact h.elim
 |cons v l'=>exact f v l' rfl h
theorem Bi:∀{l}{ρ}{k},j8 is l ρ k→is.length=l.length:=by
 induction is with
 |nil=>
  intro l ρ k h;cases l with
  |nil=>rfl
  |cons v l'=>exact h.elim
 |cons i is I=>exactλh=>qQ h λv l' e h'=>e▸congrArg (·+1) (I (gH h').1)
theorem rL:∀{xs}{l}{items}{z}{k}{Q},
 Ip c.cf is xs=true→j8 is l z.ρ k→cW w z.s.heap z.W l items→(∀d:dt w os c,k d.ρ→qP z d→Q () d.s)→wpAny (model PP w) c.A (assignInOrder ((assignEach (vh is xs) c.env).map (·.2)) items) Q C z.s:=by
 induction is with
 |nil=>
  intro xs l items z k Q o h r next;cases l with
  |nil=>cases r;exact wpAny_pure (next z h .refl)
  |cons v l'=>exact h.elim
 |cons i is I=>
  intro xs l items z k Q o h r next;refine qQ h λv l' e h'=> ?_;subst e;cases r with
  |cons r R=>
  exact wpAny_bind (wpAny_holding (wpAny_assign_Name (lP (aL o) h' r λd H k'=>I (aR o) H (R.step k'.kp) λZ W K=>next Z W (k'.trans K))))
theorem za(H:t≠I)(n):∀i s Q,s.heap.IsListIter I t i→s.heap.IsList t items→i+n≤items.size→
 (∀h',h'.IsListIter I t (i+n)→SameBut I s.heap h'→Q ((items.toList.drop i).take n) {s with heap:=h'})→wpAny (model PP w) A (draw (.ref I) n) Q C s:=by
 induction n with
 |zero=>exactλi s Q T _ _ E=>wpAny_pure (take_zero▸E s.heap T (SameBut.refl ..))
 |succ n S=>
  intro i s Q T D g E;have R:=Nat.lt_of_lt_of_le (Nat.lt_add_of_pos_right (succ_pos n)) g;refine wpAny_bind (wpAny_pyNext_list_item T D (Array.getElem?_eq_getElem R) λY U u=> ?_);refine wpAny_bind (wpAny_holding (S (i+1) _ _ U (D.extBut u.extBut H) (Nat.add_right_comm i n 1▸g) λW N f=>wpAny_pure ?_));have:=E W ((Nat.add_right_comm i n 1).symm▸N) (u.trans f);rw[drop_eq_getElem_cons R,take_succ_cons]at this;exact this
theorem sk(Y:A.handled=none)(H:s.heap.IsList t items)
 (f:(assignEach O env).length=items.size)(g:(assignEach O env).findIdx? (·.1)=none)
 (h:∀h',Heap.ExtBut s.heap.objs.size s.heap h'→wpAny (model PP w) A (assignInOrder ((assignEach O env).map (·.2)) items.toList) Q C {s with heap:=h'}):
 wpAny (model PP w) A (assign (.Tuple O x p) env (.ref t)) Q C s:=by
 have T:=H.elim λo q=>lD q.1;rw[arm_assign_Tuple];refine wpAny_bind (wpAny_standAt ?_);delta unpack;rw[f,g];refine wpAny_bind (wpAny_holding (wpAny_bind (wpAny_bind (wpAny_specialOf H.typeIs F.slot_list_iter.lookup (wpAny_pure ?_)))));rw[if_neg (by simp)];refine wpAny_bind (wpAny_holding (wpAny_pyIter_list H (wpAny_bind (wpAny_holding (za T items.size 0 _ _ ⟨_,get?_push_size _ rfl,rfl,rfl⟩ (H.push _) (Nat.le_of_eq (Nat.zero_add _)) λU R u=> ?_)))));rw[drop_zero,take_of_length_le (Nat.le_refl items.size),if_neg (by simp)];refine wpAny_bind (wpAny_holding (wpAny_pyNext_list_end Y R ((H.push _).extBut u.extBut T) (by simp) λW B=> ?_));exact wpAny_pure (h W λb o hb e=>B b o hb (u.extBut b o hb (get?_push_of_some _ e)))
theorem BS(h:Cd v=true):swappedStores [.Tuple ns k p] v env=pure none:=by
 cases v<;>first|rfl|cases h
theorem Fh(H:au w os F fn e):bY w os F fn (.jn is e):=λc z x Y C T X Q y o u h K KX=>
 Assign_Tuple (rY H (aR (aR (aR o))) u h KX λr Z v h' J O G=>
  have t:=λl s U hb R ext d=>
   Z.Mz Z.s.toks (λb o e=>ext b o (lD e) e) λz₁ E j L=>E▸rL (aL o) (j▸hb) (R.step L.kp) λI W k=>d I W ((J.fh.trans L.fh).trans k)
  have N:∀(l:List V)(s:Array Value),j8 is l Z.ρ Y→cW w Z.s.heap Z.W l s.toList→(assignEach (vh is (bR (st x))) c.env).length=s.size:=λl s hb R=>gL.2.trans ((Bi hb).trans R.length)
  C7 h' O (λl a s n hb ev E P R=>ev▸sk c.hA.handled ⟨_,E,rfl,n,rfl⟩ (N l s.toArray hb R) gL.1 λU ext=>t l s U hb R ext λI W k=>K.nx I W k)
   λl a s n hb ev E P R=>ev▸wpAny_assign_Tuple c.hA.handled ⟨_,E,rfl,n,rfl⟩ (N l s.toArray hb R) gL.1 λU ext=>t l s U hb R ext λI W k=>K.nx I W k)
  (ya (aL (aR o))) (BS (aL (aR (aR o))))
@[elab_as_elim] theorem y6{C:Value→Prop}(r:VR w h W (.int i) x)(f:∀t,C (.int i t)):C x:=by
 cases r;exact f _
theorem Ag{C:B2→V→V→Prop}(h:match o,x,y with
 |.add,.int a,.int b=>bG ρ i (.j (.int (a+b))) k
 |.sub,.int a,.int b=>bG ρ i (.j (.int (a-b))) k
 |_,_,_=>False)(h1:∀a b,bG ρ i (.j (.int (a+b))) k→C .add (.int a) (.int b))(h2:∀a b,bG ρ i (.j (.int (a-b))) k→C .sub (.int a) (.int b)):C o x y:=by
 cases o<;>first|exact h.elim|(cases x<;>first|exact h.elim|(cases y<;>first|exact h.elim|exact h1 _ _ h|exact h2 _ _ h))
theorem dt.tk(z)(t){C:Prop}(next:∀z':dt w os c,z'.s={z.s with toks:=t}→z'.ρ=z.ρ→qP z z'→C):C:=next (z.ke (z.toZt.tk t) .refl) rfl rfl .refl
theorem HD(H:au w os F fn e):bY w os F fn (.vH i o e):=λc z x N L f X Q E ok U h K KX=>
 Cp z.toZt h λy g V W S A T d M=>
  wpAny_AugAssign_Name (Bo c.O (pK (aL ok)).1 A (rY (z:=z.ke ⟨V,z.s,W,S⟩ d) H (aR ok) U T (KX.after d.fh) λr Z v h' J O l=>
   have a9:∀t I,bG Z.ρ i (.j (.int I)) N→wpAny (model PP w) c.A (storeName c.env (fi (st x)) (.int I t)) (λ_=>Q .next) E {Z.s with toks:=Z.s.toks+1}:=λt I k=>Z.tk (Z.s.toks+1) λz₁ Y j m=>Y▸lP (aL ok) (j▸k) (.int ..) λB D G=>K.nx B D (((d.fh.trans J.fh).trans m).trans G)
   Ag (C:=λo a b=>VR w Z.s.heap Z.W a g→VR w Z.s.heap Z.W b v→wpAny (model PP w) c.A (inplaceOp (xQ o) g v) (λv s=>wpAny (model PP w) c.A (storeName c.env (fi (st x)) v) (λ_=>Q .next) E s) E Z.s) h'
    (λa b k R P=>y6 R λt=>y6 P λu=>PyProof.Rows.iadd_int (a9 _ _ k)) (λa b k R P=>y6 R λt=>y6 P λu=>PyProof.Rows.isub_int (a9 _ _ k)) (M.step J.kp) O))
end
theorem QS{x y:Expr}{a b:Str}(h1:f x=some a)(h2:f y=some b):filterMap f [x,y]=[a,b]:=by
 rw[filterMap_cons_some h1,filterMap_cons_some h2,filterMap_nil]
theorem Rn{Y:Type}{x y:Expr}{k:Y}{g:List Str→Y}(h1:f x=some a)(h2:f y=some b)(ne:¬b=a):(if((filterMap f [x,y]).length !=[x,y].length||(filterMap f [x,y]).eraseDups.length !=(filterMap f [x,y]).length)=true then k else g (filterMap f [x,y]))=g [a,b]:=by
 rw[QS h1 h2,show[a,b].eraseDups=[a,b]by simp[List.eraseDups_cons,ne]];exact if_neg Bool.false_ne_true
theorem Ir(H:aB a=true)(z:aB b=true)(h:Qr x y a b=true)(env)(hb:env.blockKind=.function)(k1:env.kindOf (fi x)=some .local)(k2:env.kindOf (fi y)=some .local):
 swappedStores [.Tuple [vX x,vX y] k p] (.Tuple [a,b] k' v) env=pure (some [fi x,fi y]):=by
 have h3:=nE (aL (aR (aR h)));have h4:=nE (aR (aR (aR h)));have C:(env.kindOf (fi x)==some NameKind.local&&x.pos.line==x.pos.line)=true:=by rw[k1,beq_self_eq_true,beq_self_eq_true];rfl
 have c2:(env.kindOf (fi y)==some NameKind.local&&y.pos.line==x.pos.line)=true:=by rw[k2,beq_self_eq_true];exact aL h
 delta swappedStores;refine(if_neg (λq=> ?_)).trans ?_
 ·have q:(env.blockKind !=.function)=true:=q
  rw[hb]at q;cases q
 refine(if_neg (λq=>(oE q).elim (λq=> ?_) λq=>(oE q).elim (λq=> ?_) ff)).trans ?_
 ·revert H q;clear h h3 h4;cases a<;>first|exactλ_=>ff|exact ff
 ·revert z q;clear h h3 h4;cases b<;>first|exactλ_=>ff|exact ff
 refine(Rn (g:=λl=>ite _ _ (ite _ _ (pure (some l):Sem (Option (List Str))))) ?_ ?_ (bB (nE (aL (aR h))))).trans ?_
 ·exact if_pos C
 ·exact if_pos c2
 exact(if_neg (λq=>by rw[h3]at q;cases q)).trans (if_neg (λq=>by rw[h4]at q;cases q))
section
variable{w:World}{os:OsState}{F:Nat→Spec}{fn:hW}{c:uo fn}{z:dt w os c}
theorem HE(H:au w os F fn a)(hb:au w os F fn b):bY w os F fn (.GO i j a b):=λc z x n T r X Q L o u h K KX=>
 have kd:∀{y i},AB c.cf i y=true→(!bP (fi y) c.cf.cl)=true→c.env.kindOf (fi y)=some .local:=λo l=>(c.kd _ _ (pK o).1).elim (λq=>q.1) λq=>absurd q.1 (rn (nE l));have B:c.env.blockKind=.function:=by unfold Env.blockKind;rw[c.O.kind];rfl
 have P:=aL (aL (aL (aR (aR o))));have Z:=aR (aL (aL (aR (aR o))))
 Assign_Tuple_swapped (names:=[fi (Mine.Internal.kd (st x) 0),fi (Mine.Internal.kd (st x) 1)]) (wpAny_Tuple_spliced (PyProof.Rows.spliced_more (rY H (aL (aR (aR (aR o)))) (mL u) h KX λg z₁ V U m E D=>PyProof.Rows.spliced_more
  (rY hb (aR (aR (aR (aR o)))) (mR u) U D λW I v C S t J=>PyProof.Rows.spliced_none ⟨by unfold sizeLine;simp,wpAny_unpackItems_tuple (items:= #[V,v]) c.hA.handled ⟨_,Heap.get?_push_size _ rfl,rfl,0,rfl⟩ λM ext=>
   I.Mz I.s.toks (λb o e=>ext b o (by rw[Heap.size_push];exact Nat.ne_of_lt (Nat.lt_succ_of_lt (Heap.lt_size e))) (Heap.get?_push_of_some _ e)) λG N R k=>by
    refine N▸wpAny_bind (wpAny_holding (wpAny_bindName (lP (aR (aL o)) (R▸C) (t.step k.kp) λp Y d=> ?_)));exact wpAny_bind (wpAny_holding (wpAny_bindName (lP (aL (aL o)) Y ((E.step (KE.kp (S.trans k))).step d.kp) λO A f=>wpAny_pure (K.nx O A ((((m.fh.trans S.fh).trans k.fh).trans d).trans f)))))⟩) (aE Z)) (aE P)))
  (ya rfl) (Ir P Z (aR (aL (aR (aR o)))) c.env B (kd (aL (aL o)) (aL (aL (aR o)))) (kd (aR (aL o)) (aR (aL (aR o)))))
theorem Zt.o(z){C:Prop}(h:gK z.ρ i f k)(g:∀l l' a vs n,f l=some l'→(pl i).At z.s.heap (some (.ref a))→z.s.heap.get? a=some (dc vs n)→vs.length≤aA→cW w z.s.heap z.W l vs→
 (∀{RA:Prop}h' RB n' tk,Heap.SameBut a z.s.heap h'→h'.get? a=some (dc RB n')→RB.length≤aA→cW w z.s.heap z.W l' RB→(∀z':Zt w os fs pl,z'.s={z.s with heap:=h',toks:=tk}→k z'.ρ→Le z z'→RA)→RA)→C):C:=
 (Af h).elim λT q=>(CG q.2).elim λl' R=>(Option.bind_eq_some_iff.mp R.1).elim λl Q=>z.S.yy q.1 Q.1 λa vs n' p1 h1 h2 h3 h4=>
  g l l' a vs n' Q.2 p1 h1 h3 h4 λh' RB N tk S E y r next=>z.S.yw q.1 Q.1 p1 h2 S E y r λs K=>next ⟨_,_,z.W,s⟩ rfl R.2 K
theorem Zt.GD(z:Zt w os fs pl){P C:Prop}(h:match(z.ρ[i]?).bind dk with|some _=>P|.none=>False)(g:∀a vs n,i<z.ρ.length→(pl i).At z.s.heap (some (.ref a))→z.s.heap.get? a=some (dc vs n)→P→C):C:=
 (CG h).elim λl q=>(Option.bind_eq_some_iff.mp q.1).elim λT Q=>z.S.yy Q.1 Q.2 λa vs N p1 h1 _ _ _=>g a vs N (List.getElem?_eq_some_iff.mp Q.1).1 p1 h1 q.2
theorem uW{z d:Zt w os f L}(K:Le z d)(H:i<z.ρ.length)(p:(L i).At z.s.heap (some (.ref a)))(Y:(L i).At d.s.heap (some (.ref M))):M=a:=by
 cases(K.cz (z.S.H.bH i H) p).qF Y;rfl
theorem Hh:bY w os F fn (.HQ i):=λc z x t C R X Q r o u h K KX=>z.toZt.o h λl l' a V n e p1 h1 h3 h4 T=>
 wpAny_Expr (gS fZ (aL o) PQ (by decide) PySem.F.plainAttrs_list PySem.F.slot_list_reverse PySem.F.type_list_reverse (bz c.O (bL (aR o)) p1 ⟨⟨_,h1,rfl⟩,ym h1 rfl,
  PyProof.Rows.spliced_none (wu h1 h3 λh' N J S=>T h' _ N z.s.toks S J (Nat.le_trans (Nat.le_of_eq length_reverse) h3) (Option.some.inj e▸h4.reverse) λy Y H E=>Y▸K.nx (z.ke y E) H E.fh)⟩)) (yG c.O) (bZ rfl)
theorem IL(H:au w os F fn e):bY w os F fn (.lZ i e):=λc z x t U f X Q V o u h K KX=>z.toZt.GD h λa L m I P R h=>
 have p:=aL (aR o)
 wpAny_Expr (gS fZ (aL (aL o)) (JA p) (by decide:1<20) PySem.F.plainAttrs_list PySem.F.slot_list_append PySem.F.type_list_append (bz c.O (bL (aR (aL o))) P ⟨⟨_,R,rfl⟩,ym R rfl,
  PyProof.Rows.spliced_more (rY H (aR (aR o)) u h KX λr Z v h' k Y G=>PyProof.Rows.spliced_none (Z.toZt.o h' λl l' A s n e p1 h1 h3 h4 T=>by
   cases uW k I P p1;revert e;cases d:decide (l.length<aA)with
   |false=>exactλq=>nomatch q
   |true=>
    intro e;have lt:=h4.length▸of_decide_eq_true d;exact ri h1 lt λC N J S=>T C _ N Z.s.toks S J (Nat.le_trans (Nat.le_of_eq List.length_append) lt) (Option.some.inj e▸h4.append (.cons Y .nil)) λy W B E=>W▸K.nx (Z.ke y E) B (k.fh.trans E.fh))) (aE p)⟩)) (yG c.O) (bZ rfl)
theorem IH(H:au w os F fn a)(hb:au w os F fn b):bY w os F fn (.ins i a b):=λc z x O L r X Q g o u h K KX=>z.toZt.GD h λd v f I P R h=>
 have p:=aL (aL (aR o));have Y:=aR (aL (aR o))
 wpAny_Expr (gS fZ (aL (aL o)) (Ql p Y) (by decide:2<20) PySem.F.plainAttrs_list PySem.F.slot_list_insert PySem.F.type_list_insert (bz c.O (bL (aR (aL o))) P ⟨⟨_,R,rfl⟩,ym R rfl,
  PyProof.Rows.spliced_more (rY H (aL (aR (aR o))) (mL u) h KX λs z₁ RA U m D B=>PyProof.Rows.spliced_more (rY hb (aR (aR (aR o))) (mR u) U B λRB Z RC C k A RD=>PyProof.Rows.spliced_none
   (Qe C (D.step k.kp) λj t C=>Z.toZt.o C λl l' a' V n e p1 h1 h3 h4 T=>by
    cases uW (m.trans k) I P p1;revert e;cases d1:decide (0≤j)with
    |false=>exactλq=>nomatch q
    |true=>
    cases d2:decide (j≤l.length)with
    |false=>exactλq=>nomatch q
    |true=>
    cases d3:decide (l.length<aA)with
    |false=>exactλq=>nomatch q
    |true=>
    intro e;have lt:V.length<aA:=h4.length▸of_decide_eq_true d3;exact zo h1 h3 (of_decide_eq_true d1) (h4.length▸of_decide_eq_true d2) λM N J S=>T M _ N Z.s.toks S J (by simp;exact zl 0x7409e0f4c558036742 rfl lt) (Option.some.inj e▸(h4.take _).append (.cons A (h4.drop _))) λy W G E=>W▸K.nx (Z.ke y E) G ((m.fh.trans k.fh).trans E.fh))) (aE Y)) (aE p)⟩)) (yG c.O) (bZ rfl)
end
theorem ux{C:Prop}(h:eM l j v=some l')(f:0≤bX l.length j→bX l.length j<l.length→l'=l.set (bX l.length j).toNat v→C):C:=by
 delta eM at h;cases d1:decide (0≤bX l.length j)with
 |false=>rw[d1]at h;cases h
 |true=>
  cases d2:decide (bX l.length j<l.length)with
  |false=>rw[d1,d2]at h;cases h
  |true=>rw[d1,d2]at h;exact f (of_decide_eq_true d1) (of_decide_eq_true d2) (Option.some.inj h).symm
theorem QT{o:Option FK}{I:V}{A:List V→Int→Prop}{B:List (Str×V)→Str→Prop}{C:Prop}(h:match o,I with
 |some (.U l),.int j=>A l j
 |some (.od l),.str x=>B l x
 |_,_=>False)(f1:∀l j,o=some (.U l)→I=.int j→A l j→C)(f:∀l x,o=some (.od l)→I=.str x→B l x→C):C:=by
 cases o with
 |none=>exact h.elim
 |some k=>cases k<;>first|exact h.elim|(cases I<;>first|exact f1 _ _ rfl rfl h|exact f _ _ rfl rfl h|exact h.elim)
theorem Lv{P:List (Nat×FK)→Prop}(h:match o with|some a=>P a|.none=>False):∃a,o=some a∧P a:=by
 cases o with
 |some a=>exact⟨a,rfl,h⟩
 |none=>exact h.elim
@[elab_as_elim] theorem NL{C:Value→Prop}(r:VR w h W (.str i) x)(f:∀t,C (.str i t)):C x:=by
 cases r;exact f _
theorem mO(h:∀x,p x=true→q x=true)(l:List Nat):(l.filter p).length≤(l.filter q).length:=by
 induction l with
 |nil=>exact Nat.le_refl _
 |cons x l I=>
  rw[filter_cons,filter_cons];cases e:p x with
  |true=>rw[h x e];exact succ_le_succ I
  |false=>cases q x with
   |true=>exact le_succ_of_le I
   |false=>exact I
theorem vx(h:∀x,p x=true→q x=true)(H:p n=false)(Q:q n=true)(l:List Nat):n∈l→(l.filter p).length+1≤(l.filter q).length:=by
 induction l with
 |nil=>exactλm=>nomatch m
 |cons x l I=>
  intro m;rw[filter_cons,filter_cons];rcases mem_cons.mp m with rfl|m
  ·rw[H,Q];exact succ_le_succ (mO h l)
  ·cases e:p x with
   |true=>rw[h x e];exact succ_le_succ (I m)
   |false=>cases q x with
    |true=>exact le_succ_of_le (I m)
    |false=>exact I m
theorem Cr(H:n<9)(f:∀y,nsFind u.toArray y=if y=an n then some x else nsFind es.toArray y)(l:u.length≤es.length∨u.length=es.length+1∧nsFind es.toArray (an n)=none)(h:es.length≤DN es):u.length≤DN u:=by
 have M:∀k,(nsFind es.toArray (an k)).isSome=true→(nsFind u.toArray (an k)).isSome=true:=λk e=>by
  rw[f]
  by_cases q:an k=an n
  ·rw[if_pos q];rfl
  ·rw[if_neg q];exact e
 rcases l with l|⟨l,e⟩
 ·exact Nat.le_trans l (Nat.le_trans h (mO M _))
 ·rw[l]
  exact Nat.le_trans (Nat.add_le_add_right h 1) (vx M (by rw[e];rfl) (by rw[f,if_pos rfl];rfl) _ (mem_range.mpr H))
section
variable{w:World}{os:OsState}{F:Nat→Spec}{fn:hW}
theorem yD{z:dt w os c}{T:Mine.Internal.S}{R E:Value→Shared→Prop}(o:qp (fi y) c.cf.nm i=true)(e:z.ρ[i]? =some T)(u:d4 T=some L)(J:d6 n L=some k)
 (next:∀x tk,FR w z.s.heap z.W (10+i) n k x→(∀{D:Prop}b k' h' t,x=.ref b→z.W b=(10+i,n+1)→Heap.SameBut b z.s.heap h'→(Kp z.s.heap z.W h' z.W→FR w h' z.W (10+i) n k' (.ref b))→
  (∀y:Zt w os c.fs c.pl,y.s={z.s with heap:=h',toks:=t}→y.ρ=z.ρ.set i (dM T (gN n k' L))→Le z.toZt y→D)→D)→R x {z.s with toks:=tk}):wpAny (model PP w) c.A (eval (.Attribute (vX y) (an n) p) c.env) R E z.s:=
 x7 z.S.H e u λG v Y p1 oi h8=>by
  cases oi with
  |mk A M m P X d g I U=>
   obtain⟨x,m1,r⟩:=U _ (fY J);refine Attribute_Name_ (bz c.O (bL o) p1 (nY z.S.H A ⟨_,_,_,m,rfl,X,λ_=>rfl⟩ m1 (nS r).2 (next _ _ r λb k' h' t ex wb S fr D=> ?_)));have K:=wZ wb (cg h8) cn vq S;have C:∀{f:Nat}(_:f≠n+1)x o,z.W x=(10+i,f)→z.s.heap.get? x=some o→h'.get? x=some o:=λN x o q e=>(S.2 x (by rintro rfl;exact N (Prod.mk.inj (q.symm.trans wb)).2)).trans e;have Z:0≠n+1:=nofun;exact D ⟨_,{z.s with heap:=h',toks:=t},z.W,z.S.gens,z.S.os,z.S.H.mC K (λj H _=>vU wb S (Bd H)) λ_ W O=>⟨_,(p1.qF O).symm,BJ Y (.mk (A.same λo e=>C Z _ o M e) M (C Z _ _ P m) P X d g (rD I (I.2 _ (fY J)))
    (sP (ex▸m1) (fr K.kp) U I.1 (λ_ _ _=>rfl) λp V ne x r=>FR.HR K.kp (λa o e q=>⟨C (λy=>ne (succ.inj y)) a o q e,q⟩) r))⟩⟩ rfl rfl K
theorem wt(hd:jz w s.heap a k)(H:k.length<aA)
 (K:∀h',jz w h' a (stored k x v)→Heap.SameBut a s.heap h'→Q () {s with heap:=h',toks:=s.toks+1}):wpAny (model PP w) A (setItem (.ref a) (.str x t) v) Q C s:=
 wpAny_setItem_pairs (strKind_is PP w x t) hd.1 (λh' e=>K h' ⟨e,hd.2⟩) (eE (Nat.le_of_lt H))
theorem Kt(r:cW w h W l m)(q:VR w h W v x):cW w h W (l.set (bX l.length j).toNat v) (m.set (bX m.length j).toNat x):=r.length▸cM.set q r _
theorem Fw(H:au w os F fn e):bY w os F fn (.dB p I e):=λc z x A s b X Q Er o u h K KX=>
 wpAny_Assign_Subscript (rY H (aR (aR (aR o))) (mR u) h KX λg z₁ RA U k Z RB=>(sE U).elim λj q=>by
  obtain⟨M,U⟩:=q;have oi:=aL (aR (aR o));have op:=aL (aR o);cases p with
  |v i=>
   cases j<;>first|exact U.elim|skip
   rename_i j;exact z₁.toZt.o U λl l' a vs n e p1 g1 g3 g4 N=>ux e λd1 d2 L=>bz c.O (bL op) p1 (kS oi M λy tk R=>y6 R λt=>
    qh g1 g3 (g4.length▸d1) (g4.length▸d2) λh' D J S=>N h' _ D tk S J (by rw[List.length_set];exact g3) (L▸Kt g4 Z) λy Y W E=>Y▸K.nx (z₁.ke y E) W (k.fh.trans E.fh))
  |f i n=>
   exact(Af U).elim λT q=>(Lv q.2).elim λfl B=>QT B.2
    (λl j V G U=>(CG U).elim λl' O=>ux O.1 λd1 d2 L=>yD op q.1 B.1 V λx tk r N=>by
     cases r with
     |mk g1 g2 g3 g4=>
     refine kS (z:=z₁.toZt.tk tk) oi (G▸M) λy tk R=>y6 R λt=>qh g1 g3 (g4.length▸d1) (g4.length▸d2) λh' D J S=> ?_;exact N _ (.U l') h' tk rfl g2 S (λP=>.mk J g2 (by rw[List.length_set];exact g3) (L▸(Kt g4 Z).step P)) λy Y C E=>Y▸K.nx (z₁.ke y E) (C▸O.2) (k.fh.trans E.fh))
    λl j V G U=>yD op q.1 B.1 V λx tk r N=>by
     cases r with
     |mk g1 g2 g3=>
     revert U;cases d:decide (l.length<aA)with
     |false=>exact False.elim
     |true=>
     intro U;refine kS (z:=z₁.toZt.tk tk) oi (G▸M) λy tk R=>NL R λt=>wt g1 (((List.length_map (f:=Prod.fst)).symm.trans ((congrArg List.length g3.Ln).trans (List.length_map (f:=Prod.fst))))▸of_decide_eq_true d) λh' J S=> ?_;obtain⟨_,_,_,_,_,_,_,_,m⟩:=id g1.1;exact N _ (.od (fJ j g.v l)) h' (tk+1) rfl g2 S (λP=>.mk J g2 ((gC.stored Z g3 m).step P)) λy Y C E=>Y▸K.nx (z₁.ke y E) (C▸U) (k.fh.trans E.fh))
  (bZ (aL (aL o)))
end
theorem Ce{C:Prop}(h:qV ρ i n x k)(f:∀T L,ρ[i]? =some T→n<9→d4 T=some L→k (ρ.set i (dM T (gN n x L)))→C):C:=by
 delta qV at h;generalize e:ρ[i]? =o at h;generalize b:blt n 9=d at h;cases o with
 |none=>exact h.elim
 |some T=>cases d with
  |false=>exact h.elim
  |true=>exact(Lv h).elim λL q=>f T L e (le_of_ble_eq_true b) q.1 q.2
section
variable{w:World}{os:OsState}{F:Nat→Spec}{fn:hW}
theorem mm{c:uo fn}{z:dt w os c}(o:qp (fi y) c.cf.nm i=true)(h:qV z.ρ i n k' t)(r:FR w z.s.heap z.W (10+i) n k' v)
 (next:∀I:dt w os c,t I.ρ→Le z.toZt I.toZt→Q () I.s):wpAny (model PP w) c.A (eval (vX y) c.env) (λO f=>wpAny (model PP w) c.A (setAttr O (an n) v) Q C f) C z.s:=
 Ce h λT fl e N E k=>x7 z.S.H e E λc' x Y p1 oi h8=>by
  cases oi with
  | @mk a d es n' W G J A V U g X u=>
  refine bz c.O (bL o) p1 (vY z.S.H W J V (Nat.le_trans U (Nat.le_trans DR (by decide))) λh' RA n2 tk g2 S k2 L M=> ?_);have K:=wZ A (cg h8) cn vq S;have D:a≠d:=by
   rintro rfl;obtain⟨o,B,_,_,R⟩:=W;cases J.symm.trans B;cases R
  have s:∀m x o,z.W x=(10+i,m+1)→z.s.heap.get? x=some o→h'.get? x=some o:=λm x o q e=>(S.2 x (by rintro rfl;exact nomatch(Prod.mk.inj (A.symm.trans q)).2)).trans e;refine next (z.ke ⟨_,{z.s with heap:=h',toks:=tk},z.W,z.S.gens,z.S.os,z.S.H.mC K (λj Z _=>vU A S (Bd Z)) λ_ x' l=>⟨_,(p1.qF l).symm,BJ Y (.mk (W.same λo e=>(S.2 a D).trans e) G g2 A k2 (Cr N M L U) (λy H=>(M y).trans ((if_neg (H n)).trans (g y H))) (rD X N) ?_)⟩⟩ K) k K;exact sP ((M _).trans (if_pos rfl)) (FR.HR K.kp (λb o e q=>⟨s n b o q e,q⟩) r) u X.1 (λp P ne=>(M _).trans (if_neg λq=>ne (Jq (X.2 p P) N q))) λp P ne x r=>FR.HR K.kp (λb o e q=>⟨s p.1 b o q e,q⟩) r
theorem EX(H:au w os F fn e):bY w os F fn (.kz i n e):=λc z x N T Y X Q R o u h K KX=>
 plainObj_wpAny_Assign_Attribute (Jg H (aR (aR o)) u h KX λr Z v h' J O=>by
  have done:∀(k':FK)(I:dt w os c),I.s=Z.s→I.ρ=Z.ρ→Le Z.toZt I.toZt→qV Z.ρ i n k' N→FR w I.s.heap I.W (10+i) n k' v→wpAny (model PP w) c.A (eval (vX (kd (st x) 0)) c.env) (λV S=>wpAny (model PP w) c.A (setAttr V (an n) v) (λ_=>Q .next) R S) R Z.s:=λk' I g f k2 h fr=>
   g▸mm (aL (aR o)) (f.symm▸h) fr λA k G=>K.nx A k ((J.fh.trans k2.fh).trans G.fh)
  cases r with
  |j M=>exact done (.j M) Z rfl rfl .refl h' O
  |U l=>
   have E:KE Z.s.heap Z.W Z.s.heap (λb=>xT (2,0) (10+i,n+1) (Z.W b)):=KE.xT qW qT (by decide);refine done (.U l) (Z.ke ⟨Z.ρ,Z.s,_,Z.S.gens,Z.S.os,Z.S.H.Dd E λj _ b o e l=>⟨e,?_⟩⟩ E) rfl rfl E h' ?_
   ·exact(o7 λq=>absurd ((congrArg Prod.fst q).symm.trans l) (ne_of_lt (Nat.lt_of_lt_of_le (by decide) (le_add_right 10 j)))).trans (Prod.ext l rfl)
   ·cases O with
    |mk t B C y=>exact .mk t (by rw[B,CC]:xT _ _ (Z.W _)=_) C (y.step E.kp)
  |oi c L=>exact done (.j (.dn c (I8 L))) (Z.ke Z.toZt.Y KE.br) rfl rfl KE.br h' (a6.cC KE.br.kp Fz.wX O)) (bZ (aL o))
theorem Fi:bY w os F fn (.wU i n):=λc z x N C R X Q r o u h K KX=>
 plainObj_wpAny_Assign_Attribute (wpAny_Dict_empty (z.toZt.push {cls:=.type "dict",data:=.dict #[]} (10+i,n+1) λS E=>
  have B:=lt_size (z.S.H.obj (a:=913) (by decide) (by decide) (o:=Hd.ob 913 w.params) (by kernel_rfl) (by kernel_rfl))
  mm (z:=z.ke ⟨z.ρ,_,_,S⟩ E) o h (.mk ⟨DictOf.new _,beq_false_of_ne λq=>absurd B (by rw[q];decide)⟩ aJ .nil) λZ H k=>K.nx Z H (E.fh.trans k.fh))) (bZ rfl)
end
section
variable{w:World}{os:OsState}{F:Nat→Spec}{fn:hW}
theorem dt.fV(z:dt w os c){t tk:Nat}{C:Prop}(ht:900≤t)(ks:KS t z.s.heap z.W h' z.W)(next:∀z':dt w os c,z'.s={z.s with heap:=h',toks:=tk}→z'.ρ=z.ρ→z'.W=z.W→C):C:=
 have P:=λi H=>(z.cz H).elim (λe=>xZ e (by decide) ht) λe=>xZ e (by decide) ht
 next ⟨⟨z.ρ,{z.s with heap:=h',toks:=tk},z.W,z.S.gens,z.S.os,z.S.H.rB ht (λi H o=>ks _ o (P i H)) ks⟩,z.cel,λv e=>have q:=z.zero v e;⟨q.1,eH q.2 λo E=>(ks _ o (P 0 q.1) E).1⟩,z.lm⟩ rfl rfl rfl
theorem HY(H:gG w os F fn c)(hb:gj w os F fn b):bY w os F fn (.tU c b):=λfr z x W T R X Q L o u h K KX=>
 h.elim λn N=>by
  generalize d:(λi ρ=>tr F c ρ (λt ρ=>match t with|true=>ex F b ρ i i R X|false=>W ρ) X)=f at N;refine wpAny_While (codeAny_whileLoop (λk s=>∃Z,Z.s=s∧qP z Z∧iter f k Z.ρ) (λk s q=>q.elim λZ q=> ?_) n ⟨z,rfl,.refl,N⟩);obtain⟨e,k',I⟩:=q;subst e;cases k with
  |zero=>exact I.elim
  |succ k=>
   have B:=tX (M:=model PP w) (KX.after k');have I:=I;rw[←d]at I;refine H fr.toFr Z.toZt _ _ X _ _ (aL o) (mL u) I (λt y C S=> ?_) B.x;have Y:=k'.trans S.fh;cases t with
   |false=>exact wpAny_execs_nil (K.nx (Z.ke y S) C Y)
   |true=>
    have G:∀V:dt w os fr,iter f k V.ρ→KT y.s.heap y.W V.s.heap V.W→∃m,m<k+1∧∃Z:dt w os fr,Z.s=V.s∧qP z Z∧iter f m Z.ρ:=λV j E=>⟨k,lt_succ_self _,V,rfl,Y.trans E,j⟩;rw[d]at C;exact hb fr (Z.ke y S) _ _ _ R X _ _ (aR o) (mR u) C ⟨G,G,λr V v j E O=>K.rt r V v j (Y.trans E) O⟩ (B.after S.fh)
theorem Fx(h:aB y=true):foldedSetIterable y env v=pure v:=by
 cases y<;>first|rfl|cases h
inductive Lu{c:uo fn}(z:dt w os c)(I:Addr)(fp:List Addr)(Pp:Nat→Value→Prop)(Qs:Nat→Heap→Prop)(items:List V)(step:V→(R→Prop)→R→Prop)(nx:R→Prop)(tt kk:Nat)(s':Shared):Prop where
 |mk (j:Nat) (hj:j≤items.length) (ek:kk=items.length+1-j) (z':dt w os c) (e:z'.s=s') (le:qP z z') (q:Qs j s'.heap) (wI:z'.W I=(tt,0)) (hfp:∀b∈fp,b=I∨(∃o,s'.heap.get? b=some o)∧(z'.W b).1=0)
  (hv:∀i x v,items[i]? =some x→Pp i v→VR w s'.heap z'.W x v) (fold:((items.drop j).foldr step nx) z'.ρ)
theorem Ex(H:rQ w os F fn I)(hb:gj w os F fn b):bY w os F fn (.bU i I b):=λc z x N ct T X Q Er o C h K KX=>(lW z.s.heap z.W).elim λtt q=>by
 obtain⟨ht,n⟩:=q;have h9:900≤tt:=Nat.le_trans (by decide) ht;refine wpAny_For (H c.toFr z.toZt _ _ X _ Er tt (aL (aR (aR o))) (mL C) h (λitems y S a RA wI f RM=> ?_) KX.x) λx=>Fx (aL (aR o));generalize RB:(λv RC ρ=>bG ρ i (.j v) λρ=>ex F b ρ RC RC T X)=step at a;cases RM with
 | @mk p Pp t Y RD q0 RN hv=>
 refine codeAny_forLoop_any (Lu z S p Pp t items step N tt) (λkk s' RO=> ?_) (items.length+1) (.mk 0 (zero_le _) rfl (z.ke y RA) rfl RA.fh q0 wI RN hv a);cases RO with
 |mk j hj ek Z e k' q' RE RF RG g=>
 subst e ek;have s:∀(U:Heap),(∀b o,b∉[S]→Z.s.heap.get? b=some o→U.get? b=some o)→KS tt Z.s.heap Z.W U Z.W:=λU kp b o l e=>⟨kp b o (λq=>absurd l (by rw[mem_singleton.mp q,RE];exact Nat.lt_irrefl _)) e,rfl⟩;rcases Nat.lt_or_ge j items.length with lt|ge
 ·rw[drop_eq_getElem_cons lt,foldr_cons,←RB]at g
  refine Y.item j Z.s _ _ lt q' λv U tk P A D=>Z.fV (tk:=tk) h9 (s U D) λz₁ E R W=>wpAny_pure (wpAny_assign_Name ?_);have s:=s U D;have RP:qP z z₁:=by
   show KT _ _ z₁.s.heap z₁.W;rw[E,W];exact k'.gV n s
  have RH:Kp Z.s.heap Z.W z₁.s.heap z₁.W:=by rw[E,W];exact s.kp h9
  refine E▸lP (aL o) (R.symm▸g) ((RG j _ v (List.getElem?_eq_getElem lt) P).step RH) λB RI d=> ?_;rw[RB]at RI;have J:=RP.trans d;have L:∀{RJ:dt w os c}{b},b=S→RJ.W S=(tt,0)→yQ (RJ.W b).1:=λq e=>.inr (.inr (by rw[q,e];exact h9));have G:z₁.W S=(tt,0):=W▸RE;have A:t (j+1) z₁.s.heap:=E▸A;have RK:=Y.frame _ _ _ A λb hb o e=>(d.ex b o e ((RF b hb).elim (λy=>L y G) λy=>.inl (W▸y.2))).1;have u:=(RD _ _ A).elim λO f=>(d.ex S O f (L rfl G)).2.trans G;have RL:=RH.trans d.kp;have z2:∀b∈p,b=S∨(∃o,B.s.heap.get? b=some o)∧(B.W b).1=0:=λb hb=>(RF b hb).imp id λy=>y.1.elim λo e=>have q:=RL b o e y.2;⟨⟨o,q.1⟩,q.2⟩;have next:∀V:dt w os c,((items.drop (j+1)).foldr step N) V.ρ→qP B V→∃m,m<items.length+1-j∧Lu z S p Pp t items step N tt m V.s:=λV M k=>
   ⟨items.length+1-(j+1),Nat.sub_lt_sub_left (lt_succ_of_lt lt) (lt_succ_self j),.mk (j+1) lt rfl V rfl (J.trans k) (Y.frame _ _ _ RK λb hb o e=>(k.ex b o e ((z2 b hb).elim (λy=>L y u) λy=>.inl y.2)).1)
    ((RD _ _ RK).elim λO f=>(k.ex S O f (L rfl u)).2.trans u) (λb hb=>(z2 b hb).imp id λy=>y.1.elim λo e=>have q:=k.kp b o e y.2;⟨⟨o,q.1⟩,q.2⟩) (λi x v ei P=>(RG i x v ei P).step (RL.trans k.kp)) M⟩
  exact hb c B _ _ _ T X _ _ (aR (aR (aR o))) (mR C) RI ⟨next,next,λr V v M k RQ=>K.rt r V v M (J.trans k) RQ⟩ (tX (KX.after J))
 ·cases Nat.le_antisymm hj ge
  rw[drop_length,foldr_nil]at g;exact Y.done Z.s _ _ q' λU tk D=>Z.fV h9 (s U D) λz₁ E R W=>wpAny_execs_nil (E▸K.nx z₁ (R.symm▸g) (by
   show KT _ _ z₁.s.heap z₁.W;rw[E,W];exact k'.gV n (s U D)))
end
noncomputable def zu(t:Nat)(p:Nat×Nat):Nat×Nat:=if p.1=t then(10,p.2)else if p.1=0 then p else if p.1=1∨p.1=3 then(3,p.2)else(5,p.2)
noncomputable def ig(t L:Nat)(W:cy):cy:=λa=>if a<L then zu t (W a)else if a=L then(1,0)else(4,0)
noncomputable def GA(t:Nat)(p:Nat×Nat):Nat×Nat:=if p.1=10 then(t,p.2)else if p.1=2 then p else(0,0)
noncomputable def Gk(t:Nat)(h:Heap)(W W':cy):cy:=λa=>if(h.get? a).isSome=true∧(W a).1≠t then W a else GA t (W' a)
section
variable{t L:Nat}{W W':cy}{a:Addr}
theorem oD{C:Nat×Nat→Prop}(H:p.1≠t)(f:p.1=0→C p)(f1:p.1=1∨p.1=3→C (3,p.2))(O:p.1≠0→¬(p.1=1∨p.1=3)→C (5,p.2)):C (zu t p):=by
 delta zu;rw[if_neg H]
 by_cases F:p.1=0
 ·rw[if_pos F];exact f F
 ·rw[if_neg F]
  by_cases h1:p.1=1∨p.1=3
  ·rw[if_pos h1];exact f1 h1
  ·rw[if_neg h1];exact O F h1
theorem LP(h:p.1=t):zu t p=(10,p.2):=if_pos h
theorem gJ(h:a<L):ig t L W a=zu t (W a):=if_pos h
theorem qd:ig t L W L=(1,0):=(if_neg (Nat.lt_irrefl L)).trans (if_pos rfl)
theorem yC(h:L<a):ig t L W a=(4,0):=(if_neg (Nat.not_lt.mpr (Nat.le_of_lt h))).trans (if_neg (Nat.ne_of_gt h))
theorem IU(h:p.1=10):GA t p=(t,p.2):=if_pos h
theorem LK(h:p.1=2):GA t p=p:=by
 delta GA;rw[if_neg (by rw[h];decide),if_pos h]
theorem JX(h:p.1=0):(GA t p).1=0:=by
 delta GA;rw[if_neg (by rw[h];decide),if_neg (by rw[h];decide)]
theorem nA(e:h.get? a=some o)(n:(W a).1≠t):Gk t h W W' a=W a:=if_pos ⟨by rw[e];rfl,n⟩
noncomputable def Call(t:Nat):Prop:=t=7∨10≤t∧t<810
theorem fD(H:Call t)(h:n<7∨900≤n):n≠t:=by
 unfold Call at H;exact zl 0x9a3fa10ee65f50e1a0769b0111828b123 rfl H h
end
section
variable{w:World}{os:OsState}{F:List Env}{h H h':Heap}{W W':cy}{t L:Nat}
theorem BD(d:h.objs.size=L)(J:∀b o,h.get? b=some o→H.get? b=some o)(K:KT H (ig t L W) h' W'){C:Prop}(e:h.get? b=some o)(D:(W b).1≠t)
 (f:(W b).1=0→h'.get? b=some o→(W' b).1=0→C)(f1:(W b).1=1∨(W b).1=3→(∀m,h.Ns b m→h'.Ns b m)→(∃O,h'.get? b=some O)→(W' b).1=3→C)(g:(W b).1≠0→¬((W b).1=1∨(W b).1=3)→h'.get? b=some o→(W' b).1=5→C):C:=
 have k:=J b o e
 oD (C:=λp=>ig t L W b=p→C) D (λz q=>have y:=K.ex b o k (.inl ((congrArg Prod.fst q).trans z));f z y.1 ((congrArg Prod.fst (y.2.trans q)).trans z))
  (λz q=>have l:=congrArg Prod.fst q;have y:=K.sl b o k l;f1 z (λm q=>y.1 m (q.keeps J)) (K.there b o k l) (congrArg Prod.fst (y.2.trans q)))
  (λz Z q=>have y:=K.ex b o k (.inr (.inl (congrArg Prod.fst q)));g z Z y.1 (congrArg Prod.fst (y.2.trans q))) (gJ (d▸Heap.lt_size e))
theorem gF(B:bA w F h W)(d:h.objs.size=L)(C:Call t)(p:∀b o,h.get? b=some o→H.get? b=some o)(K:KT H (ig t L W) h' W'):
 KC t h W h' (Gk t h W W')∧Kp h' W' h' (Gk t h W W')∧Mv h' W' 2 h' (Gk t h W W') 2∧Mv h' W' 10 h' (Gk t h W W') t:=by
 have new:∀b,(∀o,h.get? b=some o→(W b).1=t)→Gk t h W W' b=GA t (W' b):=λb n=>if_neg λq=>by
  obtain⟨o,e⟩:=Option.isSome_iff_exists.mp q.1;exact q.2 (n o e)
 have R:∀b n,(W' b).1=n→n≠0→n≠3→n≠5→Gk t h W W' b=GA t (W' b):=λb n l Y G Z=>new b λo e=>Classical.byContradiction λN=>
  BD d p K e N (λ_ _ z=>Y (l.symm.trans z)) (λ_ _ _ z=>G (l.symm.trans z)) λ_ _ _ z=>Z (l.symm.trans z)
 have ex:∀b o,h.get? b=some o→(W b).1≠t→¬((W b).1=1∨(W b).1=3)→h'.get? b=some o∧Gk t h W W' b=W b:=λb o e N S=>BD d p K e N (λ_ g _=>⟨g,nA e N⟩) (λl _ _ _=>absurd l S) λ_ _ g _=>⟨g,nA e N⟩;have c:∀{n},qy n→n≠t∧¬(n=1∨n=3):=λ{n}l=>⟨fD C (by unfold qy at l;exact zl 0x126f07f8d4e48081e03f27d7267a3 rfl l),by unfold qy at l;exact zl 0xf7488fff1253ce1ff27d7267a3 rfl l⟩;have s:∀{n},uN n→n≠t:=λ{n}l=>fD C (by unfold uN at l;exact zl 0x14a0d4074b94a50ecd3 rfl l);refine⟨⟨⟨λb o e l=>ex b o e (c l).1 (c l).2,λb o e l=>⟨?_,nA e (s l)⟩,λb o e l=> ?_,λV l e=> ?_⟩,λb o e X U=>ex b o e U λq=>q.elim (λq=>absurd (q▸X) (by decide)) λq=>absurd (q▸X) (by decide)⟩,λb o e l=>⟨e,?_⟩,λb o e l=>⟨e,?_⟩,λb o e l=>⟨e,?_⟩⟩
 ·exact BD d p K e (s l) (λz=>absurd (z▸l) (by unfold uN;decide)) (λ_ n _ _=>n) λ_ S=>absurd l S
 ·exact BD d p K e (s l) (λz=>absurd (z▸l) (by unfold uN;decide)) (λ_ _ n _=>n) λ_ S=>absurd l S
 ·have q:=ex 910 _ e (fD C (.inl (l▸by decide))) (l▸by decide)
  exact⟨q.2,#[],by simpa using q.1⟩
 ·by_cases q:∃O,h.get? b=some O∧(W b).1≠t
  ·obtain⟨O,E,n⟩:=q
   rw[nA E n];exact BD d p K E n (λz _ _=>z) (λ_ _ _ z=>nomatch l.symm.trans z) λ_ _ _ z=>nomatch l.symm.trans z
  ·rw[new b λO E=>Classical.byContradiction λn=>q ⟨O,E,n⟩];exact JX l
 ·exact(R b 2 l (by decide) (by decide) (by decide)).trans ((LK l).trans (Prod.ext l rfl))
 ·exact(R b 10 l (by decide) (by decide) (by decide)).trans (IU l)
theorem XT.P6{s RB RC:Shared}{a:Addr}{m:Str}(B:bA w F s.heap W)(hL:s.heap.objs.size=L)(ht:Call t)(RA:∀b o,s.heap.get? b=some o→RB.heap.get? b=some o):XT os (env::F) RB.heap (ig t L W) a m RC→XS os F s.heap W a m RC
|.mk g o k f n tb=>.mk g o (KE.self (gF B hL ht RA k).1.1) (by cases f with|mk g1 g2 g3 g4 c4 g5 g6 g7 g8=>exact .mk g1 g2 g3 g4 c4 g5 g6 g7 λe he=>g8 e (.tail _ he))
 (λb ob e l=>n b ob (RA b ob e) (by
  rw[gJ (hL▸lt_size e)];exact oD (C:=λp=>yQ p.1∨DY p.1) (fD ht (by unfold qy uN at l;exact zl 0x41e4006ee0804809e4d4ffc44f6b63ea741d rfl l)) (λz=>.inl (.inl z)) (λ_=>.inr rfl) λ_ _=>.inl (.inr (.inl rfl))))
 λl vs e=>n 910 _ (RA _ _ e) (by
  rw[gJ (hL▸lt_size e)];exact oD (C:=λp=>yQ p.1∨DY p.1) (fD ht (.inl (l▸by decide))) (λz=>.inl (.inl z)) (λ_=>.inr rfl) λ_ _=>.inl (.inr (.inl rfl)))
end
noncomputable def nh(env:Env)(sl:List Str)(i:Nat):fK:=(sl[i]?).elim (.cell 910) λn=>if env.kindOf n=some .cell then .cell ((env.cells.lookup n).getD 910)else .ns env.locals n
structure Me(cf:Cf)(sl:List Str)(sc:Scope):Prop where
 kind:sc.kind=.function
 BM:sl.Nodup
 len:sl.length≤800
 d:∀n i,aQ n cf.nm=some i→sl[i]? =some n∧(n==("__debug__":Str))=false∧(n==("__classdict__":Str))=false∧(sc.names.lookup n=some .local∨(sc.names.lookup n=some .cell∧n∈cf.cl))
 cl:∀n∈cf.cl,sc.names.lookup n=some .cell
 gl:∀n∈cf.gs,sc.names.lookup n=some .globalImplicit∧(n==("__debug__":Str))=false
theorem Ah{l:List Str}:∀{i j:Nat},l.Nodup→l[i]? =some x→l[j]? =some x→i=j:=by
 induction l with
 |nil=>exactλ_ h=>nomatch h
 |cons y l I=>
  intro i j N h1 h2;have N:=nodup_cons.mp N;cases i with
  |zero=>cases j with
   |zero=>rfl
   |succ j=>exact absurd (mem_of_getElem? (i:=j) h2) (Option.some.inj h1▸N.1)
  |succ i=>cases j with
   |zero=>exact absurd (mem_of_getElem? (i:=i) h1) (Option.some.inj h2▸N.1)
   |succ j=>exact congrArg _ (I N.2 h1 h2)
structure At(fd:FuncData)(L:Addr):Prop where
 FO:910<L
 apart:(cellsFrom (L+1) fd.scope.names []).Pairwise λx y=>x.2≠y.2
 above:∀n c,(n,c)∈cellsFrom (L+1) fd.scope.names []→L<c
theorem jf{sc:Scope}(h:sc.names.lookup n=some .cell):∃c,(cellsFrom k sc.names []).lookup n=some c:=
 (jC (mem_of_lookup h)).elim λ_ H=>Option.isSome_iff_exists.mp (pU H)
theorem fM(H:At d L)(h:sl[i]? =some n){C:Prop}(f:∀c,d.scope.names.lookup n=some .cell→(callEnvC d L a).cells.lookup n=some c→(n,c)∈cellsFrom (L+1) d.scope.names []→nh (callEnvC d L a) sl i=.cell c→L<c→C)
 (fn:d.scope.names.lookup n≠some .cell→nh (callEnvC d L a) sl i=.ns L n→C):C:=by
 have e:nh (callEnvC d L a) sl i=if d.scope.names.lookup n=some .cell then .cell (((callEnvC d L a).cells.lookup n).getD 910)else .ns L n:=by
  delta nh;rw[h];rfl
 by_cases q:d.scope.names.lookup n=some .cell
 ·exact(jf q).elim λc O=>f c q O (mem_of_lookup O) (e.trans ((if_pos q).trans (congrArg (λo=>fK.cell (Option.getD o 910)) O))) (H.above n c (mem_of_lookup O))
 ·exact fn q (e.trans (if_neg q))
theorem ir(h:sl[i]? =none):nh env sl i=.cell 910:=by
 delta nh;rw[h];rfl
theorem GN(H:At d L)(h:sl[i]? =some n):nh (callEnvC d L a) sl i≠.cell 910:=fM H h (λc _ _ _ e l q=>absurd (fK.cell.inj (e.symm.trans q)▸l) (Nat.not_lt.mpr (Nat.le_of_lt H.FO))) λ_ e q=>nomatch e.symm.trans q
theorem Iz(H:At d L)(S:Me C sl d.scope)(g:d.globals=mainGlobals)(hb:d.builtins=builtinsNs):jL C (callEnvC d L a) (nh (callEnvC d L a) sl):=
 ⟨S.kind,g,hb,λn i h=>have v:=S.d n i h;⟨v.2.1,v.2.2.1,fM H v.1 (λc k O _ e _=>.inr ⟨.inl k,c,O,e⟩) λk e=>.inl ⟨v.2.2.2.elim id λq=>absurd q.1 k,e⟩⟩,
  λn N=>have k:=S.cl n N;(jf k).imp λc O=>⟨O,.inl k,λi I=>fM H (S.d n i I).1 (λX _ D _ e _=>e.trans (congrArg _ (Option.some.inj (D.symm.trans O)))) λk' _=>absurd k k'⟩,S.gl⟩
theorem Ih(H:At d L)(S:Me C sl d.scope):∀n i,aQ n C.nm=some i→((callEnvC d L a).kindOf n=some .local∧nh (callEnvC d L a) sl i=.ns (callEnvC d L a).locals n)∨(n∈C.cl∧(callEnvC d L a).kindOf n=some .cell∧∃c,(callEnvC d L a).cells.lookup n=some c∧nh (callEnvC d L a) sl i=.cell c):=λn i h=>
 have v:=S.d n i h
 fM H v.1 (λc k O _ e _=>.inr ⟨v.2.2.2.elim (λq=>nomatch k.symm.trans q) λq=>q.2,k,c,O,e⟩) λk e=>.inl ⟨v.2.2.2.elim id λq=>absurd q.1 k,e⟩
theorem ED(H:At d L):∀i,nh (callEnvC d L a) sl i≠.cell 910→(∃n,nh (callEnvC d L a) sl i=.ns (callEnvC d L a).locals n)∨∃c,nh (callEnvC d L a) sl i=.cell c:=λi h=>by
 cases e:sl[i]? with
 |none=>exact absurd (ir e) h
 |some n=>exact fM H e (λc _ _ _ e _=>.inr ⟨c,e⟩) λ_ e=>.inl ⟨n,e⟩
theorem E0(H:At d L)(D:sl.Nodup):∀i j,nh (callEnvC d L a) sl i=nh (callEnvC d L a) sl j→nh (callEnvC d L a) sl i≠.cell 910→i=j:=λi j h N=>by
 cases e:sl[i]? with
 |none=>exact absurd (ir e) N
 |some n=>
  cases E:sl[j]? with
  |none=>exact absurd (h.trans (ir E)) N
  |some Y=>
   have:=fM H e
    (λc k O m q _=>fM H E (λC k' S m' Q _=>name_of_addr H.apart m (fK.cell.inj (q.symm.trans (h.trans Q))▸m')) λ_ Q=>nomatch q.symm.trans (h.trans Q))
    λk q=>fM H E (λC k' S m' Q _=>nomatch q.symm.trans (h.trans Q)) λ_ Q=>(fK.ns.inj (q.symm.trans (h.trans Q))).2
   exact Ah D e (this▸E)
theorem AG{n i:Nat}{S:Mine.Internal.S}(e:(MU m n)[i]? =some S):∃v,S=.j v∧(m++replicate n V.none)[i]? =some v:=by
 delta MU at e;rw[getElem?_map]at e;exact(Option.map_eq_some_iff.mp e).imp λv q=>⟨q.2.symm,q.1⟩
theorem CE(r:cW w h W v xs)(n):cW w h W (v++replicate n V.none) (xs++replicate n Value.none):=
 cM.append r (Nat.rec .nil (λ_=>.cons .none) n)
theorem zV(r:qH w h W t args xs){C:Prop}(f:∀n,(xs++List.replicate n Value.none).length=args.length→
 (∀(i:Nat)S,args[i]? =some S→∃v,(xs++List.replicate n Value.none)[i]? =some v∧a6 w h W t S v∧(i=0∨∃j,S=.j j))→C):C:=by
 cases r with
 | @all s xs n V=>
  have R:=CE V n;exact f n (R.length.symm.trans (length_map (f:=Mine.Internal.S.j)).symm) λi S e=>(AG e).elim λv q=>(R.get q.2).imp λx y=>⟨y.1,q.1▸y.2,.inr ⟨v,q.1⟩⟩
 | @hd a x s xs n na o V=>
  have R:=CE V n;refine f n (congrArg (·+1) (R.length.symm.trans (length_map (f:=Mine.Internal.S.j)).symm)) λi S e=> ?_;cases i with
  |zero=>cases e;exact⟨x,rfl,o,.inl rfl⟩
  |succ i=>exact(AG e).elim λv q=>(R.get q.2).imp λx y=>⟨y.1,q.1▸y.2,.inr ⟨v,q.1⟩⟩
theorem uk(h:o6 args xs=some x):0<args.length∧∃Y,xs=x::Y:=by
 cases args with
 |nil=>exact fN h
 |cons a as=>
  cases xs with
  |nil=>cases a<;>exact fN h
  |cons y Y=>cases a<;>first|exact⟨succ_pos _,Y,congrArg (·::Y) (Option.some.inj h)⟩|exact fN h
noncomputable abbrev Aw{C}{d}{L a}{sl}(H:At d L)(S:Me C sl d.scope)(g:d.globals=mainGlobals)(hb:d.builtins=builtinsNs)(f)(A)(u)(O:DG A (callEnvC d L a::f) C.lv u)(p:C.lv≤fn.top)(z:Option Value)(D:z=none∨C.Gu=true)
 (lm:C.lm=true→d.code=.ref 912∧(d.qualname++(".<locals>.":Str))++("<lambda>":Str)=kL):uo fn:=
 ⟨⟨C,callEnvC d L a,callEnvC d L a::f,nh (callEnvC d L a) sl,A,u,Iz H S g hb,O,p⟩,z,f,D,rfl,rfl,Ih H S,ED H,E0 H S.BM,lm⟩
theorem Lw(H:Call t)(l:p.1=0):(zu t p).1=0:=oD (C:=λp=>p.1=0) (fD H (.inl (l▸by decide))) id (λq=>absurd (l▸q) (by decide)) λq=>absurd l q
theorem K9(H:Call t)(l:p.1=1∨p.1=3):(zu t p).1=3:=oD (C:=λp=>p.1=3) (fD H (.inl (l.elim (λq=>q▸by decide) λq=>q▸by decide))) (λq=>absurd l (q▸by decide)) (λ_=>rfl) λ_ q=>absurd l q
theorem yx(H:Call t)(l:p.1=0∨p.1=4∨p.1=5):(zu t p).1=0∨(zu t p).1=5:=oD (C:=λp=>p.1=0∨p.1=5) (fD H (.inl (l.elim (λq=>q▸by decide) λq=>q.elim (λq=>q▸by decide) λq=>q▸by decide))) .inl (λq=>absurd q (l.elim (λq=>q▸by decide) λq=>q.elim (λq=>q▸by decide) λq=>q▸by decide)) λ_ _=>.inr rfl
theorem Om{t L:Nat}{p:fK}(h:(∃c,p=.cell c∧L<c)∨p=.ns L n):qI p (ig t L W p.I).1:=h.elim (λh=>h.elim λc q=>by
 rw[q.1];show qI _ (ig t L W c).1;rw[yC q.2];exact .inl (.inr (.inl rfl))) λq=>by
 rw[q];show qI _ (ig t L W L).1;rw[qd];exact .inr ⟨rfl,L,n,rfl⟩
theorem G2{os:OsState}{L:Addr}{sl:List Str}{s j:Shared}{args:List Mine.Internal.S}{vals:List Value}{mL:Str→Option Value}(B:bA w f s.heap W)(g:s.gens= #[])(o:s.os=os)(Q:s.heap.objs.size=L)(H:Call t)(X:InCall s L mL j)(k:env.scope.kind≠.module)(d:env.frame=some L)
 (u:args.length≤sl.length)(h8:sl.length≤800)(M:∀(i:Nat)S,args[i]? =some S→∃v,vals[i]? =some v∧a6 w s.heap W t S v∧(i=0∨∃J,S=.j J))
 (C:∀i,sl[i]? =none→p i=.cell 910)(D:∀(i:Nat)n,sl[i]? =some n→p i≠.cell 910∧((∃c,p i=.cell c∧L<c)∨p i=.ns L n)∧∃x,(p i).At j.heap x∧∀v,vals[i]? =some v→x=some v):
 St w os (env::f) p (args++List.replicate (sl.length-args.length) .y) j (ig t L W):=by
 have E:∀{b o},s.heap.get? b=some o→ig t L W b=zu t (W b):=λe=>gJ (Q▸Heap.lt_size e);have K:Kp s.heap W j.heap (ig t L W):=λb o e l=>⟨X.keep b o e,E e▸Lw H l⟩;have P:Mv s.heap W t j.heap (ig t L W) 10:=λb o e l=>⟨X.keep b o e,(E e).trans (LP l)⟩;have len:(args++List.replicate (sl.length-args.length) Mine.Internal.S.y).length=sl.length:=by rw[List.length_append,List.length_replicate];exact Nat.add_sub_cancel' u
 have V:=X.same.elim λh q=>q.elim λtk es=>(⟨es▸g,es▸o⟩:j.gens= #[]∧j.os=os);refine⟨V.1,V.2,λb ob e n=>have z:=B.base b ob e n;K b ob z.1 z.2,.inl ⟨B.iZ.2.elim λY e=>E e▸yx H B.iZ.1,B.iZ.2.imp λY e=>X.keep _ _ e⟩,len.symm▸h8,
  λi=>len.symm▸⟨λI=>(D i _ (List.getElem?_eq_getElem I)).1,λq=>Nat.lt_of_not_le λI=>q (C i (List.getElem?_eq_none I))⟩,λi T e=> ?_,λi I=>Om (D i _ (List.getElem?_eq_getElem (len▸I))).2.1,λF Z=> ?_,_,f,L,mL,rfl,d,X.ns,congrArg Prod.fst qd⟩
 ·refine(D i _ (List.getElem?_eq_getElem (len▸(List.getElem?_eq_some_iff.mp e).1))).2.2.imp λx q=>⟨q.1,?_⟩
  rcases Nat.lt_or_ge i args.length with I|I
  ·rw[List.getElem?_append_left I]at e
   exact(M i T e).elim λv y=>.inr ⟨v,q.2 v y.1,y.2.2.elim (λz=>by subst z;exact y.2.1.dh K P) λz=>z.elim λJ z=>by
    have r:=y.2.1;subst z;exact VR.step K r⟩
  ·rw[List.getElem?_append_right I]at e
   exact .inl (List.eq_of_mem_replicate (List.mem_of_getElem? e))
 ·rcases List.mem_cons.mp Z with rfl|Z
  ·exact⟨k,L,mL,d,X.ns,.inl (congrArg Prod.fst qd)⟩
  ·have y:=B.frames F Z
   exact⟨y.1,y.2.imp λN y=>y.imp λm y=>⟨y.1,y.2.1.keeps X.keep,.inr (y.2.1.elim λob q=>q.elim λ_ q=>q.elim λ_ q=>E q.1▸K9 H y.2.2)⟩⟩
noncomputable def ML(P:Params):List DictEntry:=Aq ((Hd.bD P).get 2)
noncomputable def Q2(P:Params):Obj:=((Hd.bD P).get 2).getD default
theorem Hw(P):(Hd.bD P).get 2=some {Q2 P with data:=.dict (ML P).toArray (H4 ((Hd.bD P).get 2))}:=by kernel_rfl
theorem xG(P):uz (ML P)=true:=by kernel_rfl
theorem Hz(P):aY (ofString "sys.recursionlimit") (ML P)=none:=by kernel_rfl
structure AQ(w:World)(fn:hW)(f:Nat)(ps sl:List Str)(cf:Cf)(fd:FuncData)(body:List Stmt):Prop where
 obj:∃o,(Hd.bD w.params).get (fn.g f).I=some o∧alive o=some o∧(fn.g f).I<914∧(fn.g f).I≠910∧o.data=.func fd
 body:fd.body=.stmts body
 IX:fd.closure=[]
 Ms:fd.code≠.ref 912
 lm:cf.lm=false
 Rx:fd.globals=mainGlobals
 blt:fd.builtins=builtinsNs
 co:fd.scope.isCoroutine=false
 LY:fd.scope.isGenerator=false
 sc:Me cf sl fd.scope
 code:∃c oc vs tk,fd.code=.ref c∧(Hd.bD w.params).get c=some oc∧alive oc=some oc∧c<914∧c≠910∧oc.data=.fields vs∧vs[1]? =some (.str fd.qualname tk)
 Q7:ps.Nodup
 pre:∀(i:Nat)n,ps[i]? =some n→sl[i]? =some n
 len:ps.length≤sl.length
 IV:∀n∈ps,fd.scope.names.lookup n=some .local∨fd.scope.names.lookup n=some .cell
 bind:∀(s:Shared)(fs:List Env)(W:cy)(xs:List Value)(n:Nat),bA w fs s.heap W→(fn.g f).tS≤xs.length→xs.length+n=ps.length→BindsTo s fd ⟨xs,[]⟩ (ps.zip (xs++List.replicate n .none))
section
variable{w:World}{os:OsState}{F:Nat→Spec}{fn G:hW}
theorem bA.obj(B:bA w fs h W){a:Addr}(ha:a<914)(n:a≠910)(g:(Hd.bD w.params).get a=some o)(al:alive o=some o):h.get? a=some o:=(B.base a o (lX ha g al) n).1
theorem bA.k9(B:bA w fs h W):h.NoLimit:=
 ⟨λn=>aY n (ML w.params),⟨_,_,_,B.obj (by decide) (by decide) (Hw w.params) rfl,rfl,cL (xG _),λn=>iT (cL (xG _))⟩,Hz _⟩
theorem rg:∀{m},(∀v,(n,v)∉l)→bindL k l m n=m n∧bindC k l m n=m n:=by
 induction l with
 |nil=>exactλ_=>⟨rfl,rfl⟩
 |cons p l I=>
  intro m h;have ne:n≠p.1:=λe=>h p.2 (e▸.head _);have H:=λv V=>h v (.tail _ V);show bindL k l (if k p.1=some .local thenλy=>if y=p.1 then some p.2 else m y else m) n=_∧bindC k l (if k p.1=some .local then m elseλy=>if y=p.1 then some p.2 else m y) n=_
  by_cases q:k p.1=some .local
  ·rw[if_pos q,if_pos q];exact⟨(I H).1.trans (if_neg ne),(I H).2⟩
  ·rw[if_neg q,if_neg q];exact⟨(I H).1,(I H).2.trans (if_neg ne)⟩
theorem iY:∀{m m'},(l.map (·.1)).Nodup→(n,v)∈l→(k n=some .local→bindL k l m n=some v)∧(k n≠some .local→bindC k l m' n=some v):=by
 induction l with
 |nil=>exactλ_ h=>nomatch h
 |cons p l I=>
  intro m m' N h;have N:=nodup_cons.mp N;rcases mem_cons.mp h with e|h
  ·have E:=congrArg Prod.fst e
   have H:∀v,(n,v)∉l:=λv V=>N.1 (mem_map.mpr ⟨_,V,E⟩);have ev:=congrArg (λp=>some p.2) e;exact⟨λq=>(rg H).1.trans ((congrFun (if_pos (E▸q)) n).trans ((if_pos E).trans ev.symm)),λq=>(rg H).2.trans ((congrFun (if_neg (E▸q)) n).trans ((if_pos E).trans ev.symm))⟩
  ·exact⟨λq=>(I (m':=m') N.2 h).1 q,λq=>(I (m:=m) N.2 h).2 q⟩
theorem Eg{Y U:Type}{a:Y}{b:U}{l:List Y}:∀{m}{i:Nat},l[i]? =some a→m[i]? =some b→(a,b)∈l.zip m:=by
 induction l with
 |nil=>exactλh=>nomatch h
 |cons x l I=>
  intro m i h1 h2;cases m with
  |nil=>cases h2
  |cons y m=>cases i with
   |zero=>cases h1;cases h2;exact .head _
   |succ i=>exact .tail _ (I h1 h2)
theorem oQ{as:List V}:∀{ρ},ba (as.map Mine.Internal.S.j) ρ=[]:=by
 induction as with
 |nil=>intro ρ;cases ρ<;>rfl
 |cons v as I=>intro ρ;cases ρ with
  |nil=>rfl
  |cons S ρ=>exact I
theorem EE(r:qH w h W t args xs)(z:∀x,o6 args xs=some x→∀S,ρ'[0]? =some S→S=.y∨a6 w h' W' 10 S x)(p:Kp h' W' h' C)(M:Mv h' W' 10 h' C t):lB w h' C t (ba args ρ') xs:=by
 have vP:∀{S T x xs},S=.y∨a6 w h' W' 10 S x→T=[]→lB w h' C t (S::T) (x::xs):=λr e=>e▸.vP (r.elim (λe=>e▸trivial) λr=>r.dh p M);cases r with
 |all _=>exact oQ▸.no
 | @hd a x V xs n na R v=>
  cases ρ' with
  |nil=>cases a<;>exact .no
  |cons S ρ=>cases a<;>first|exact vP (z x rfl S rfl) oQ|exact(oQ)▸lB.no
theorem As(C:gj w os O fn b){c:uo fn}{z:dt w os c}(U:Al fn.g b c.cf body=true)(L:j3 b≤c.u){s:Shared}{K:Rv→List Mine.Internal.S→Prop}{R:Result→Shared→Prop}
 (B:bA w j s.heap W)(H:Call t)(p:∀b o,s.heap.get? b=some o→z.s.heap.get? b=some o)(D:z.W=ig t s.heap.objs.size W)(J:c.fs=c.env::j)(M:c.z=o6 args xs)(Y:qH w s.heap W t args xs)
 (g:ex O b z.ρ (λρ=>K (.j .none) (ba args ρ)) (λ_=>False) (λr ρ=>K r (ba args ρ)) X)(I:∀r ss d W' v,K r ss→d.gens= #[]→d.os=os→KC t s.heap W d.heap W'→a6 w d.heap W' 2 r.s v→lB w d.heap W' t ss xs→R (.ok (.ret v)) d)
 (KX:∀m a d,X m→XS os j s.heap W a m d→R (.error (.ref a)) d):wpAny (model PP w) c.A (execs (uE fn.g b body) c.env) (λf d=>R (.ok (.ret (match f with|.ret v=>v|_=>.none))) d) (λe d=>wpAny (model PP w) c.A (leaving c.env e) (λ_ Q=>R (.error e) Q) (λi Q=>R (.error i) Q) d) z.s:=
 have a9:∀r(Z:dt w os c)v,K r (ba args Z.ρ)→qP z Z→a6 w Z.s.heap Z.W 2 r.s v→R (.ok (.ret v)) Z.s:=λr Z v h k o=>
  have q:=gF B rfl H p (D▸k:KT z.s.heap (ig t s.heap.objs.size W) Z.s.heap Z.W)
  I r _ Z.s _ v h Z.S.gens Z.S.os q.1 (o.dh q.2.1 q.2.2.1) (EE Y (λx e S T=>(Z.S.H.slots 0 S T).elim λy P=>P.2.imp id λu=>u.elim λN u=>Option.some.inj (((Z.zero x (M.trans e)).2.qF P.1).trans u.1)▸u.2) q.2.1 q.2.2.2)
 C c z body _ _ _ X _ _ U L g ⟨λZ h k=>a9 _ Z _ h k .none,λ_ h=>h.elim,a9⟩ λm a l V A=>ur (E:=λe s=>R (.error e) s) z.S.H c.hd c.hA.frames c.fr V A λm a d V x=>KX m a d V (XT.P6 (env:=c.env) B rfl H p (by rw[←J,←D];exact x))
theorem Dn{p:Nat→fK}{sl:List Str}{L:Addr}{P:Nat→Prop}(j:∀(i:Nat)n,sl[i]? =some n→p i≠.cell 910∧((∃c,p i=.cell c∧L<c)∨p i=.ns L n)∧P i){i:Nat}{c:Addr}(H:i<sl.length)(e:p i=.cell c):(ig t L W c).1=4:=
 (j i _ (getElem?_eq_getElem H)).2.1.elim (λh=>h.elim λC q=>fK.cell.inj (q.1.symm.trans e)▸congrArg Prod.fst (yC q.2)) λq=>nomatch q.symm.trans e
theorem uM(Y:AQ w fn f ps sl C d (uE G.g b body))(O:Al G.g b C body=true)(H:C.lv=f)(p:C.lv≤G.top)(U:j3 b≤u)(I:u≤40)
 (M:∀args K X,F f args K X→args.length=ps.length∧(C.Gu=false→∀xs,o6 args xs=none)∧wb Q sl.length b args K X)(j:gj w os Q G b):wF w os F fn f:=λS A s W t args xs K X R Z RB T g o B a RC KR KX=>zV a λn L V=>by
 obtain⟨N,RD,hw⟩:=M args K X RC;obtain⟨ob,g1,g2,g3,g4,g5⟩:=Y.obj;obtain⟨c,oc,RE,tk,c1,c2,c3,c4,c5,c6,c7⟩:=Y.code;refine codeAny_call_function (Nat.lt_trans (Nat.lt_of_le_of_lt (Nat.le_trans (Nat.le_add_right _ _) (Nat.le_add_right _ 2)) Z.depth) (by decide)) (B.obj g3 g4 g1 g2) g5 Y.co Y.LY Y.body ⟨c,oc,RE,tk,c1,B.obj c4 c5 c2 c3,c6,c7⟩ (Y.bind s S W xs n B RB (by rw[←N,←L,List.length_append,length_replicate]) _ _ _ _ ?_);rw[Y.IX];have r:∀x,o6 args xs=some x→(xs++List.replicate n Value.none)[0]? =some x:=λx e=>(uk e).2.elim λys q=>by rw[q];rfl
 generalize xs++replicate n Value.none=vals at L V r;refine wpAny_newFunctionEnv_cells Y.sc.kind (λx hx=>(Y.IV x.1 (of_mem_zip hx).1).imp id λq=>⟨q,(jf q).elim λc P=>by rw[P];rfl⟩) λenv he RA x=> ?_;subst he;refine⟨B.k9.keeps x.toInCall.keep,codeAny_func ?_⟩;have D:At d s.heap.objs.size:=⟨B.iZ.2.elim λvs e=>Heap.lt_size e,x.apart,x.above⟩;have nd:=(map_fst_zip (Nat.le_of_eq (N.symm.trans L.symm))).symm▸Y.Q7;have E:∀{i:Nat}{n v},sl[i]? =some n→vals[i]? =some v→(n,v)∈ps.zip vals:=λ{i n v}h1 h2=>by
  have e:=getElem?_eq_getElem (N▸L▸(List.getElem?_eq_some_iff.mp h2).1);exact Eg (e.trans ((Y.pre i _ e).symm.trans h1)) h2
 have J:∀(i:Nat)n,sl[i]? =some n→nh (callEnvC d s.heap.objs.size (fn.g f).I) sl i≠.cell 910∧((∃c,nh (callEnvC d s.heap.objs.size (fn.g f).I) sl i=.cell c∧s.heap.objs.size<c)∨nh (callEnvC d s.heap.objs.size (fn.g f).I) sl i=.ns s.heap.objs.size n)∧∃x,(nh (callEnvC d s.heap.objs.size (fn.g f).I) sl i).At RA.heap x∧∀v,vals[i]? =some v→x=some v:=λi n h=>
  ⟨GN D h,fM D h (λc k P _ e l=>⟨.inl ⟨c,e,l⟩,_,by rw[e];exact x.cell n c P,λv V=>(iY (m:=λ_=>none) nd (E h V)).2 λq=>nomatch k.symm.trans (q:d.scope.names.lookup n=some .local)⟩)
   λk e=>⟨.inr e,_,by rw[e];exact⟨_,x.toInCall.ns,rfl⟩,λv V=>(iY (m':=λ_=>none) nd (E h V)).1 ((Y.IV n (of_mem_zip (E h V)).1).resolve_right k)⟩⟩
 have le:=N▸Y.len;have ln:(args++replicate (sl.length-args.length) Mine.Internal.S.y).length=sl.length:=by rw[List.length_append,length_replicate];exact Nat.add_sub_cancel' le
 have RF:=G2 B g o rfl T x.toInCall (by rw[show(callEnvC d s.heap.objs.size (fn.g f).I).scope=d.scope from rfl,Y.sc.kind];decide) rfl le Y.sc.len V (λi=>ir) J;have RG:DG (A.deeper (callEnvC d s.heap.objs.size (fn.g f).I)) (callEnvC d s.heap.objs.size (fn.g f).I::S) C.lv u:=
  ⟨by show A.frames.map _=_;rw[Z.frames];rfl,Z.handled,by have:=Z.depth;rw[H];exact zl 0x194505187624377c5ff10c7afcb rfl this,by have:=Z.units;rw[H];exact zl 0x216e84084a54a0fe240ffce502f38030957f3d45d2e7d01d5f rfl I this⟩
 exact As j (c:=Aw D Y.sc Y.Rx Y.blt S _ u RG p (o6 args xs) (by cases q:C.Gu with|true=>exact .inr rfl|false=>exact .inl (RD q xs)) λq=>nomatch Y.lm.symm.trans q)
  (z:=⟨⟨_,RA,_,RF⟩,λi c hi e=>Dn J (ln▸hi) e,λv e=>have h0:=Nat.lt_of_lt_of_le (uk e).1 le;⟨ln.symm▸h0,(J 0 _ (List.getElem?_eq_getElem h0)).2.2.elim λy q=>q.2 v (r v e)▸q.1⟩,λq=>absurd q Y.Ms⟩) O U B T x.toInCall.keep rfl rfl rfl a hw KR KX
end
section
variable{w:World}{A:Around}{R:Result→Shared→Prop}{h:Heap}{g:Array GenState}{d:Drawn}{t:Nat}{os:OsState}{M:Model}{E:Value→Shared→Prop}
variable{nm q:Str}{C N:Addr}{bs bm P:List Value}{hdct:Bool}{sn:List Str}{sub:List Value}{ab:Bool}{col:Option Bool}{dd:Option Addr}{k0 k1 k2 k3 k5:Option Value}{B newId I:String}
theorem Mk(F:ExcBaseFacts B newId I P)(T:OwnTail h P bm)(H:h.get? C=some (excClassObj nm q C N bs bm hdct sn sub ab col dd k0 k1 k2 k3 k5 newId))
 (Q:∀h' e,Heap.MadeExcOf h h' e (.ref C) m→R (.ok (.ret (.ref e))) ⟨h',g,d,t,os⟩)(D:m.length≤sizeLine):
 codeAny (model PP w) A (.builtin newId ⟨.ref C::m,[]⟩) R ⟨h,g,d,t,os⟩:=
 codeAny_exc_new_subT F T H (Q _ _ ⟨λb o e=>get?_push_of_some _ (get?_push_of_some _ e),get?_none_of_le (le_succ _),h.objs.size,get?_push_at (size_push ..).symm rfl,get?_none_of_le (Nat.le_refl _),get?_push_of_some _ (get?_push_at rfl rfl)⟩) D
theorem H2(F:ExcBaseFacts B newId I P)(T:OwnTail h P bm){K:Frag}(X:K.In h)
 (H:h.get? C=some (excClassObj nm q C N bs bm hdct sn sub ab col dd k0 k1 k2 k3 k5 newId))(i:findIn K (.ref C) "__init__"=some (some (.ref f)))(j:typeIn K (.ref f)=some (.type "function"))
 (O:∀h' e,Heap.MadeExcOf h h' e (.ref C) m→
  wpAny (model PP w) (A.under (.builtin "type.__call__" ⟨.ref C::m,[]⟩)) (call (.ref f) (.ref e::m)) (λr Y=>r=.none∧Q (.ref e) Y) E ⟨h',g,d,t,os⟩)(D:m.length≤sizeLine):
 codeAny (model PP w) A (.call (.ref C) ⟨m,[]⟩) (Bj Q E) ⟨h,g,d,t,os⟩:=by
 have f1:=tc_lookup;have p:=tc_bind (.ref C);have z:(⟨h,g,d,t,os⟩:Shared).TypeIs (.ref C) "type":=⟨_,H,rfl⟩;apply codeAny_of_tree;repeat(any_goals(first|assumption|with_reducible refine wpAny_loadPart_at H ?_|wp_step))
 refine⟨rfl,?_⟩;refine codeAny_call_builtin_at (Code.quiet_builtin _ (by decide+kernel)) entry_typeCall (wpAny_check_type_call_sub H ?_);repeat(first|with_reducible refine wpAny_loadPart_at H ?_|with_reducible refine wpAny_madeBy_exc H ?_|wp_step)
 refine codeAny_call_builtin_code (Code.quiet_builtin _ F.quiet) (wpAny_check_new_subT F T H ?_);refine Mk F T H (λW e S=> ?_) D;obtain⟨_,Z,_⟩:=id S.there;have k2:=S.keeps;have L:(Value.ref C::bm).contains (.ref C)=true:=by simp
 have u:Looks (model PP w) W (typeOf (.ref e)) (.ref C):=(Looks.ld Z).andThen .now;have V:Looks (model PP w) W (isSubtype (.ref C) (.ref C)) true:=λA Q E s k q=>by
  obtain⟨l,g,d,tk,os⟩:=s;apply wpAny_isSubtype_exc (k _ _ (k2 _ _ H));rw[L];exact q
 have G:=(looks_findIn (M:=model PP w) X i).keeps k2;have b1:=(bind_fn (M:=model PP w) X (.ref e) j).keeps k2;have J:Looks (model PP w) W (isInstance (.ref e) (.ref C)) true:=u.andThen V;refine wpAny_bind (J.at ?_);rw[if_neg (by decide)];delta callSpecial? specialOf;refine wpAny_bind (wpAny_holding (wpAny_bind (wpAny_bind (u.at (G.at (wpAny_holding (wpAny_bind (b1.at ?_))))))));refine(wpAny_bind (wpAny_mono (O _ e S) (λr Y y=> ?_) λ_ _ x=>x));obtain⟨rfl,U⟩:=y
 wp_walk
 exact U
end
noncomputable def vy(P:Params):Frag:=[(291,Hd.Be P),(290,Hd.Lk P),(271,Hd.Ie [.ref 291] P),(270,Hd.E9 P),(288,Hd.ob 288 P)]
theorem Iw(P):lL P (vy P):=⟨⟨rfl,rfl⟩,⟨by kernel_rfl,by kernel_rfl⟩,⟨rfl,rfl⟩,⟨by kernel_rfl,by kernel_rfl⟩,⟨rfl,rfl⟩,⟨by kernel_rfl,by kernel_rfl⟩,⟨rfl,rfl⟩,⟨by kernel_rfl,by kernel_rfl⟩,⟨rfl,rfl⟩,⟨by kernel_rfl,by kernel_rfl⟩,trivial⟩
theorem uf(P):findIn (vy P) (.ref 291) "__init__"=some (some (.ref 288))∧typeIn (vy P) (.ref 288)=some (.type "function"):=⟨by kernel_rfl,by kernel_rfl⟩
theorem Iy(P):findIn (vy P) (.ref 291) "__setattr__"=some (some (.builtin "object.__setattr__"))∧takerIn (vy P) 291 (ofString "message")=some none:=⟨by kernel_rfl,by kernel_rfl⟩
theorem DM(P):∃C,clsIn (vy P) 291=some C∧C.hasDict=true∧C.mro=[.ref 291,.ref 271,.type "Exception",.type "BaseException",.type "object"]:=⟨_,rfl,rfl,rfl⟩
theorem vm(P):findIn (vy P) (.ref 291) (ofString "message")=some none:=by kernel_rfl
theorem zG{E:Value→Shared→Prop}(X:(vy w.params).In s.heap)(I:InstAt s.heap a O 291 none)(hd:O.dict=none)(H:O.data=.fields Y)
 (h:∀h' tk,h'.get? a=some {O with dict:=some s.heap.objs.size}→(∃m t,h'.Ns s.heap.objs.size m∧m (Str.ofString "message")=some v∧t=())→(∀b o,b≠a→s.heap.get? b=some o→h'.get? b=some o)→Q () {s with heap:=h',toks:=tk}):
 wpAny (model PP w) A (setAttr (.ref a) (ofString "message") v) Q E s:=by
 apply set_plain X I (Iy _).1;obtain⟨C,c,P,M⟩:=DM w.params;have W:Looks (model PP w) s.heap (mroOf (.ref 291)) C.mro:=(looks_clsIn X c).andThen .now;have S:=PySem.F.store_object;refine codeAny_call_builtin S.slot.plain S.entry (@check_slot (model PP w) _ _ _ "object.__setattr__" "object" "__setattr__" (.ref a) [.str (ofString "message") s.toks,v] [] _ S.kind S.split (I.type.andThen (looks_mroIn X (by unfold mroIn;rw[c,Option.bind_some,if_neg (by rw[M];decide),M];rfl))) (S.args (.ref a) (.str (ofString "message") s.toks) v) ?_);rw[osa_eq,refuse_eq];refine wpAny_bind (wpAny_bind (I.type.at (wpAny_bind (W.at ?_))));rw[M,refuseLoop_ref,refuseLoop_ref,PySem.F.store_Exception.passes];refine wpAny_pure (wpAny_bind (I.type.at (wpAny_bind ((looks_findIn X (vm _)).at (wpAny_bind (wpAny_pure ?_))))));dsimp only;obtain⟨x,L,f,-⟩:=I;obtain⟨V,i,Z,J⟩:=O;dsimp only at L hd H;subst L hd H;refine wpAny_bind (wpAny_pure (wpAny_bind (wpAny_bind (wpAny_loadPart x (wpAny_bind ((looks_clsIn X c).at ?_))))));rw[P];have g:=get?_push_of_some {cls:=.type "dict",data:=.dict #[]} x;have d:(s.heap.push {cls:=.type "dict",data:=.dict #[]}).get? s.heap.objs.size=some (tG [] 0):=get?_push_size _ rfl;have ne:a≠s.heap.objs.size:=λz=>by rw[z,bw]at x;cases x
 refine wpAny_bind (wpAny_alloc (wpAny_bind (wpAny_update g ?_)));have G:=(get?_update_other (s.heap.push {cls:=.type "dict",data:=.dict #[]}) (λo=>{o with dict:=some s.heap.objs.size}) ne).trans d;have U:=get?_update_self (λo=>{o with dict:=some s.heap.objs.size}) g rfl;have k:∀b o,b≠a→s.heap.get? b=some o→((s.heap.push {cls:=.type "dict",data:=.dict #[]}).update a λo=>{o with dict:=some s.heap.objs.size}).get? b=some o:=λb o N e=>(get?_update_other _ _ (Ne.symm N)).trans (get?_push_of_some _ e);have fr:∀b o,s.heap.get? b=some o→s.heap.objs.size≠b:=λb o e z=>by rw[←z,bw]at e;cases e
 generalize((s.heap.push {cls:=.type "dict",data:=.dict #[]}).update a λo=>{o with dict:=some s.heap.objs.size})=h1 at G U k⊢;refine wpAny_pure ?_;refine wpAny_bind (wpAny_pure (wpAny_bind ?_));unfold nsSet;obtain⟨y,n,p1,p2,p3,p4⟩:=qc me;refine wpAny_bind (wpAny_bind (wpAny_askSetting (wpAny_pure (wpAny_bind (wpAny_mkText (wpAny_bind (wpAny_loadPart G ?_)))))));dsimp only;have r:(!(#[]:Array DictEntry).any (·.key.isStr (ofString "message"))&&(#[]:Array DictEntry).any (·.refKey))=false:=by simp
 rw[aRefKeyMayBeTheName_at,r];have u:=get?_update_self (Obj.putName (ofString "message") (PyData.keyHash w.params (ofString "message")) (.str (ofString "message") (s.toks+1)) v) G (by rw[p1];rfl);rw[p1]at u;apply wpAny_updatePart G;refine wpAny_bind (wpAny_lookBehind u (pastItsLine_dict (by rw[size_toArray,sizeLine_eq];rcases p3 with p3|p3<;>simp at p3<;>(try exact zl 0x1015c80010cbec4385 rfl p3.1)<;>(try(rw[p3.1];lia))<;>simp[p3])) ?_);refine wpAny_pure (h _ _ ((get?_update_other _ _ (Ne.symm ne)).trans U) ⟨nsFind y.toArray,(),⟨_,_,n,u,rfl,p2,λ_=>rfl⟩,by rw[p4,if_pos rfl],rfl⟩ λb o N e=> ?_);exact(get?_update_other _ _ (fr b o e)).trans (k b o N e)
theorem Em{E:Value→Shared→Prop}{sub:List Value}(H:bm.contains (.type "BaseException")=true)(Y:A.handled=none)
 (h:wpAny M A x (λv j=>∃e t d,v=.ref e∧j.heap.get? C=some (excClassObj nm q C N bs bm hdct sn sub ab col dd k0 k1 k2 k3 k5 newId)∧
  j.heap.get? e=some {cls:=.ref C,dict:=some d,data:=.fields #[.ref t,.none,.none,.none,.bool false,.none]}∧E (.ref e) j) E s):
 wpAny M A (raiseStmt env (some x) none) Q E s:=by
 have B:(Value.ref C::bm).contains (.type "BaseException")=true:=by rw[contains_cons,H,Bool.or_true]
 unfold raiseStmt;refine wpAny_bind (wpAny_mono h (λv j U=> ?_) λ_ _ x=>x);obtain⟨e,t,D,rfl,W,Z,m⟩:=U;obtain⟨p,g,d,tk,os⟩:=j;repeat(first|with_reducible refine wpAny_loadPart_at Z ?_|with_reducible refine wpAny_loadPart_at W ?_|(with_reducible refine wpAny_isSubtype_exc W ?_;rw[B])|wp_step)
 exact wpAny_raiseNew_none Y m
noncomputable def kO:Option Obj→FuncData
|some ⟨_,_,.func d,_⟩=>d
|_=>default
noncomputable def qs(d:FuncData):List Stmt:=match d.body with
 |.stmts l=>l
 |_=>[]
theorem JU(P):(Hd.bD P).get 288=some ⟨.type "function",none,.func (kO ((Hd.bD P).get 288)),#[]⟩:=by kernel_rfl
theorem A9(P):(kO ((Hd.bD P).get 288)).scope.names=[(ofString "self",.local),(ofString "message",.local)]:=by kernel_rfl
theorem KO(P)(a b):bindArgs (kO ((Hd.bD P).get 288)) ⟨[a,b],[]⟩=pure [(ofString "self",a),(ofString "message",b)]:=by kernel_rfl
theorem D7(P):∃p1 p2 p3 p4,(kO ((Hd.bD P).get 288)).body=.stmts [.Assign [.Attribute (.Name (ofString "self") p1) (ofString "message") p2] (.Name (ofString "message") p3) p4]:=
 ⟨(kd (st (DZ (qs (kO ((Hd.bD P).get 288))))) 0).pos,(st (DZ (qs (kO ((Hd.bD P).get 288))))).pos,(sv (DZ (qs (kO ((Hd.bD P).get 288))))).pos,(DZ (qs (kO ((Hd.bD P).get 288)))).pos,by kernel_rfl⟩
theorem LV(P):(kO ((Hd.bD P).get 288)).scope.isCoroutine=false∧(kO ((Hd.bD P).get 288)).scope.isGenerator=false∧(kO ((Hd.bD P).get 288)).scope.kind=.function:=⟨by kernel_rfl,by kernel_rfl,by kernel_rfl⟩
noncomputable def jk:Option Obj→Array Value
|some ⟨_,_,.fields v,_⟩=>v
|_=> #[]
theorem Lm(P):(kO ((Hd.bD P).get 288)).code=.ref 287:=by kernel_rfl
theorem LC(P):(Hd.bD P).get 287=some ⟨.type "code",none,.fields (jk ((Hd.bD P).get 287)),#[]⟩:=by kernel_rfl
theorem sD(h:o.bind gU=some q):∃t,o=some (.str q t):=
 (Option.bind_eq_some_iff.mp h).elim λv e=>(qY (by rw[e.2];rfl)).elim λn y=>y.elim λt y=>⟨t,by
  have E:=e.2;rw[y]at E;rw[e.1,y,Option.some.inj E]⟩
theorem PK(P):∃t,(jk ((Hd.bD P).get 287))[1]? =some (.str (kO ((Hd.bD P).get 288)).qualname t):=sD (by kernel_rfl)
theorem ug(B:bA w f h W):∀a o,(vy w.params).lookup a=some o→h.get? a=some o∧(W a).1=0:=by
 have:∀{K},lL w.params K→∀a o,K.lookup a=some o→h.get? a=some o∧(W a).1=0:=by
  intro K;induction K with
  |nil=>exactλ_ a o e=>nomatch e
  |cons p K I=>
   intro q a o e;rw[lookup_cons]at e;cases b:a==p.1 with
   |true=>
    rw[b]at e;cases e;cases beq_iff_eq.mp b;exact B.base _ _ (lX (le_of_ble_eq_true q.1.1) q.2.1.1 q.2.1.2) (λz=>by have h2:=q.1.2;rw[z]at h2;cases h2)
   |false=>rw[b]at e;exact I q.2.2 a o e
 exact this (Iw _)
theorem xg(B:bA w f h W):(vy w.params).In h:=λa o e=>(ug B a o e).1
theorem IA{E:Value→Shared→Prop}{a:Addr}{m:Value}(B:bA w f s.heap W)(H:A.depth<recursionLimit)(j:s.heap.get? a=some {cls:=.ref 291,data:=.fields v})
 (h:∀h' tk d,h'.get? a=some {cls:=.ref 291,dict:=some d,data:=.fields v}→s.heap.get? d=none→(∃M,h'.Ns d M∧M (Str.ofString "message")=some m)→(∀b o,b≠a→s.heap.get? b=some o→h'.get? b=some o)→Q .none {s with heap:=h',toks:=tk}):
 wpAny (model PP w) A (call (.ref 288) [.ref a,m]) Q E s:=by
 obtain⟨p1,p2,p3,p4,hb⟩:=D7 w.params;obtain⟨t,g⟩:=PK w.params;obtain⟨C,c2,c3⟩:=LV w.params;have G:=B.obj (a:=288) (by decide) (by decide) (JU w.params) rfl;have J:=B.obj (a:=287) (by decide) (by decide) (LC w.params) rfl;generalize D:kO ((Hd.bD w.params).get 288)=F at*;refine wpAny_call (codeAny_call_def H G rfl B.k9 ⟨287,_,_,t,D▸Lm _,J,rfl,g⟩ hb (.of_eq (D▸KO _ _ _)) ?_ ?_ (λR n K=> ?_) C c2 c3)
 ·intro x X
  rw[←D,A9]at X;simp only[mem_cons,List.not_mem_nil,or_false]at X;rcases X with rfl|rfl<;>(intro q;cases q)
 ·intro x X
  rw[←D,A9];simp only[mem_cons,List.not_mem_nil,or_false]at X;rcases X with rfl|rfl
  ·show List.lookup (Str.ofString "self") [(Str.ofString "self",NameKind.local),(Str.ofString "message",NameKind.local)]=_;decide+kernel
  ·show List.lookup (Str.ofString "message") [(Str.ofString "self",NameKind.local),(Str.ofString "message",NameKind.local)]=_;decide+kernel
 ·have N:F.scope.names=[(ofString "self",.local),(ofString "message",.local)]:=D▸A9 _
  have k1:(callEnv F s.heap.objs.size 288).kindOf (ofString "message")=some .local:=by show F.scope.names.lookup _=_;rw[N];decide+kernel
  have k2:(callEnv F s.heap.objs.size 288).kindOf (ofString "self")=some .local:=by show F.scope.names.lookup _=_;rw[N];decide+kernel
  have Y:[(ofString "self",Value.ref a),(ofString "message",m)].reverse.lookup (ofString "message")=some m:=by
   show List.lookup (Str.ofString "message") [(Str.ofString "message",m),(Str.ofString "self",Value.ref a)]=_;rw[lookup_cons_self]
  have V:[(ofString "self",Value.ref a),(ofString "message",m)].reverse.lookup (ofString "self")=some (.ref a):=by
   show List.lookup (Str.ofString "self") [(Str.ofString "message",m),(Str.ofString "self",Value.ref a)]=_;rw[lookup_cons,show(ofString "self"==ofString "message")=false from by decide+kernel];dsimp only;rw[lookup_cons_self]
  refine wpAny_execs_cons (plainObj_wpAny_Assign_Attribute (wpAny_Name (wpAny_loadName_local c3 k1 n Y ?_) (by decide+kernel)) (bZ rfl));refine wpAny_Name (wpAny_loadName_local c3 k2 n V ?_) (by decide+kernel);refine zG (λb o e=>K b o (xg B b o e)) ⟨K _ _ j,rfl,rfl,trivial⟩ rfl rfl λh' tk g1⟨M,_,g2,g3,_⟩g4=>wpAny_execs_nil ?_;refine h h' tk _ g1 ?_ ⟨M,g2,g3⟩ λb o Z e=>g4 b o Z (K b o e);cases e:s.heap.get? R.objs.size with
  |none=>rfl
  |some o=>have z:=K _ _ e;rw[bw]at z;cases z
theorem oo(P):∃k0 k1 k2 k3 k5,Hd.Be P=excClassObj "Refusal" "Refusal" 291 290 [.ref 271] [.ref 271,.type "Exception",.type "BaseException",.type "object"] true [] [] false none none k0 k1 k2 k3 k5 "Exception.__new__":=⟨_,_,_,_,_,rfl⟩
theorem GL(P):dy P (ofString "Refusal") (.ref 291):=.inl (by kernel_rfl)
theorem KY(P):uz (Aq (some (Hd.E9 P)))=true:=by kernel_rfl
theorem PE(P):quietNames.all (λn=>(aY n (Aq (some (Hd.E9 P)))).isNone)=true:=by kernel_rfl
theorem xO(X:(vy P).In h):OwnTailQ h [.type "Exception",.type "BaseException",.type "object"] [.ref 271,.type "Exception",.type "BaseException",.type "object"]:=
 .own (X 271 _ rfl) ⟨_,_,_,X 270 _ rfl,rfl,cL (KY P),λ_=>iT (cL (KY P))⟩ (λn q=>Option.isNone_iff_eq_none.mp (all_eq_true.mp (PE P) n q)) .base
theorem Ki(P):(Hd.bD P).get 291=some (Hd.Be P):=by kernel_rfl
theorem Km{e:E}(h:Ls e=true):∃m,e=.M m:=yq h
theorem Cy{os:OsState}:bY w os F fn (.fR e):=λc z x W B R X Q r o u h K KX=>(Km (aL o)).elim λm M=>by
 have g:=aL (aR o);subst M;obtain⟨k0,k1,k2,k3,k5,U⟩:=oo w.params;have g1:=z.S.H.b.obj (by decide) (by decide) (Ki w.params) (by kernel_rfl);rw[U]at g1;show wpAny _ _ (exec (.Raise _ _ _) _) _ _ _;rw[arm_exec_Raise];refine wpAny_bind (wpAny_standAt ?_);refine Em (C:=291) (nm:="Refusal") (q:="Refusal") (N:=290) (bs:=[.ref 271]) (bm:=[.ref 271,.type "Exception",.type "BaseException",.type "object"]) (hdct:=true) (sn:=[]) (sub:=[]) (ab:=false) (col:=none) (dd:=none) (k0:=k0) (k1:=k1) (k2:=k2) (k3:=k3) (k5:=k5) (newId:="Exception.__new__") (by decide+kernel) c.hA.handled ?_;refine wpAny_bind (wpAny_Call_Name_kw (dx c.O z.S.H g (GL _) ?_));apply callAny (JA rfl);refine PyProof.Rows.spliced_more (wpAny_Constant_str (PyProof.Rows.spliced_none ⟨⟨.machine,.inr rfl,λP q=>wpAny_keeperOf_exc g1 q⟩,?_⟩)) (aE rfl);refine H2 PySem.F.excBase_Exception (xO (xg z.S.H.b)).tail (xg z.S.H.b) g1 (uf _).1 (uf _).2 (λh' e H=> ?_) (sizeLine_eq▸Nat.le_of_ble_eq_true rfl);obtain⟨t,Y,S,J⟩:=H.there;have B1:=(z.S.H.gr (.fU H.keeps) z.own.2 λ_ _ _=>rfl).b;refine IA B1 (Nat.lt_trans (Nat.succ_lt_succ (Nat.lt_of_le_of_lt (Nat.le_add_right _ _) c.hA.depth)) (by decide)) Y (λh2 tk d f1 y f j=>⟨rfl,?_⟩);have O:∀b o,z.s.heap.get? b=some o→b≠e:=λb o E q=>by rw[q,H.new]at E;cases E
 have k:=λb o E=>j b o (O b o E) (H.keeps b o E);refine wpAny_bind (wpAny_standAt (wpAny_pure ⟨e,t,d,rfl,k _ _ g1,f1,?_⟩));obtain⟨D,n,V⟩:=f;have G:Gr c.env.locals z.s.heap h2:=.fU k;exact KX m e _ h (.mk (T:=none) z.S.gens z.S.os (G.ke z.own.2 λ_ _ _=>rfl).fh (.mk f1 rfl rfl rfl rfl rfl n V λenv Z=>(z.S.H.frames env Z).imp id λq=>q.imp λL q=>q.imp λm q=>⟨q.1,q.2.1.keeps k⟩) (λb o E _=>⟨O b o E,λq=>nomatch q⟩) λ_ s E=>⟨O _ _ E,λq=>nomatch q⟩)
theorem HG(P):findIn (vy P) (.ref 291) "__getattribute__"=some (some (.builtin "BaseException.__getattribute__")):=by kernel_rfl
theorem Ez(P):findIn (vy P) (.ref 291) "__getattr__"=some none:=by kernel_rfl
theorem A2{E:Value→Shared→Prop}(X:(vy w.params).In s.heap)(H:s.heap.get? a=some O)(c:O.cls=.ref 291)(hd:O.dict=some d)(u:O.data=.fields C)
 (f:s.heap.Ns d D)(m:D (Str.ofString "message")=some v)(Y:handedIn v=true)(h:Q v {s with toks:=s.toks+1}):wpAny (model PP w) A (getAttr (.ref a) (ofString "message") J) Q E s:=by
 obtain⟨od,es,P,g2,d1,d2,d3⟩:=f;have I:InstAt s.heap a O 291 (some od):=⟨H,c,by unfold notCls;rw[u],hd▸g2⟩;have R:lookIn (ofString "message") od=some (some v):=by rw[qN d1 d2,d3,m]
 have F:findObj (vy w.params) 291 (some od) (ofString "message")=some (.value v):=findObj_own (by kernel_rfl) (vm _) rfl R;have L:=I.type (M:=model PP w);have y:=looks_findIn (M:=model PP w) X (HG _);have W:=looks_findIn (M:=model PP w) X (Ez _);have V:=looks_find (M:=model PP w) X I F;have K:(J&&onTheHeap (Value.builtin "BaseException.__getattribute__"))=false:=by cases J<;>rfl
 have S:(Value.builtin "BaseException.__getattribute__"==Value.builtin "object.__getattribute__")=false:=by decide+kernel
 have j:(onTheHeap (Value.ref 291)&&Value.builtin "BaseException.__getattribute__"==Value.builtin "object.__getattribute__")=false:=by rw[S];rfl
 obtain⟨p,g,dd,tk,os⟩:=s;obtain⟨_,_,_,_,_,o⟩:=oo w.params;have g1:p.get? 291=some _:=o▸X 291 (Hd.Be _) rfl;have t:∀(A:Around)(T:Tok){Q:Fin→Shared→Prop}{E:Value→Shared→Prop},Q (.done (.ret v)) ⟨p,g,dd,tk+1,os⟩→wpAny (model PP w) A (Builtin.«object.__getattribute__» ⟨[.ref a,.str (Str.ofString "message") T],[]⟩) Q E ⟨p,g,dd,tk+1,os⟩:=λA T Q E q=>by
  unfold Builtin.«object.__getattribute__»;refine wpAny_bind (wpAny_pure (wpAny_bind (wpAny_pure (wpAny_bind (L.at (wpAny_bind (V.at ?_)))))));exact wpAny_pure q
 unfold getAttr getAttrBy;refine wpAny_bind (wpAny_mkText (wpAny_holding (wpAny_bind (L.at (wpAny_bind (y.at ?_))))));dsimp only;rw[j];unfold getAttrByItsOwn hookBefore;refine wpAny_bind (W.at (wpAny_bind ?_));refine wpAny_attempt (wpAny_holding ?_);unfold callGetattribute;rw[K];unfold boundAndCalled;rw[(PySem.F.attrBase_Exception.ga.bind (.ref a))];refine wpAny_bind (wpAny_pure ?_);refine wpAny_call (codeAny_call_builtin PySem.F.attrBase_Exception.ga.plain PySem.F.entry_bexc_ga (wpAny_check_ga_own PySem.F.attrBase_Exception g1 (xO X) H c (t _ _ ?_)));show wpAny _ _ (handedOut v) _ _ _;rw[handedOut_of Y];exact wpAny_pure h
theorem F9(P):(Hd.bD P).get 908=some ⟨.type "function",none,.func (kO ((Hd.bD P).get 908)),#[]⟩:=by kernel_rfl
theorem JL(P):(kO ((Hd.bD P).get 908)).scope.names=[(ofString "ask",.local),(ofString "error",.local),(ofString "Refusal",.globalImplicit)]:=by kernel_rfl
theorem Kv(P)(a):bindArgs (kO ((Hd.bD P).get 908)) ⟨[a],[]⟩=pure [(ofString "ask",a)]:=by kernel_rfl
noncomputable def BI(P:Params):Stmt:=DZ (qs (kO ((Hd.bD P).get 908)))
noncomputable def Hn(P:Params):Stmt:=DZ (HN (BI P))
noncomputable def Hy(P:Params):Stmt:=DZ (P4 (BI P))
theorem DS(P):(kO ((Hd.bD P).get 908)).body=.stmts [.Try [.Return (some (.Call (.Name (ofString "ask") (kd (sv (Hn P)) 0).pos) [] [] (sv (Hn P)).pos)) (Hn P).pos] [.ExceptHandler (some (.Name (ofString "Refusal") (sv (BI P)).pos)) (some (ofString "error")) [.Return (some (.Attribute (.Name (ofString "error") (kd (sv (Hy P)) 0).pos) (ofString "message") (sv (Hy P)).pos)) (Hy P).pos] (st (BI P)).pos] [] [] (BI P).pos]:=by kernel_rfl
theorem KL(P):(kO ((Hd.bD P).get 908)).scope.isCoroutine=false∧(kO ((Hd.bD P).get 908)).scope.isGenerator=false∧(kO ((Hd.bD P).get 908)).scope.kind=.function:=⟨by kernel_rfl,by kernel_rfl,by kernel_rfl⟩
theorem J4(P):(kO ((Hd.bD P).get 908)).globals=mainGlobals∧(kO ((Hd.bD P).get 908)).builtins=builtinsNs:=⟨by kernel_rfl,by kernel_rfl⟩
theorem Kl(P):∃n,(kO ((Hd.bD P).get 908)).code=.ref n∧n<914∧n≠910∧(Hd.bD P).get n=some ⟨.type "code",none,.fields (jk ((Hd.bD P).get n)),#[]⟩∧∃t,(jk ((Hd.bD P).get n))[1]? =some (.str (kO ((Hd.bD P).get 908)).qualname t):=
 ⟨907,by kernel_rfl,by decide,by decide,by kernel_rfl,sD (by kernel_rfl)⟩
theorem F6(B:bA w f h W)(t:((W 910).1=0∨(W 910).1=5))(hd:∃env O L m,f=env::O∧env.frame=some L∧h.Ns L m∧(W L).1=1):aH w f (λ_=>.cell 910) [] h W:=
 ⟨B.base,.inl ⟨t,B.iZ.2⟩,zero_le _,λi=>⟨λh=>absurd h (not_lt_zero _),λh=>absurd rfl h⟩,λi S e=>(by cases i<;>cases e),λi h=>absurd h (not_lt_zero _),B.frames,hd⟩
theorem XT.GU{os:OsState}{fs:List Env}{h:Heap}{W:cy}{a:Addr}{m:Str}{s':Shared}(B:bA w fs h W)(t:(W 910).1=0∨(W 910).1=5):XT os fs h W a m s'→bA w fs s'.heap W
|.mk g o k f n tb=>⟨λb ob e n=>have z:=B.base b ob e n;⟨(k.ex b ob z.1 (.inl z.2)).1,z.2⟩,⟨B.iZ.1,B.iZ.2.imp λvs e=>(k.ex 910 _ e (t.imp id .inl)).1⟩,λenv he=>by
 cases f with
 |mk _ _ _ _ _ _ _ _ fr=>
 have y:=B.frames env he;have q:=fr env he;exact⟨y.1,y.2.imp λRA y=>q.2.elim λL' q=>q.elim λm2 q=>by
  obtain⟨m',y1,_,l⟩:=y;cases y1.symm.trans q.1;exact⟨m2,y1,q.2,l⟩⟩⟩
theorem BU{L:Addr}(B:bA w f h W)(d:h.objs.size=L)(j:env.frame=some L)(k:env.scope.kind≠.module)(U:H.Ns L m)(p:∀b o,h.get? b=some o→H.get? b=some o):
 bA w (env::f) H (ig 7 L W)∧((ig 7 L W 910).1=0∨(ig 7 L W 910).1=5):=by
 have E:∀{b o},h.get? b=some o→ig 7 L W b=zu 7 (W b):=λe=>gJ (d▸lt_size e);have T:=B.iZ.2.elim λV e=>E e▸yx (.inl rfl) B.iZ.1;refine⟨⟨λb ob e n=>have z:=B.base b ob e n;⟨p b ob z.1,E z.1▸Lw (.inl rfl) z.2⟩,⟨T.imp id .inr,B.iZ.2.imp λV e=>p _ _ e⟩,λF Z=> ?_⟩,T⟩;rcases mem_cons.mp Z with rfl|Z
 ·exact⟨k,L,m,j,U,.inl (congrArg Prod.fst qd)⟩
 ·have y:=B.frames F Z
  exact⟨y.1,y.2.imp λN y=>y.imp λm y=>⟨y.1,y.2.1.keeps p,.inr (y.2.1.elim λob q=>q.elim λ_ q=>q.elim λ_ q=>E q.1▸K9 (.inl rfl) y.2.2)⟩⟩
section
variable{w:World}{os:OsState}
noncomputable def JQ(os:OsState)(f:List Env)(H:Heap)(W:cy)(R:Result→Shared→Prop)(r:Result)(d:Shared):Prop:=match r with
 |.ok (.ret v)=>R (.ok (.ret v)) d
 |.ok _=>False
 |.error e=>∃a m,e=.ref a∧XS os f H W a m d∧∀S t,S.gens= #[]→S.os=os→KT H W S.heap W→R (.ok (.ret (.str m t))) S
structure BO(env:Env)(L:Addr):Prop where
 k1:env.kindOf (Str.ofString "ask")=some .local
 k2:env.kindOf (Str.ofString "error")=some .local
 kl:env.locals=L
 kf:env.frame=some L
 ks:env.scope.kind=.function
 O:jL ⟨[],[Str.ofString "Refusal"],[],0,false,false⟩ env (λ_=>.cell 910)
theorem XT.get:XT os fs h W a m s'→s'.gens= #[]∧s'.os=os∧KT h W s'.heap W
|.mk g o k _ _ _=>⟨g,o,k⟩
theorem LJ(t:(W L).1=1)(D:(W 910).1=0∨(W 910).1=5)(k:KT h W h3 W)(I:∀b,b≠L→h6.get? b=h3.get? b):KT h W h6 W:=
 have nl:∀b,yQ (W b).1∨DY (W b).1→b≠L:=λb l q=>Qz (.inl t) (q▸l)
 ⟨λb ob e l=>⟨(I b (nl b (.inl l))).trans (k.ex b ob e l).1,rfl⟩,λb ob e l=>⟨λm' q=>cj ((k.sl b ob e l).1 m' q) λO E=>(I b (nl b (.inr l))).trans E,rfl⟩,λb ob e l=>(k.there b ob e l).imp λO E=>(I b (nl b (.inr l))).trans E,
  λV l e=>D.elim (λq=>nomatch l.symm.trans q) λq=>nomatch l.symm.trans q⟩
theorem Bk(Y:BO env L)(D:bA w (env::f) s.heap W)(J:(W L).1=1)(j:DC (env::f) s.heap a (some g) m)
 (a9:∀t tk h5 m5,h5.Ns L m5→(∀b,b≠L→h5.get? b=s.heap.get? b)→Q (.ret (.str m t)) {s with heap:=h5,toks:=tk}):wpAny (model PP w) A (storeName env (ofString "error") (.ref a)) (λ_ M=>wpAny (model PP w) A (execs [.Return (some (.Attribute (.Name (Str.ofString "error") p5) (Str.ofString "message") p6)) p7] env) Q u M) I s:=by
 cases j with
 | @mk o V d hd T tm G X R C h r n E fr=>
 obtain⟨_,l,mL,F,nL⟩:=fr env (.head _);cases Y.kf.symm.trans F;have aL:a≠L:=by
  rintro rfl;obtain⟨O,es,p,K,Z,_⟩:=nL;cases G.symm.trans K;cases C.symm.trans Z
 refine wpAny_storeName_local Y.k2 (Y.kl▸nL) (λh5 H S=> ?_) (by rw[Y.ks];rfl);rw[Y.kl]at H S;have N:∃P,h5.Ns d P∧P (ofString "message")=some (.str m tm):=by
  by_cases z:d=L
  ·subst z
   exact⟨_,H,(if_neg (by decide+kernel)).trans ((congrFun (nL.eq_nsMap.trans n.eq_nsMap.symm) _).trans E)⟩
  ·exact⟨_,cj n λO U=>(S.2 _ z).trans U,E⟩
 obtain⟨P,N,B⟩:=N;have x:(vy w.params).In h5:=λb ob e=>have y:=ug D b ob e;(S.2 b λq=>absurd (J.symm.trans (q▸y.2)) (by decide)).trans y.1;exact wpAny_execs_cons (wpAny_Return_some (Attribute_Name_ (wpAny_Name (wpAny_loadName_local Y.ks Y.k2 (Y.kl▸H) (if_pos rfl) (A2 x ((S.2 a aL).trans G) X R C N B rfl (a9 _ _ h5 _ H S.2))) (by decide+kernel))))
theorem zt{R:Result→Shared→Prop}(Y:BO env L)(Q:A.frames=some (env::j))(U:bA w (env::j) J.heap W)(D:(W 910).1=0∨(W 910).1=5)(y:(W L).1=1)
 (H:J.heap.Ns L M)(u:M (Str.ofString "ask")=some (.ref f))(o:∃ob d,J.heap.get? f=some ob∧ob.data=.func d)(c:codeAny (model PP w) A (.call (.ref f) ⟨[],[]⟩) (JQ os (env::j) J.heap W R) J):
 wpAny (model PP w) A (execs [.Try [.Return (some (.Call (.Name (Str.ofString "ask") p1) [] [] p2)) p3] [.ExceptHandler (some (.Name (Str.ofString "Refusal") p4)) (some (Str.ofString "error")) [.Return (some (.Attribute (.Name (Str.ofString "error") p5) (Str.ofString "message") p6)) p7] p8] [] [] p9] env)
  (λO g=>R (.ok (.ret (match O with|.ret v=>v|_=>.none))) g) I J:=by
 have V:aH w (env::j) (λ_=>.cell 910) [] J.heap W:=F6 U D ⟨env,j,L,_,rfl,Y.kf,H,y⟩;refine wpAny_execs_cons (wpAny_Try_except ?_);refine wpAny_execs_cons (wpAny_Return_some (wpAny_Call_Name_kw (wpAny_Name (wpAny_loadName_local Y.ks Y.k1 (by rw[Y.kl];exact H) u ?_) (by decide+kernel))));refine callAny PQ (PyProof.Rows.spliced_none ⟨ud o,codeAny_mono c λr S F=> ?_⟩);cases r with
 |ok O=>cases O<;>first|exact F.elim|exact F
 |error e=>
 obtain⟨a,m,rfl,xs,a9⟩:=F;refine AH V rfl Q Y.kf xs.fh λh1 T' K k=>ja K λh2 T C N=> ?_;have x:=k h2 T C N;have B:=x.GU U D;obtain⟨k0,RF,RG,RH,RI,Z⟩:=oo w.params;have G:=B.obj (a:=291) (by decide) (by decide) (Ki w.params) (by kernel_rfl);rw[Z]at G;have p:=T;cases p with
 |mk z l q2 q3 q4 q5 nd em i=>
 have h:=F6 B D ((i env (.head _)).2.elim λL' q=>q.elim λm' q=>by
  cases Y.kf.symm.trans q.1;exact⟨env,j,L,m',rfl,Y.kf,q.2,y⟩)
 refine wpAny_handleBy_cons (codeAny_handlers_test (dx Y.O h (by decide+kernel) (GL _) ?_)) (by intro q;cases q);refine wpAny_excMatches_sub_self G z l (by decide+kernel) (codeAny_handlers_suite_as (ja (s:={S with heap:=h2}) T λh3 P RA RB=> ?_));have X:=k h3 P (λb n=>(RA b n).trans (C b n)) λb m q=>RB b m (N b m q);have B4:=X.GU U D;have E:=X.get;refine Bk (s:={S with heap:=h3}) Y B4 y P ?_;intro t tk h5 m5 RC RD;refine wpAny_nameGoes (s:={S with heap:=h5,toks:=tk}) Y.k2 (by rw[Y.kl];exact RC) (by rw[Y.ks];rfl) λh6 m6 RJ RE=> ?_;exact a9 _ _ E.1 E.2.1 (LJ (h6:=h6) y D E.2.2 λb ne=>(RE.2 b (Y.kl.symm▸ne)).trans (RD b ne))
theorem y8{s:Shared}{R:Result→Shared→Prop}(Q:A.frames=some j)(m:A.depth<recursionLimit)(B:bA w j s.heap W)(O:∃ob d,s.heap.get? f=some ob∧ob.data=.func d)
 (h:∀(env:Env)(L:Addr)(H:Heap)(tk:Tok),s.heap.objs.size=L→(∀b o,s.heap.get? b=some o→H.get? b=some o)→bA w (env::j) H (ig 7 L W)→
  codeAny (model PP w) (A.deeper env) (.call (.ref f) ⟨[],[]⟩) (JQ os (env::j) H (ig 7 L W) R) {s with heap:=H,toks:=tk}):
 codeAny (model PP w) A (.call (.ref 908) ⟨[.ref f],[]⟩) R s:=by
 obtain⟨C,c,c2,c3,y,t,Z⟩:=Kl w.params;have g:=B.obj (a:=908) (by decide) (by decide) (F9 w.params) rfl;have F:=B.obj c2 c3 y rfl;have hb:=DS w.params;have N:=JL w.params;have D:=Kv w.params (.ref f);have sc:=KL w.params;have G:=J4 w.params;generalize kO ((Hd.bD w.params).get 908)=d at*;refine codeAny_call_def m g rfl B.k9 ⟨C,_,_,t,c,F,rfl,Z⟩ hb (.of_eq D) (λx X=> ?_) (λx X=> ?_) (λH U K=> ?_) sc.1 sc.2.1 sc.2.2
 ·rw[N]at X
  exactλq=>by
   rcases mem_cons.mp X with e|X
   ·rw[e]at q;cases q
   rcases mem_cons.mp X with e|X
   ·rw[e]at q;cases q
   ·rw[mem_singleton.mp X]at q;cases q
 ·rw[mem_singleton.mp X,N]
  show List.lookup (Str.ofString "ask") _=_;decide+kernel
 ·generalize S:s.heap.objs.size=L at*
  have e:=BU (env:=callEnv d L 908) B S rfl (by show d.scope.kind≠_;rw[sc.2.2];decide) U K;have I:=h (callEnv d L 908) L H (s.toks+[(Str.ofString "ask",Value.ref f)].length) rfl K e.1;have Y:BO (callEnv d L 908) L:=⟨by show d.scope.names.lookup _=_;rw[N];decide+kernel,by show d.scope.names.lookup _=_;rw[N];decide+kernel,rfl,rfl,sc.2.2,⟨sc.2.2,G.1,G.2,λn i q=>(nomatch q),λn q=>(nomatch q),λn q=>(List.mem_singleton.mp q)▸⟨by show d.scope.names.lookup _=_;rw[N];decide+kernel,by decide+kernel⟩⟩⟩;exact zt Y (by show A.frames.map _=_;rw[Q];rfl) e.1 e.2 (congrArg Prod.fst qd) U (by show List.lookup _ [(ofString "ask",Value.ref f)]=_;rw[lookup_cons_self]) (O.imp λob q=>q.imp λd q=>⟨K _ _ q.1,q.2⟩) I
end
theorem wK(h:∀n,(n,NameKind.free)∈scope.names→∃c,env.cells.lookup n=some c):∃C,closureFor scope env=pure C∧∀n,(n,NameKind.free)∈scope.names→C.lookup n=env.cells.lookup n:=
 ⟨l8 env.cells scope.names [],jQ λn H=>(h n H).elim λc e=>by rw[e];rfl,λn H=>(h n H).elim λc e=>((my e scope.names [] (.inl H) λ_ e=>(nomatch e)):(l8 env.cells scope.names []).lookup n=some c).trans e.symm⟩
theorem M9(P):aY (ofString "__builtins__") (dS P)=some (.ref 4):=by kernel_rfl
theorem o4(P):(Hd.bD P).get 4=some ⟨.type "module",some 0,.plain,(((Hd.bD P).get 4).getD default).slots⟩:=by kernel_rfl
theorem HI(P):(Hd.bD P).get 912=some ⟨.type "code",none,.fields (jk ((Hd.bD P).get 912)),#[]⟩:=by kernel_rfl
theorem JT(P):(jk ((Hd.bD P).get 912))[11]? =some (.ref 910)∧(jk ((Hd.bD P).get 912)).getD 11 .none=.ref 910∧(jk ((Hd.bD P).get 912)).getD 18 .none=.str (ofString "/claim/cut.py") 1411∧
 (jk ((Hd.bD P).get 912)).getD 7 .none=.int 3 0∧(jk ((Hd.bD P).get 912)).getD 9 .none=.bool true∧(jk ((Hd.bD P).get 912)).getD 10 .none=.int 181 0:=
 ⟨by kernel_rfl,by kernel_rfl,by kernel_rfl,by kernel_rfl,by kernel_rfl,by kernel_rfl⟩
theorem mJ{P:List Value→Prop}(H:P [])(h1:∀i t j u d r,P r→P (.int i t::.int j u::d::r)):∀{n}{l},l.length≤n→TriplesOk l→P l:=by
 intro n;induction n with
 |zero=>intro l e _;rw[length_eq_zero_iff.mp (le_zero.mp e)];exact H
 |succ n I=>
  intro l e T;cases l with
  |nil=>exact H
  |cons x l=>
   cases l with
   |nil=>cases x<;>exact False.elim T
   |cons y l=>
    cases l with
    |nil=>cases x<;>first|exact False.elim T|(cases y<;>exact False.elim T)
    |cons d r=>cases x<;>first|exact False.elim T|(cases y<;>first|exact False.elim T|exact h1 _ _ _ _ d r (I (Nat.le_trans (le_add_right _ 2) (le_of_succ_le_succ e)) T))
theorem xm(H:TriplesOk l):codeAmong p (l++[.int i t,.int j u,c])=some C→codeAmong p l=some C∨C=c:=by
 refine mJ (P:=λl=>codeAmong p (l++[.int i t,.int j u,c])=some C→codeAmong p l=some C∨C=c) (λh=> ?_) (λI T J U d r Q h=> ?_) (Nat.le_refl _) H
 ·change(if(i==p.line&&j==p.col)=true then some c else none)=some C at h
  by_cases q:(i==p.line&&j==p.col)=true
  ·rw[if_pos q]at h;exact .inr (Option.some.inj h).symm
  ·rw[if_neg q]at h;cases h
 ·change(if(I==p.line&&J==p.col)=true then some d else codeAmong p (r++[.int i t,.int j u,c]))=some C at h
  show(if(I==p.line&&J==p.col)=true then some d else codeAmong p r)=some C∨_
  by_cases q:(I==p.line&&J==p.col)=true
  ·rw[if_pos q]at h⊢;exact .inl h
  ·rw[if_neg q]at h⊢;exact Q h
theorem sS{c:Value}(H:TriplesOk l):TriplesOk (l++[.int i t,.int j u,c]):=mJ (P:=λl=>TriplesOk (l++[.int i t,.int j u,c])) trivial (λ_ _ _ _ _ _ h=>h) (Nat.le_refl _) H
noncomputable def jq(h:Heap)(W:cy):cy:=λa=>if a<h.objs.size then W a else(0,0)
theorem nW(l:a<h.objs.size):jq h W a=W a:=if_pos l
theorem DV{h:Heap}{a:Addr}(l:h.objs.size≤a):jq h W a=(0,0):=if_neg (Nat.not_lt.mpr l)
section
variable{w:World}{os:OsState}{F:Nat→Spec}{fn:hW}
theorem aH.yV(C:aH w fs pl ρ h W)(l:(W 910).1=4)(e9:h.get? 910=some (cK vs))(k:∀b o,b≠910→h.get? b=some o→RA.get? b=some o)(t9:RA.get? 910=some (cK (vs++more)))(TO:pS RA (jq h W) (vs++more).toList):
 aH w fs pl ρ RA (jq h W)∧KT h W RA (jq h W):=by
 have O:∀{b o},h.get? b=some o→jq h W b=W b:=λe=>nW (lt_size e);have K:∀{b o n},n≠4→(W b).1=n→h.get? b=some o→RA.get? b=some o∧jq h W b=W b:=λ{b o n}u q e=>⟨k b o ((λb n q=>n (by rw[q];exact l)) b (q▸u)) e,O e⟩;have p:Kp h W RA (jq h W):=λb o e Q=>have z:=K (by decide) Q e;⟨z.1,z.2▸Q⟩;have M:∀j,Mv h W (10+j) RA (jq h W) (10+j):=λj b o e J=>have z:=K (Nat.ne_of_gt (Nat.lt_of_lt_of_le (by decide) (Nat.le_add_right 10 j))) J e;⟨z.1,z.2.trans (Prod.ext J rfl)⟩;have N:∀{L m n},n≠4→(W L).1=n→h.Ns L m→RA.Ns L m∧jq h W L=W L:=λu q e=>e.elim λo e=>e.elim λes e=>e.elim λP e=>have z:=K u q e.1;⟨⟨o,es,P,z.1,e.2⟩,z.2⟩;have X:∀{L m},(W L).1=1∨(W L).1=3→h.Ns L m→RA.Ns L m∧((jq h W L).1=1∨(jq h W L).1=3):=λq e=>q.elim (λy=>have z:=N (by decide) y e;⟨z.1,.inl (z.2▸y)⟩) λy=>have z:=N (by decide) y e;⟨z.1,.inr (z.2▸y)⟩;have pk:∀{i o},i<ρ.length→h.get? (pl i).I=some o→RA.get? (pl i).I=some o∧jq h W (pl i).I=W (pl i).I:=λH e=>⟨k _ _ (zZ C H e9).symm e,O e⟩;have t:∀{n},yQ n→n≠4:=λl q=>by subst q;unfold yQ at l;revert l;decide
 refine⟨⟨λb o e n=>have z:=C.base b o e n;p b o z.1 z.2,.inr ⟨(O e9).symm▸l,_,t9,TO⟩,C.len,C.a9,λi S e=>(C.slots i S e).imp λx q=>⟨eH q.1 λo E=>(pk (List.getElem?_eq_some_iff.mp e).1 E).1,q.2.imp id λy=>y.imp λv y=>⟨y.1,y.2.dh p (M i)⟩⟩,
  λi H=>(C.cz H).elim λx a=>a.lt.elim λo E=>(pk H E).2▸C.bH i H,λenv Z=>have y:=C.frames env Z;⟨y.1,y.2.imp λL y=>y.imp λm y=>have z:=X y.2.2 y.2.1;⟨y.1,z.1,z.2⟩⟩,
  C.head.imp λenv y=>y.imp λr y=>y.imp λL y=>y.imp λm y=>have z:=N (by decide) y.2.2.2 y.2.2.1;⟨y.1,y.2.1,z.1,z.2▸y.2.2.2⟩⟩,
  λb o e lb=>K (t lb) rfl e,λb o e lb=>⟨λm q=>(N (by rw[(lb:(W b).1=3)];decide) rfl q).1,O e⟩,λb o e lb=>⟨o,(K (by rw[(lb:(W b).1=3)];decide) rfl e).1⟩,λV _ e=>⟨O e9,more,?_⟩⟩
 cases e9.symm.trans e;exact t9
variable{c:uo fn}
theorem dt.yV(z)(tk)(l:(z.W 910).1=4)(e9:z.s.heap.get? 910=some (cK vs))(k:∀b o,b≠910→z.s.heap.get? b=some o→RA.get? b=some o)(t9:RA.get? 910=some (cK (vs++more)))(TO:pS RA (jq z.s.heap z.W) (vs++more).toList)
 {C:Prop}(next:∀z':dt w os c,z'.s={z.s with heap:=RA,toks:=tk}→z'.ρ=z.ρ→qP z z'→C):C:=
 have q:=z.S.H.yV l e9 k t9 TO
 next ⟨⟨z.ρ,{z.s with heap:=RA,toks:=tk},jq z.s.heap z.W,z.S.gens,z.S.os,q.1⟩,λi a H e=>(z.S.H.cz H).elim λx A=>A.lt.elim λo E=>by
  have y:=nW (W:=z.W) (lt_size E);rw[e]at y;exact(congrArg Prod.fst y).trans (z.cel i a H e),
  λv e=>have y:=z.zero v e;⟨y.1,eH y.2 λo E=>k _ o (zZ z.S.H y.1 e9).symm E⟩,λe=>(congrArg Prod.fst (nW (lt_size e9))).trans l⟩ rfl rfl q.2
theorem AU{E:Value→Shared→Prop}(H:c.cf.lm=true)(free:∀n,(n,NameKind.free)∈sc.names→n∈c.cf.cl)
 (h:∀f u m U v(d:dt w os c),d.ρ=z.ρ→qP z d→d.s.heap.get? f=some (kla_obj (Str.ofString "<lambda>") kL ⟨[],[],none,[],[],none,[]⟩ body sc u m U v)→d.s.heap.CodeRec (.ref U) kL→(∀n,(n,NameKind.free)∈sc.names→u.lookup n=c.env.cells.lookup n)→Q (.ref f) d.s):
 wpAny (model PP w) c.A (makeFunction "<lambda>" (c.env.qual++("<lambda>")) ⟨[],[],none,[],[],none,[]⟩ (.expr body) sc c.env [] [] [] Y Y.line) Q E z.s:=by
 obtain⟨J,r⟩:=c.Q6 H;have l:=z.lm J;obtain⟨K,P,T⟩:=(z.S.H.iZ.resolve_left λq=>q.1.elim (λy=>nomatch l.symm.trans y) λy=>nomatch l.symm.trans y).2;obtain⟨u,L,Z⟩:=wK λn x=>(c.O.IX n (free n x)).imp λa q=>q.1;have B:=z.S.H.b;obtain⟨v1,v2,v3,v4,v5,v6⟩:=JT w.params;have C:CodeHd z.s.heap 912 910:=⟨_,_,_,_,_,_,_,_,_,B.obj (by decide) (by decide) (HI w.params) rfl,rfl,rfl,v1,v2,v3,v4,v5,v6,by decide⟩;have hb:z.s.heap.BuiltinsAt (λn=>aY n (dS w.params)) 910:=⟨4,_,M9 _,by decide,by decide,by decide,B.obj (by decide) (by decide) (o4 w.params) rfl,rfl,rfl,rfl⟩;rw[r];have W:∀{g:Heap}(k:∀b o,b≠910→z.s.heap.get? b=some o→g.get? b=some o){p V},codeAmong p K.toList=some V→∃c O X t,V=.ref c∧g.get? c=some O∧(jq z.s.heap z.W c).1=0∧O.data=.fields X∧X[1]? =some (.str kL t):=λ{g}k{p V}e=>by
  obtain⟨c3,RA,RB,t3,y1,R,A,y4⟩:=T.2 p V e;exact⟨c3,RA,RB,t3,y1,k c3 _ (λq=>by rw[q,l]at A;cases A) R,(congrArg Prod.fst (nW (lt_size R))).trans A,y4⟩
 cases among:codeAmong Y K.toList with
 |none=>
  refine kla_makeFunction L c.O.vd z.S.H.main J C P T.1 among (by decide) hb λU v h' tk hx RC RF RD RE=> ?_;generalize S:kla_obj (ofString "<lambda>") kL ⟨[],[],none,[],[],none,[]⟩ body sc u (((λn=>aY n (dS w.params)) "__name__").getD .none) U v=ob;have G:(h'.push ob).get? h'.objs.size=some ob:=get?_push_size _ (by rw[←S];rfl);have I:∀b o,h'.get? b=some o→(h'.push ob).get? b=some o:=λb o e=>get?_push_of_some _ e;generalize h'.push ob=g at G I;have k:=λb o n e=>I b o (hx b o n e);obtain⟨c2,O,s,t,q1,D,M,i⟩:=RD;cases q1;refine z.yV tk l P k (I _ _ RE) (Array.toList_append▸⟨sS T.1,λp V e=>(xm T.1 e).elim (λe=>W k e) λe=>⟨U,O,s,t,e,I _ _ D,congrArg Prod.fst (DV RC),M,i⟩⟩) λd N j l'=> ?_;exact N▸h _ u _ U v d j l' (by rw[N,S];exact G) ⟨U,O,s,t,rfl,N▸I _ _ D,M,i⟩ Z
 |some V=>
  obtain⟨U,O,s,t,rfl,x2,x3,x4,x5⟩:=T.2 Y V among;refine kla_makeFunctionHit L c.O.vd z.S.H.main J C P T.1 among hb λv h' tk hk RG=> ?_;show Q _ {z.s with heap:=h'.push (kla_obj (Str.ofString "<lambda>") kL ⟨[],[],none,[],[],none,[]⟩ body sc u (((λn=>aY n (dS w.params)) "__name__").getD .none) U v),toks:=tk};generalize S:kla_obj (ofString "<lambda>") kL ⟨[],[],none,[],[],none,[]⟩ body sc u (((λn=>aY n (dS w.params)) "__name__").getD .none) U v=ob;have G:(h'.push ob).get? h'.objs.size=some ob:=get?_push_size _ (by rw[←S];rfl);have k:∀b o,z.s.heap.get? b=some o→(h'.push ob).get? b=some o:=λb o e=>get?_push_of_some _ (hk b o e);generalize h'.push ob=g at G k;refine z.yV tk l P (λb o _=>k b o) (by rw[Array.append_empty];exact k _ _ P) (by
   rw[Array.append_empty];exact⟨T.1,λp V e=>W (λb o _=>k b o) e⟩) λd N j l'=> ?_
  exact N▸h _ u _ U v d j l' (by rw[N,S];exact G) ⟨U,O,s,t,rfl,N▸k _ _ x2,x4,x5⟩ Z
end
theorem IP(P):dy P (ofString "_law_kept") (.ref 908):=.inl (by kernel_rfl)
theorem Cv:fQ i l=true→i∈l:=by
 induction l with
 |nil=>exact ff
 |cons j l I=>
  show(match Nat.beq i j with|true=>true|false=>fQ i l)=true→_;cases e:beq i j with
  |true=>exactλ_=>eq_of_beq_eq_true e▸.head _
  |false=>exactλh=>.tail _ (I h)
structure AO(cf:Cf)(eB:List Nat)(sc:Scope):Prop where
 kind:sc.kind=.function
 co:sc.isCoroutine=false
 LY:sc.isGenerator=false
 only:∀x∈sc.names,x.2≠.cell
 free:∀n,(n,NameKind.free)∈sc.names→n∈cf.cl
 nm:∀n i,aQ n (iA cf.nm 0 sc.names)=some i→sc.names.lookup n=some .free∧aQ n cf.nm=some i∧n∈cf.cl∧fQ i eB=true∧(n==("__debug__":Str))=false∧(n==("__classdict__":Str))=false
 gl:∀n∈t7 sc.names,sc.names.lookup n=some .globalImplicit∧(n==("__debug__":Str))=false
 eB:∀i,fQ i eB=true→∃n,n∈cf.cl∧aQ n cf.nm=some i
theorem xc:aQ n l=some i→(n,i)∈l:=by
 induction l with
 |nil=>exactλh=>nomatch h
 |cons p l I=>exactλh=>(dR h).elim (λq=>q.1▸q.2▸.head _) λh=>.tail _ (I h)
theorem nB(h:(!kB k k')=true):k'≠k:=of_decide_eq_false (nE h)
theorem E3(h:KG C v sc=true):AO C v sc:=by
 have d:=fT (aL (aR (aR (aR h))));have E:∀{n k},(n,k)∈sc.names→L4 C.cl (n,k)=true:=λM=>all_eq_true.mp (aL (aR (aR (aR (aR h))))) _ M;have V:=aR (aR (aR (aR (aR h))));have fr:∀{n},(n,NameKind.free)∈sc.names→n∈C.cl∧ze n=true:=λM=>(oE (aL (aR (aR (E M))))).elim (λq=>absurd rfl (nB q)) λq=>⟨pf (aL q),aR q⟩;refine⟨of_decide_eq_true (aL h),nE (aL (aR h)),nE (aL (aR (aR h))),λx X=>nB (aL (E X)),λn N=>(fr N).1,λn i H=> ?_,λn N=> ?_,λi H=> ?_⟩
 ·obtain⟨k,m,K⟩:=tW H
  rcases K with⟨rfl,_⟩|⟨rfl,_⟩|⟨rfl,e⟩
  ·exact absurd rfl (nB (aL (aR (E m))))
  ·exact absurd rfl (nB (aL (E m)))
  ·exact⟨bN d m,e,(fr m).1,aR (all_eq_true.mp (aL V) _ (xc H)),gO (fr m).2⟩
 ·have m:=pJ N
  exact⟨bN d m,(oE (aR (aR (aR (E m))))).elim (λq=>absurd rfl (nB q)) λq=>lQ (bB (nE q))⟩
 ·exact(any_eq_true.mp (all_eq_true.mp (aR V) _ (Cv H))).imp λn q=>⟨q.1,bL q.2⟩
theorem Dk:∀{j}{ρ'},mj g j ρ=some ρ'→ρ'.length=ρ.length∧∀i S,ρ'[i]? =some S→(fQ (j+i) g=true∧∃v,S=.j v∧ρ[i]? =some (.j v))∨(fQ (j+i) g=false∧S=.y):=by
 induction ρ with
 |nil=>exactλh=>Option.some.inj h▸⟨rfl,λi S e=>nomatch e⟩
 |cons s r I=>
  intro j ρ' h;have h:(match mj g (j+1) r with|.none=>.none|some R=>match fQ j g with|false=>some (.y::R)|true=>match(generalizing:=false) s with|.j v=>some (.j v::R)|_=>.none)=some ρ':=h;cases e:mj g (j+1) r with
  |none=>rw[e]at h;cases h
  |some R=>
   rw[e]at h;have y:=I e;have next:∀{T:Mine.Internal.S},ρ'=T::R→((fQ j g=true∧∃v,T=.j v∧s=.j v)∨(fQ j g=false∧T=.y))→ρ'.length=(s::r).length∧∀(i:Nat)S,ρ'[i]? =some S→(fQ (j+i) g=true∧∃v,S=.j v∧(s::r)[i]? =some (.j v))∨(fQ (j+i) g=false∧S=.y):=λ{T}e q=>by
    subst e;refine⟨congrArg (·+1) y.1,λi S es=> ?_⟩;cases i with
    |zero=>cases es;exact q.imp (λq=>⟨q.1,q.2.imp λv q=>⟨q.1,congrArg some q.2⟩⟩) id
    |succ i=>have z:=y.2 i S es;rw[Nat.add_right_comm]at z;exact z
   cases H:fQ j g with
   |false=>rw[H]at h;exact H▸next (Option.some.inj h).symm (.inr ⟨H,rfl⟩)
   |true=>
    rw[H]at h;cases s<;>first|exact fN h|exact H▸next (Option.some.inj h).symm (.inl ⟨H,_,rfl,rfl⟩)
noncomputable def KP(v:List Nat)(p:Nat→fK)(n:Nat)(L:Addr)(i:Nat):fK:=if fQ i v=true then p i else if i<n then .ns L (ofString "")else .cell 910
theorem n7(h:fQ i v=true):KP v p n L i=p i:=if_pos h
theorem wV(h:fQ i v=false)(H:i<n):KP v p n L i=.ns L (ofString ""):=(if_neg (by rw[h];decide)).trans (if_pos H)
theorem IT(h:fQ i v=false)(H:¬i<n):KP v p n L i=.cell 910:=(if_neg (by rw[h];decide)).trans (if_neg H)
section
variable{w:World}{os:OsState}{F:Nat→Spec}{fn:hW}{c:uo fn}
theorem Df{z:dt w os c}{L H:Addr}(u:AO c.cf g sc)(J:mj g 0 z.ρ=some ρ')(Q:z.s.heap.objs.size=L)(k:∀b o,z.s.heap.get? b=some o→O.get? b=some o)(t:bA w (M::c.fs) O (ig 7 L z.W))
 (D:O.objs.size=H)(Y:∀b o,O.get? b=some o→U.get? b=some o)(f:U.Ns H m)(d:envl.frame=some H)(j:envl.scope.kind≠.module):aH w (envl::M::c.fs) (KP g c.pl z.ρ.length H) ρ' U (ig 7 H (ig 7 L z.W)):=by
 obtain⟨B1,T⟩:=BU t D d j f Y;obtain⟨K,s⟩:=Dk J;have N:∀{b o},z.s.heap.get? b=some o→ig 7 L z.W b=zu 7 (z.W b):=λe=>gJ (Q▸lt_size e);have R:∀{b o},z.s.heap.get? b=some o→ig 7 H (ig 7 L z.W) b=zu 7 (ig 7 L z.W b):=λe=>gJ (D▸lt_size (k _ _ e));refine⟨B1.base,.inl ⟨T,B1.iZ.2⟩,K.symm▸z.S.H.len,λi=> ?_,λi S e=> ?_,λi I=> ?_,B1.frames,_,_,H,m,rfl,d,f,congrArg Prod.fst qd⟩
 ·rw[K]
  cases V:fQ i g with
  |true=>rw[n7 V];exact z.S.H.a9 i
  |false=>
   by_cases lt:i<z.ρ.length
   ·rw[wV V lt];exact⟨λ_ q=>(nomatch q),λ_=>lt⟩
   ·rw[IT V lt];exact⟨λq=>absurd q lt,λq=>absurd rfl q⟩
 ·have q:=s i S e
  rw[Nat.zero_add]at q;rcases q with⟨V,v,rfl,W⟩|⟨V,rfl⟩
  ·rw[n7 V]
   exact jR z.S.H W (λq=>nomatch q) λx a r _=>⟨_,eH a λo E=>Y _ _ (k _ _ E),.inr ⟨_,rfl,VR.step (λb o e l=>⟨Y b o (k b o e),R e▸Lw (.inl rfl) (N e▸Lw (.inl rfl) l)⟩) r⟩⟩
  ·rw[wV V (K▸(List.getElem?_eq_some_iff.mp e).1)]
   exact⟨_,⟨m,f,rfl⟩,.inl rfl⟩
 ·rw[K]at I
  cases V:fQ i g with
  |true=>
   rw[n7 V];obtain⟨a,A⟩:=(λi h=>(u.eB i h).elim λn q=>(c.O.IX n q.1).imp λa y=>y.2.2 i q.2) i V;obtain⟨x,p⟩:=z.S.H.cz I;obtain⟨o,E⟩:=p.lt;rw[A]at E⊢;exact .inl (((λe l=>R e▸yx (.inl rfl) ((N e▸yx (.inl rfl) (.inr (.inl l))).imp id .inr)) E (z.cel i a I A)).imp id λq=>.inr (.inr q))
  |false=>
   rw[wV V I];exact .inr ⟨congrArg Prod.fst qd,H,_,rfl⟩
theorem Ew(O:AO c.cf v sc)(H:∀n,(n,NameKind.free)∈sc.names→C.lookup n=c.env.cells.lookup n):jL (Av c.cf sc) (envX kL sc L f d C) (KP v c.pl n L):=
 ⟨O.kind,rfl,rfl,λx i h=>have q:=O.nm x i h;⟨q.2.2.2.2.1,q.2.2.2.2.2,.inr ((c.O.IX x q.2.2.1).elim λa y=>⟨.inr q.1,a,(H x (mem_of_lookup q.1)).trans y.1,(n7 q.2.2.2.1).trans (y.2.2 i q.2.1)⟩)⟩,λx h=>(nomatch h),λx h=>O.gl x h⟩
end
section
variable{w:World}{os:OsState}{F:Nat→Spec}{fn:hW}
theorem JJ(h:DG A f lv u)(l:0<lv):DG ((A.deeper g).deeper j) (j::g::f) (lv-1) u:=
 ⟨by show(A.frames.map _).map _=_;rw[h.frames];rfl,h.handled,by have:=h.depth;exact zl 0x2fc6816474793f6fed9a721b739721a49 rfl l this,by have:=h.units;exact zl 0x85ba1021295752b406b8303de72640bce00c0f084bf72e9713afa49 rfl l this⟩
theorem AI(hb:au w os F fn b){c:Fr fn}{z:Zt w os c.fs c.pl}{s:Shared}{R:Result→Shared→Prop}(o:bT fn.g b c.cf y=true)(L:bp b≤c.u)(h:ev F b z.ρ k X)(U:bA w f s.heap W)(p:∀b o,s.heap.get? b=some o→z.s.heap.get? b=some o)
 (D:z.W=ig 7 s.heap.objs.size W)(H:c.fs=c.env::f)(j:c.env.frame=some c.env.locals)(g:∀t W' O d ρ,t.gens= #[]→t.os=os→KT s.heap W t.heap W'→VR w t.heap W' O d→(∃r:Rv,r.v=O∧k r ρ)→R (.ok (.ret d)) t)
 (C:∀a m t,X m→XS os f s.heap W a m t→R (.error (.ref a)) t):wpAny (model PP w) c.A (eval (aO fn.g b y) c.env) (λv t=>R (.ok (.ret v)) t) (λJ t=>wpAny (model PP w) c.A (leaving c.env J) (λ_ Q=>R (.error J) Q) (λY Q=>R (.error Y) Q) t) z.s:=
 hb c z y k X _ _ o L h (λr Z v h' J I=>by
  have q:=gF U rfl (.inl rfl) p (D▸KE.fh (Kq.trans J (KE.br)):KT z.s.heap (ig 7 s.heap.objs.size W) Z.s.heap λa=>lb 2 0 (Z.W a));exact g Z.s _ r.v v Z.ρ Z.S.gens Z.S.os q.1.1.fh (VR.step q.2.1 (a6.cC (KE.br (u:=0) (h:=Z.s.heap) (W:=Z.W)).kp Fz.wX I)) ⟨r,rfl,h'⟩)
  λm a S V x=>ur (E:=λe s=>R (.error e) s) z.S.H H c.hA.frames j V x.fh λm a t V x=>C a m t V (XT.P6 U rfl (.inl rfl) p (by rw[←H,←D];exact x))
theorem DW(hb:au w os F fn b):bY w os F fn (.C i (.cZ f v b)):=λc z x N ct rt X Q u o D h K KX=>by
 have W:=aR o;have O:=E3 (aL (aR W));have P:=le_of_ble_eq_true (aL (aR (aR W)));have h1:(match mj v 0 z.ρ with
  |some ρ'=>ev F b ρ' (λr _=>bG z.ρ i (.j r.v) N) (λm=>bG z.ρ i (.j (.str m)) N)
  |.none=>False):=h
 cases k:mj v 0 z.ρ with
 |none=>rw[k]at h1;exact h1.elim
 |some ρ'=>
 rw[k]at h1;refine wpAny_Assign_Name (wpAny_Call_Name_kw (dx c.O z.S.H (aL W) (IP _) (callAny (JA rfl) (PyProof.Rows.spliced_more (kla_eval rfl (AU (aL (aR (aR (aR W)))) O.free λA C pm U RL z₁ M n R l RA=>PyProof.Rows.spliced_none ?_)) (aE rfl))))) (bZ rfl);have B:=z₁.S.H.b;refine⟨ud ⟨_,_,B.obj (by decide) (by decide) (F9 w.params) rfl,rfl⟩,?_⟩;have j:∀{L:Addr}{H:Heap}(d:z₁.s.heap.objs.size=L)(p:∀b o,z₁.s.heap.get? b=some o→H.get? b=some o)(S:Shared)(W':cy)(g:V)(J:Value),S.gens= #[]→S.os=os→KT H (ig 7 L z₁.W) S.heap W'→VR w S.heap W' g J→bG z.ρ i (.j g) N→
  wpAny (model PP w) c.A (storeName c.env (fi (st x)) J) (λ_=>Q .next) u S:=λ{L}{H}d p S W' g J G E T r s=>
  have q:=gF B d (.inl rfl) p T
  lP (z:=z₁.ke ⟨z₁.ρ,S,_,G,E,z₁.S.H.Cx q.1⟩ q.1.1) (aL o) (M▸s) (r.step q.2.1) λRB RC RD=>K.nx RB RC ((n.trans q.1.1.fh).trans RD)
 refine y8 (os:=os) c.hA.frames (Nat.lt_trans (Nat.lt_of_le_of_lt (le_add_right ..) c.hA.depth) (by decide)) B ⟨_,_,R,rfl⟩ λRE L H tk d p Z=> ?_;obtain⟨c2,oc,RF,RG,q1,q2,q3,q4⟩:=l;refine kla_callFunE (Nat.lt_trans (succ_lt_succ (Nat.lt_of_le_of_lt (le_add_right ..) c.hA.depth)) (by decide)) (p _ _ R) rfl O.co O.LY rfl ⟨c2,oc,RF,RG,q1,p _ _ q2,q3,q4⟩ ?_;refine wpAny_pure (a:=[]) (wpAny_newFunctionEnv O.only (λx I=>nomatch I) (λRH RI RJ=> ?_) O.kind);have Y:=λb o e=>RJ.extBut b o (ne_of_lt (lt_size e)) (get?_push_of_some _ e);refine⟨Z.k9.keeps Y,kla_codeExpr ?_⟩;have CL:=Df (envl:=envX kL (qx (kd (sv x) 1)) H.objs.size A (.ref U) C) O (M.symm▸k) d p Z rfl Y RI rfl (by show(qx (kd (sv x) 1)).kind≠_;rw[O.kind];decide);exact AI hb (c:=⟨Av c.cf (qx (kd (sv x) 1)),envX kL (qx (kd (sv x) 1)) H.objs.size A (.ref U) C,_,_,(c.A.deeper RE).deeper _,c.u,Ew O RA,JJ c.hA P,Nat.le_trans (Nat.sub_le _ _) c.tp⟩)
  (z:=⟨ρ',{z₁.s with heap:=RH,toks:=tk},_,z₁.S.gens,z₁.S.os,CL⟩) (aR (aR (aR (aR W)))) D h1 Z Y rfl rfl rfl (λS W' g J _ G E T r s=>s.elim λrr y=>j d p S W' g J G E T r (y.1▸y.2))
  λa m S I xs=>⟨a,m,rfl,xs,λRK t G E T=>j d p RK _ (.str m) (.str m t) G E T (.str m t) I⟩
end
section
variable{w:World}{os:OsState}{F:Nat→Spec}{fn:hW}
structure FJ(w:World)(os:OsState)(F:Nat→Spec)(fn:hW)(b:T):Prop where
 s1:bY w os F fn b
 bk:gj w os F fn b
noncomputable def nK(g:Nat→Fn)(e:E):=(MN g e,JP g e)
noncomputable def QM(g:Nat→Fn)(e:E):=((λC v=>(d5 (aO g e v)||Ao e)&&bT g e C v),aO g e)
noncomputable def Kd(g:Nat→Fn)(e:E):Prop:=(∃f V b,e=.cZ f V b)∨nK g e=QM g e
theorem Kd.i(h:nK g e=QM g e):Kd g e:=.inr h
theorem Kd.k:Kd g (.cZ f vs b):=.inl ⟨_,_,_,rfl⟩
theorem Nd(g)(e):Kd g e:=by cases e<;>first|exact .k|exact .i rfl
theorem Nm(e){C:Prop}(h1:∀f m b,e=.cZ f m b→C)(h2:(∀c v,MN fn.g e c v=((d5 (aO fn.g e v)||Ao e)&&bT fn.g e c v))→(∀v,JP fn.g e v=aO fn.g e v)→C):C:=
 (Nd fn.g e).elim (λ⟨f,m,b,q⟩=>h1 f m b q) λq=>h2 (λc v=>congrFun (congrFun (congrArg (·.1) q) c) v) (λv=>congrFun (congrArg (·.2) q) v)
theorem D5(H:jm w os F fn e):bY w os F fn (.C i e):=Nm e (λf V b q=>by
 have hb:=H.kp f V b q;subst q;exact DW hb) λA D=>II A D H.ee H.u
theorem vB(h:bY w os F fn b)(n:∀g C xs,Al g b C xs=false):FJ w os F fn b:=⟨h,λ_ _ _ _ _ _ _ _ _ o=>xo (n ..) o⟩
theorem v1(h:gj w os F fn b)(n:∀g C x,NN g b C x=false):FJ w os F fn b:=⟨λ_ _ _ _ _ _ _ _ _ o=>xo (n ..) o,h⟩
theorem Gj(G:fA w os F fn)(b):FJ w os F fn b:=by
 have H:=λe=>MH G e;induction b with
 |nil=>exact v1 Kj λ_ _ _=>rfl
 |cons a b A I=>exact v1 (HZ A.s1 I.bk) λ_ _ _=>rfl
 |ex e=>exact vB (J1 (H e).ee) λ_ _ _=>rfl
 |C i e=>exact vB (D5 (H e)) λ_ _ _=>rfl
 |jn l e=>exact vB (Fh (H e).ee) λ_ _ _=>rfl
 |GO i j a b=>exact vB (HE (H a).ee (H b).ee) λ_ _ _=>rfl
 |vH i o e=>exact vB (HD (H e).ee) λ_ _ _=>rfl
 |dB p a b=>exact vB (Fw (H b).ee) λ_ _ _=>rfl
 |kz i n e=>exact vB (EX (H e).ee) λ_ _ _=>rfl
 |wU i n=>exact vB Fi λ_ _ _=>rfl
 |lZ i e=>exact vB (IL (H e).ee) λ_ _ _=>rfl
 |ins i a b=>exact vB (IH (H a).ee (H b).ee) λ_ _ _=>rfl
 |HQ i=>exact vB Hh λ_ _ _=>rfl
 |iff c a b A I=>exact vB (HU (H c).t A.bk I.bk) λ_ _ _=>rfl
 |tU c b I=>exact vB (HY (H c).t I.bk) λ_ _ _=>rfl
 |bU i t b I=>exact vB (Ex (H t).i I.bk) λ_ _ _=>rfl
 |ret e=>exact vB (IC (H e).ee) λ_ _ _=>rfl
 |fR e=>exact vB Cy λ_ _ _=>rfl
 |cont=>exact vB EI λ_ _ _=>rfl
 |K=>exact⟨Cw,E6⟩
end
noncomputable def BV(t:FT):Fn:=⟨t.I,t.name,t.kd,t.tS⟩
noncomputable def Am(k:Nat):Fn:=BV (ft k)
noncomputable def sT(t:FT):List Str:=t.sl.map ofString
noncomputable def qE(t:FT):List Str:=(sT t).take t.ar
noncomputable def mH(P:Params)(t:FT):FuncData:=kO ((Hd.bD P).get t.I)
noncomputable def vG(P:Params)(t:FT):List Stmt:=qs (mH P t)
noncomputable def PA:Option Obj→Bool
|some ⟨_,_,.func _,_⟩=>true
|_=>false
theorem BA(h:PA o=true):∃O,o=some O∧alive O=some O∧O.data=.func (kO o):=by
 cases o with
 |none=>cases h
 |some o=>
  obtain⟨c,d,dd,sl⟩:=o;cases dd<;>first|cases h;done|exact⟨_,rfl,rfl,rfl⟩
noncomputable def QA:Option Obj→Bool
|some ⟨_,_,.fields _,_⟩=>true
|_=>false
theorem I5(h:QA o=true):∃O,o=some O∧alive O=some O∧O.data=.fields (jk o):=by
 cases o with
 |none=>cases h
 |some o=>
  obtain⟨c,d,dd,sl⟩:=o;cases dd<;>first|cases h;done|exact⟨_,rfl,rfl,rfl⟩
noncomputable def nc:Value→Addr
|.ref a=>a
|_=>0
theorem yo(h:Nat.blt 0 (nc v)=true):v=.ref (nc v):=by cases v<;>first|rfl|cases h
noncomputable def OO(d:FuncData):Bool:=match d.body with
 |.stmts _=>true
 |_=>false
theorem AZ(h:OO d=true):d.body=.stmts (qs d):=by
 delta OO at h;delta qs;generalize d.body=b at h;cases b<;>first|rfl|cases h
theorem CX{Y:Type}{l:List Y}(h:l.isEmpty=true):l=[]:=by cases l<;>first|rfl|cases h
noncomputable def xb(names:List (Str×NameKind)):Nat→List Str→List (Str×Nat)
|_,[]=>[]
|i,n::r=>match names.any (jP n)with
 |true=>(n,i)::xb names (i+1) r
 |false=>xb names (i+1) r
theorem En{n:Str}{i:Nat}:∀{j},aQ n (xb names j l)=some i→∃m,i=j+m∧l[m]? =some n∧names.any (jP n)=true:=by
 induction l with
 |nil=>exactλh=>nomatch h
 |cons x l I=>
  intro j h;have U:aQ n (xb names (j+1) l)=some i→∃m,i=j+m∧(x::l)[m]? =some n∧names.any (jP n)=true:=λh=>(I h).elim λm e=>⟨m+1,e.1.trans (Nat.add_right_comm j 1 m),e.2⟩;have h':aQ n (match names.any (jP x)with|true=>(x,j)::xb names (j+1) l|false=>xb names (j+1) l)=some i:=h;cases e:names.any (jP x)with
  |false=>rw[e]at h';exact U h'
  |true=>
   rw[e]at h';exact(dR h').elim (λq=>⟨0,q.2.symm,congrArg some q.1.symm,q.1.symm▸e⟩) U
noncomputable def MV(t:FT)(k:Nat)(lm:Bool)(sc:Scope):Cf:=⟨xb sc.names 0 (sT t),t7 sc.names,uG sc.names,k,t.fx,lm⟩
noncomputable def Nh(x:Str×NameKind):Bool:= !kB .free x.2&&ze x.1
noncomputable def Hb(t:FT)(sc:Scope):Bool:=rZ sc&&(rk (sT t)&&(ble (sT t).length 800&&(rk (sc.names.map (·.1))&&sc.names.all Nh)))
theorem yF{l:List (Str×NameKind)}(h:l.any (jP n)=true):(n,NameKind.local)∈l∨(n,NameKind.cell)∈l:=(any_eq_true.mp h).elim λp q=>by
 obtain⟨m,k⟩:=p;have e:=aD.mp (aR q.2);subst e;exact(oE (aL q.2)).imp (λy=>(of_decide_eq_true y:k=.local)▸q.1) λy=>(of_decide_eq_true y:k=.cell)▸q.1
theorem G7:(n,NameKind.cell)∈l→n∈uG l:=by
 induction l with
 |nil=>exactλh=>nomatch h
 |cons p l I=>
  obtain⟨m,k⟩:=p;intro h;rcases mem_cons.mp h with e|h2
  ·cases e;exact .head _
  ·cases k<;>first|exact .tail _ (I h2)|exact I h2
theorem xR(h:Hb t sc=true):Me (MV t k lm sc) (sT t) sc:=by
 have N:=fT (aL (aR (aR (aR h))));have E:∀{n k},(n,k)∈sc.names→k≠.free∧ze n=true:=λ{n k}M=>have q:=all_eq_true.mp (aR (aR (aR (aR h)))) (n,k) M;⟨nB (aL q),aR q⟩;refine⟨of_decide_eq_true (aL h),fT (aL (aR h)),le_of_ble_eq_true (aL (aR (aR h))),λn i I=> ?_,λn H=> ?_,λn H=> ?_⟩
 ·obtain⟨m,g,j,T⟩:=En I
  rw[Nat.zero_add]at g;subst g;rcases yF T with m|m
  ·exact⟨j,(gO (E m).2).1,(gO (E m).2).2,.inl (bN N m)⟩
  ·exact⟨j,(gO (E m).2).1,(gO (E m).2).2,.inr ⟨bN N m,G7 m⟩⟩
 ·obtain⟨k,m,K⟩:=u7 H
  rcases K with rfl|rfl
  ·exact bN N m
  ·exact absurd rfl (E m).1
 ·have m:=pJ H
  exact⟨bN N m,(gO (E m).2).1⟩
noncomputable def G5(g:Nat→Fn)(d:FuncData)(t:FT)(k:Nat)(lm:Bool):Bool:=OO d&&(d.closure.isEmpty&&(beq d.globals 3&&(beq d.builtins 0&&(!d.scope.isCoroutine&&(!d.scope.isGenerator&&(Hb t d.scope&&(ble t.ar (sT t).length&&((qE t).all (λn=>d.scope.names.any (jP n))&&Al g t.code (MV t k lm d.scope) (qs d)))))))))
noncomputable def AN(P:Params)(t:FT):Bool:=match aY t.name (dS P)with
 |some v=>blt 0 (nc v)&&beq (nc v) t.I
 |none=>false
noncomputable def Gp(P:Params)(d:FuncData):Bool:=blt 0 (nc d.code)&&(QA ((Hd.bD P).get (nc d.code))&&(blt (nc d.code) 914&&(!beq (nc d.code) 910&&(!beq (nc d.code) 912&&(match((jk ((Hd.bD P).get (nc d.code)))[1]?).bind gU with|some q=>ax q d.qualname|none=>false)))))
noncomputable def vM(P:Params)(t:FT)(k:Nat)(g:Nat→Fn):Bool:=PA ((Hd.bD P).get t.I)&&(blt t.I 914&&(!beq t.I 910&&(Gp P (mH P t)&&((!beq t.kd 0||AN P t)&&G5 g (mH P t) t k false))))
section
variable{w:World}{os:OsState}
structure pq(w:World)(t:FT)(fd:FuncData):Prop where
 h:∀(s:Shared)(fs:List Env)(W:cy)(xs:List Value)(n:Nat),bA w fs s.heap W→t.tS≤xs.length→xs.length+n=t.ar→BindsTo s fd ⟨xs,[]⟩ ((qE t).zip (xs++List.replicate n .none))
theorem CS(h:∀xs:List Value,xs.length=t.ar→bindArgs d ⟨xs,[]⟩=pure ((qE t).zip xs))(H:Nat.ble t.ar t.tS=true):pq w t d:=⟨λs F W xs n _ h1 h2=>by
 have e:=Nat.le_antisymm (h2▸le_add_right _ n) (Nat.le_trans (le_of_ble_eq_true H) h1);cases(Nat.add_left_cancel (h2.trans (e.symm.trans (Nat.add_zero _).symm)));rw[replicate_zero,append_nil];exact BindsTo.of_eq (h xs e)⟩
theorem EG(h:AN w.params t=true):dy w.params t.name (.ref t.I):=by
 delta AN at h;generalize e:aY t.name (dS w.params)=o at h;cases o with
 |none=>cases h
 |some v=>exact .inl (e.trans (congrArg some ((yo (aL h)).trans (congrArg Value.ref (eq_of_beq_eq_true (aR h))))))
theorem FU(h:Gp P d=true):d.code≠.ref 912∧∃c O v tk,d.code=.ref c∧(Hd.bD P).get c=some O∧alive O=some O∧c<914∧c≠910∧O.data=.fields v∧v[1]? =some (.str d.qualname tk):=by
 have e:=yo (aL h);have H:=aR (aR (aR (aR (aR h))));refine⟨λq=>ne_of_beq_eq_false (nE (aL (aR (aR (aR (aR h)))))) (Value.ref.inj (e.symm.trans q)),(I5 (aL (aR h))).elim λO y=> ?_⟩;generalize eq:((jk ((Hd.bD P).get (nc d.code)))[1]?).bind gU=o at H;cases o with
 |none=>cases H
 |some q=>exact(sD eq).elim λtk E=>⟨nc d.code,O,_,tk,e,y.1,y.2.1,le_of_ble_eq_true (aL (aR (aR h))),ne_of_beq_eq_false (nE (aL (aR (aR (aR h))))),y.2.2,aD.mp H▸E⟩
theorem CN{d:FuncData}(h1:Hb t d.scope=true)(h2:(qE t).all (λn=>d.scope.names.any (jP n))=true)(H:n∈qE t):d.scope.names.lookup n=some .local∨d.scope.names.lookup n=some .cell:=
 have N:=fT (aL (aR (aR (aR h1))))
 (yF (all_eq_true.mp h2 n H)).imp (bN N) (bN N)
theorem CI{i:Nat}(e:(qE t)[i]? =some n):(sT t)[i]? =some n:=by
 delta qE at e;rw[getElem?_take]at e
 by_cases q:i<t.ar
 ·rw[if_pos q]at e;exact e
 ·rw[if_neg q]at e;cases e
theorem HP(h:Nat.ble t.ar (sT t).length=true):(qE t).length=t.ar:=by
 delta qE;rw[length_take];exact Nat.min_eq_left (le_of_ble_eq_true h)
theorem yt(H:g k=BV t)(h:vM w.params t k g=true)(C:uE g t.code (vG w.params t)=vG w.params t)(hb:pq w t (mH w.params t)):
 AQ w ⟨g,top⟩ k (qE t) (sT t) (MV t k false (mH w.params t).scope) (mH w.params t) (uE g t.code (vG w.params t))∧Al g t.code (MV t k false (mH w.params t).scope) (vG w.params t)=true∧(qE t).length=t.ar:=by
 have J:=aR (aR (aR (aR (aR h))));have d:=FU (aL (aR (aR (aR h))));have ob:∃o,(Hd.bD w.params).get (g k).I=some o∧alive o=some o∧(g k).I<914∧(g k).I≠910∧o.data=.func (mH w.params t):=H▸(BA (aL h)).imp λo y=>⟨y.1,y.2.1,Nat.le_of_ble_eq_true (aL (aR h)),Nat.ne_of_beq_eq_false (nE (aL (aR (aR h)))),y.2.2⟩;have R:(g k).tS=t.tS:=by rw[H];rfl
 delta vG at C⊢;generalize mH w.params t=D at*;have h1:=aL (aR (aR (aR (aR (aR (aR J))))));have h2:=aR (aR (aR (aR (aR (aR (aR J))))));have len:=HP (aL h2);refine⟨⟨ob,C.symm▸AZ (aL J),CX (aL (aR J)),d.1,rfl,eq_of_beq_eq_true (aL (aR (aR J))),eq_of_beq_eq_true (aL (aR (aR (aR J)))),nE (aL (aR (aR (aR (aR J))))),nE (aL (aR (aR (aR (aR (aR J)))))),xR h1,d.2,
  (fT (aL (aR h1))).sublist (take_sublist ..),λi n e=>CI e,len.symm▸(le_of_ble_eq_true (aL h2)),λn N=>CN h1 (aL (aR h2)) N,λs F W xs n B r P=>hb.h s F W xs n B (R▸r) (len▸P)⟩,aR (aR h2),len⟩
noncomputable def Nf(s:Str):Bool:=(range 10).all λn=> !ax s (an n)
theorem Il(h:Nf s=true):∀k,s≠an k:=λk=>by
 have z:∀n,n<10→s≠an n:=λn H=>λq=>bB (nE (all_eq_true.mp h n (mem_range.mpr H))) q.symm
 by_cases q:9≤k
 ·rw[wi q,←wi (Nat.le_refl 9)];exact z 9 (by decide)
 ·exact z k (lt_succ_of_lt (Nat.not_le.mp q))
noncomputable def AE(P:Params)(c:Nat)(t:FT):Prop:=findIn (Kc P c) (.ref (cJ c)) t.name=some (some (.ref t.I))∧typeIn (Kc P c) (.ref t.I)=some (.type "function")
structure Ds(w:World)(t:FT)(k:Nat)(g:Nat→Fn):Prop where
 GI:vM w.params t k g=true∧uE g t.code (vG w.params t)=vG w.params t
 bind:pq w t (mH w.params t)
 bp:j3 t.code≤40
 z9:(t.kd=1→AE w.params 1 t∧Nf t.name=true)∧∀c,c<2→t.kd=2+c→AE w.params c t∧t.name=Str.ofString "__init__"
noncomputable def se(w:World)(k:Nat):Prop:=Ds w (ft k) k Am
theorem Ds.ok(Z:Ds w t k g)(hg:g k=BV t):Ea w ⟨g,top⟩ k:=by
 have Y:=(yt (top:=top) hg Z.GI.1 Z.GI.2 Z.bind).1;have e:(⟨g,top⟩:hW).g k=BV t:=hg;refine⟨Y.obj.imp λo y=>⟨_,y⟩,?_,?_,?_⟩
 ·rw[e];exactλq=>EG ((oE (aL (aR (aR (aR (aR Z.GI.1)))))).elim (λy=>absurd (nE y) (by rw[show t.kd=0 from q];decide)) id)
 ·rw[e];exactλq=>⟨(Z.z9.1 q).1.1,(Z.z9.1 q).1.2,Il (Z.z9.1 q).2⟩
 ·rw[e];exactλc H q=>have m:=Z.z9.2 c H q;⟨m.2▸m.1.1,m.1.2⟩
theorem zU(e:F f=O f)(h:wF w os F ⟨g,t⟩ f):wF w os O ⟨g,H⟩ f:=λS A s W T args xs K X R h1 h2 h3 h4 h5 h6 J h8=>h S A s W T args xs K X R h1 h2 h3 h4 h5 h6 J (e▸h8)
theorem uK(H:∀k,k<n→se w k)(Y:∀k,k<n→wF w os FF ⟨Am,0⟩ k):fA w os (Ly n) ⟨Am,n⟩:=⟨λf F=>Ds.ok (H f F) rfl,λf F=>zU (Bl F).symm (Y f F)⟩
theorem JZ(Z:Ds w t k g)(j:g k=BV t)(b:FF k=MM (Ly k) t)(H:FJ w os (Ly k) ⟨g,k⟩ t.code):wF w os FF ⟨g,0⟩ k:=
 have Y:=yt j Z.GI.1 Z.GI.2 Z.bind
 uM Y.1 Y.2.1 rfl (Nat.le_refl k) Z.bp (Nat.le_refl 40) (λargs K X h=>by
  rw[b]at h;exact⟨h.1.trans Y.2.2.symm,λq xs=>z6 (h.2.1 q) xs,(length_map (f:=Str.ofString)).symm▸h.2.2⟩) H.bk
theorem EZ(H:∀k,k<n→se w k):∀k,k<n→wF w os FF ⟨Am,0⟩ k:=by
 intro k;induction k using Nat.strongRecOn with
 |_ k I=>exactλK=>JZ (H k K) rfl (yX k) (Gj (uK (λj J=>H j (Nat.lt_trans J K)) λj J=>I j J (Nat.lt_trans J K)) _)
end
theorem A0{Q:List Value→Prop}(h:∀a xs,xs.length=n→Q (a::xs)):∀xs,xs.length=n+1→Q xs:=λxs e=>by
 cases xs with
 |nil=>cases e
 |cons a xs=>exact h a xs (succ.inj e)
theorem N1{Q:List Value→Prop}(h:Q []):∀xs,xs.length=0→Q xs:=λxs e=>by
 cases xs with
 |nil=>exact h
 |cons a xs=>cases e
theorem Dt{Q:List Value→Prop}(h:∀a,Q [a]):∀xs,xs.length=1→Q xs:=A0 λa=>N1 (h a)
theorem zN{Q:List Value→Prop}(h:∀a b,Q [a,b]):∀xs,xs.length=2→Q xs:=A0 λa=>Dt (h a)
theorem zg{Q:List Value→Prop}(h:∀a b c,Q [a,b,c]):∀xs,xs.length=3→Q xs:=A0 λa=>zN (h a)
theorem Jm{Q:List Value→Prop}(h:∀a b c d,Q [a,b,c,d]):∀xs,xs.length=4→Q xs:=A0 λa=>zg (h a)
theorem Oc{Q:List Value→Prop}(h:∀a b c d e,Q [a,b,c,d,e]):∀xs,xs.length=5→Q xs:=A0 λa=>Jm (h a)
noncomputable def rf(d)(xs):{k:Option (Array Value)→Sem (List (Str×Value))//bindArgs d ⟨xs,[]⟩=seqItems? d.defaults>>=k}:=⟨_,rfl⟩
noncomputable def JG:Option Obj→Option (Array Value)
|some ⟨_,_,.seq xs _,_⟩=>some xs
|_=>none
theorem H6(h:JG o=some v):∃O n,o=some O∧alive O=some O∧O.data=.seq v n:=by
 cases o with
 |none=>cases h
 |some o=>
  obtain⟨c,d,dd,sl⟩:=o;cases dd<;>first|cases h;done|(cases h;exact⟨_,_,rfl,rfl,rfl⟩)
section
variable{w:World}
theorem xu{T:Addr}(hd:d.defaults=.ref T)(H:Nat.blt T 910=true)(O:JG ((Hd.bD w.params).get T)=some items)
 (hb:∀(xs:List Value)(n:Nat),t.tS≤xs.length→xs.length+n=t.ar→(rf d xs).1 (some items)=pure ((qE t).zip (xs++List.replicate n .none))):pq w t d:=by
 refine⟨λs F W xs n B h1 h2=> ?_⟩;obtain⟨o,m,g,j,N⟩:=H6 O;have lt:=le_of_ble_eq_true H;intro M A E Q q;have x:=hb xs n h1 h2;generalize rf d xs=K at x;obtain⟨k,e⟩:=K;rw[e,hd];refine wpAny_bind (wpAny_seqItems (B.obj (Nat.lt_of_lt_of_le lt (by decide)) (ne_of_lt lt) g j) N ?_);rw[show k (some items)=_ from x];exact wpAny_pure q
theorem AV{T:Addr}(hd:d.defaults=.ref T)(H:Nat.blt T 910=true)(o:JG ((Hd.bD w.params).get T)=some items)(r:t.tS=a∧t.ar=a)
 (b:∀xs:List Value,xs.length=a→(rf d xs).1 (some items)=pure ((qE t).zip (xs++List.replicate 0 .none))):pq w t d:=xu hd H o λxs n h1 h2=>by
 obtain⟨B,R⟩:=r;obtain rfl:n=0:=zl 0x42b241b2ebe645952d59937 rfl h1 h2 B R;exact b xs (zl 575834082732365 rfl R h2)
theorem Cm{T:Addr}(hd:d.defaults=.ref T)(H:Nat.blt T 910=true)(o:JG ((Hd.bD w.params).get T)=some items)(r:t.tS=a∧t.ar=a+1)
 (b:∀xs:List Value,xs.length=a+1→(rf d xs).1 (some items)=pure ((qE t).zip (xs++List.replicate 0 .none)))(b1:∀xs:List Value,xs.length=a→(rf d xs).1 (some items)=pure ((qE t).zip (xs++List.replicate 1 .none))):pq w t d:=xu hd H o λxs n h1 h2=>by
 obtain⟨B,R⟩:=r;rcases(by exact zl 0x7e299cea2d82bbdaac31952d59937 rfl h1 h2 B R:n=0∨n=1)with rfl|rfl
 ·exact b xs (zl 0x21459e2cafcdc73e05 rfl R h2)
 ·exact b1 xs (zl 0x82edfba2fc73e05 rfl R h2)
end
noncomputable def BK(P:Params)(k:Nat)(items:Array Value)(n:Nat)(xs:List Value):Prop:=(rf (mH P (ft k)) xs).1 (some items)=pure ((qE (ft k)).zip (xs++replicate n .none))
section
variable{w:World}
noncomputable def BQ(w:World)(k:Nat):Prop:=pq w (ft k) (mH w.params (ft k))
theorem Ox(k T:Nat)(items)(h1:(mH w.params (ft k)).defaults=.ref T)(h2:JG ((Hd.bD w.params).get T)=some items)(h3:((ft k).tS,(ft k).ar)=(a,a))(H:Nat.blt T 910=true)(b:∀xs:List Value,xs.length=a→BK w.params k items 0 xs):BQ w k:=AV h1 H h2 (Prod.mk.inj h3) b
theorem Qg(k T:Nat)(items)(h1:(mH w.params (ft k)).defaults=.ref T)(h2:JG ((Hd.bD w.params).get T)=some items)(h3:((ft k).tS,(ft k).ar)=(a,a+1))(H:Nat.blt T 910=true)(b:∀xs:List Value,xs.length=a+1→BK w.params k items 0 xs)(b1:∀xs:List Value,xs.length=a→BK w.params k items 1 xs):BQ w k:=Cm h1 H h2 (Prod.mk.inj h3) b b1
theorem OQ:BQ w 26:=Ox 26 212 #[.int 7 451] (by kernel_rfl) (by kernel_rfl) (by kernel_rfl) rfl (zN λ_ _=>by unfold BK;kernel_rfl)
theorem Nu:BQ w 27:=Qg 27 301 #[.none] (by kernel_rfl) (by kernel_rfl) (by kernel_rfl) rfl (Jm λ_ _ _ _=>by unfold BK;kernel_rfl) (zg λ_ _ _=>by unfold BK;kernel_rfl)
theorem NK:BQ w 52:=Ox 52 638 #[.none] (by kernel_rfl) (by kernel_rfl) (by kernel_rfl) rfl (zg λ_ _ _=>by unfold BK;kernel_rfl)
theorem O6:BQ w 54:=Qg 54 651 #[.none] (by kernel_rfl) (by kernel_rfl) (by kernel_rfl) rfl (zg λ_ _ _=>by unfold BK;kernel_rfl) (zN λ_ _=>by unfold BK;kernel_rfl)
theorem Nr:BQ w 64:=Ox 64 716 #[.bool false,.bool true] (by kernel_rfl) (by kernel_rfl) (by kernel_rfl) rfl (zg λ_ _ _=>by unfold BK;kernel_rfl)
noncomputable def xV(P:Params)(k:Nat):Bool:=vM P (ft k) k Am&&(ble (j3 (ft k).code) 40&&(beq (ft k).kd 0||((beq (ft k).kd 1&&Nf (ft k).name)||((beq (ft k).kd 2||beq (ft k).kd 3)&&ax (ft k).name (ofString "__init__")))))
noncomputable def kc(k:Nat):Nat:=cond (beq (ft k).kd 1) 1 ((ft k).kd-2)
noncomputable def Na(P:Params)(k:Nat):Option (Option Value)×Option Value:=cond (beq (ft k).kd 0) (none,none) (findIn (Kc P (kc k)) (.ref (cJ (kc k))) (ft k).name,typeIn (Kc P (kc k)) (.ref (ft k).I))
noncomputable def N0(k:Nat):Option (Option Value)×Option Value:=cond (beq (ft k).kd 0) (none,none) (some (some (.ref (ft k).I)),some (.type "function"))
noncomputable def Ij{Y U}(f:Y→U)(l:List Y):List U:=l.foldr (λa r=>f a::r) []
theorem xJ{f g:Y→U}(h:l.map f=Ij g l):∀k∈l,f k=g k:=by
 induction l with
 |nil=>exactλk q=>by cases q
 |cons a l I=>
  obtain⟨h1,h2⟩:=cons.inj h;exactλk q=>(mem_cons.mp q).elim (λe=>e▸h1) (I h2 k)
theorem P9(h:n<2)(q:n=2+c):False:=Nat.lt_irrefl _ (Nat.lt_of_lt_of_le (q▸h) (le_add_right 2 c))
theorem Jt(h:xV w.params k=true)(t:uE Am (ft k).code (vG w.params (ft k))=vG w.params (ft k))(H:Na w.params k=N0 k)(hb:BQ w k):se w k:=by
 have m:∀{b c},Nat.beq (ft k).kd 0=b→kc k=c→b=false→AE w.params c (ft k):=λE j N=>by
  unfold Na N0 at H;rw[E,j,N]at H;exact Prod.mk.inj H
 refine⟨⟨aL h,t⟩,hb,le_of_ble_eq_true (aL (aR h)),λq=> ?_,λc C q=> ?_⟩
 ·rcases oE (aR (aR h))with y|y
  ·exact nomatch q.symm.trans (eq_of_beq_eq_true y)
  ·refine⟨m rfl (by unfold kc;rw[q];rfl) (by rw[q];rfl),?_⟩
   rcases oE y with y|y
   ·exact aR y
   ·rw[q]at y;cases aL y
 ·rcases oE (aR (aR h))with y|y
  ·exact(P9 (by decide) ((eq_of_beq_eq_true y).symm.trans q)).elim
  ·refine⟨m rfl (by unfold kc;rw[q,Nat.add_comm];rfl) (by rw[q,Nat.add_comm];rfl),?_⟩
   rcases oE y with y|y
   ·exact(P9 (by decide) ((eq_of_beq_eq_true (aL y)).symm.trans q)).elim
   ·exact aD.mp (aR y)
noncomputable def G3(w:World)(n:Nat):Prop:=∀k,k<n→se w k
theorem jK(o:l.all (xV w.params)=true)(H:(l.all λk=>Nat.beq (ft k).ar n&&Nat.ble n (ft k).tS)=true)(h:∀xs:List Value,xs.length=n→l.map (λk=>bindArgs (mH w.params (ft k)) ⟨xs,[]⟩)=Ij (λk=>pure ((qE (ft k)).zip xs)) l):∀k∈l,BQ w k:=λk K=>
 have a:=all_eq_true.mp H k K;have e:=eq_of_beq_eq_true (aL a)
 CS (λxs x=>xJ (h xs (x.trans e)) k K) (e.symm▸aR a)
theorem dg(H:l.all (xV w.params)=true)(t:l.map (λk=>(uE Am (ft k).code (vG w.params (ft k)),Na w.params k))=Ij (λk=>(vG w.params (ft k),N0 k)) l)(hb:∀k∈l,BQ w k):∀k∈l,se w k:=λk K=>
 have e:=Prod.mk.inj (xJ t k K)
 Jt (all_eq_true.mp H k K) e.1 e.2 (hb k K)
noncomputable abbrev M7:List Nat:=[2,3,4,5,6,11,13,15,16,19,28,29]
theorem QB:M7.all (xV w.params)=true:=by kernel_rfl
theorem Ra:∀k∈M7,se w k:=dg QB (by kernel_rfl) (jK QB (by kernel_rfl) (Dt λ_=>by kernel_rfl))
noncomputable abbrev Nt:List Nat:=[30,31,32,33,34,37,38,39,43,46,48,50]
theorem Qn:Nt.all (xV w.params)=true:=by kernel_rfl
theorem Rq:∀k∈Nt,se w k:=dg Qn (by kernel_rfl) (jK Qn (by kernel_rfl) (Dt λ_=>by kernel_rfl))
noncomputable abbrev Nv:List Nat:=[51,57,65,66,71,75,76,78,81,82,86,87]
theorem Qd:Nv.all (xV w.params)=true:=by kernel_rfl
theorem Rg:∀k∈Nv,se w k:=dg Qd (by kernel_rfl) (jK Qd (by kernel_rfl) (Dt λ_=>by kernel_rfl))
noncomputable abbrev Nq:List Nat:=[91]
theorem Qw:Nq.all (xV w.params)=true:=by kernel_rfl
theorem Rz:∀k∈Nq,se w k:=dg Qw (by kernel_rfl) (jK Qw (by kernel_rfl) (Dt λ_=>by kernel_rfl))
noncomputable abbrev Nn:List Nat:=[0,1,7,8,9,10,12,14,18,20,21,22]
theorem Qu:Nn.all (xV w.params)=true:=by kernel_rfl
theorem Rb:∀k∈Nn,se w k:=dg Qu (by kernel_rfl) (jK Qu (by kernel_rfl) (zN λ_ _=>by kernel_rfl))
noncomputable abbrev Pd:List Nat:=[23,24,25,35,36,40,41,44,47,49,53,55]
theorem Qa:Pd.all (xV w.params)=true:=by kernel_rfl
theorem QU:∀k∈Pd,se w k:=dg Qa (by kernel_rfl) (jK Qa (by kernel_rfl) (zN λ_ _=>by kernel_rfl))
noncomputable abbrev OM:List Nat:=[62,63,67,68,72,74,83,84,85,88,89]
theorem Qq:OM.all (xV w.params)=true:=by kernel_rfl
theorem QV:∀k∈OM,se w k:=dg Qq (by kernel_rfl) (jK Qq (by kernel_rfl) (zN λ_ _=>by kernel_rfl))
noncomputable abbrev NJ:List Nat:=[17,42,45,56,77,79,80,92]
theorem Qb:NJ.all (xV w.params)=true:=by kernel_rfl
theorem QY:∀k∈NJ,se w k:=dg Qb (by kernel_rfl) (jK Qb (by kernel_rfl) (zg λ_ _ _=>by kernel_rfl))
noncomputable abbrev OF:List Nat:=[61,69,70,73,90]
theorem P8:OF.all (xV w.params)=true:=by kernel_rfl
theorem QZ:∀k∈OF,se w k:=dg P8 (by kernel_rfl) (jK P8 (by kernel_rfl) (Jm λ_ _ _ _=>by kernel_rfl))
noncomputable abbrev Pj:List Nat:=[58,59,60]
theorem Qt:Pj.all (xV w.params)=true:=by kernel_rfl
theorem Q8:∀k∈Pj,se w k:=dg Qt (by kernel_rfl) (jK Qt (by kernel_rfl) (Oc λ_ _ _ _ _=>by kernel_rfl))
noncomputable abbrev Hv:List Nat:=[26,27,52,54,64]
theorem NW:Hv.all (xV w.params)=true:=by kernel_rfl
theorem PB:∀k∈Hv,se w k:=dg NW (by kernel_rfl) λk H=>by
 rcases mem_cons.mp H with rfl|H
 ·exact OQ
 rcases mem_cons.mp H with rfl|H
 ·exact Nu
 rcases mem_cons.mp H with rfl|H
 ·exact NK
 rcases mem_cons.mp H with rfl|H
 ·exact O6
 cases mem_singleton.mp H;exact Nr
theorem dJ{l m:List Nat}(h:∀k∈l,se w k)(g:∀k∈m,se w k):∀k∈l++m,se w k:=λk q=>(mem_append.mp q).elim (h k) (g k)
theorem IQ:((range 93).all λk=>(M7++(Nt++(Nv++(Nq++(Nn++(Pd++(OM++(NJ++(OF++(Pj++Hv)))))))))).any (beq k))=true:=by kernel_rfl
theorem PS(w):G3 w 93:=λk H=>by
 obtain⟨m,h1,h2⟩:=any_eq_true.mp (all_eq_true.mp IQ k (mem_range.mpr H));cases eq_of_beq_eq_true h2;exact(dJ Ra (dJ Rq (dJ Rg (dJ Rz (dJ Rb (dJ QU (dJ QV (dJ QY (dJ QZ (dJ Q8 (PB))))))))))) k h1
end
noncomputable def CY(P:Params)(t:FT)(g:Nat→Fn):Bool:=PA ((Hd.bD P).get t.I)&&(G5 g (mH P t) t 93 true&&ble (j3 t.code) 40)
theorem D0(P):CY P (ft 93) Am=true∧uE Am (ft 93).code (vG P (ft 93))=vG P (ft 93):=⟨by kernel_rfl,by kernel_rfl⟩
theorem CH(P):∀x,bindArgs (mH P (ft 93)) ⟨[x],[]⟩=pure [(ofString "script",x)]:=λx=>by kernel_rfl
theorem BE(P):(mH P (ft 93)).code=.ref 912∧((jk ((Hd.bD P).get 912))[1]?).bind gU=some (mH P (ft 93)).qualname∧((mH P (ft 93)).qualname++(".<locals>."))++("<lambda>")=kL:=⟨by kernel_rfl,by kernel_rfl,by kernel_rfl⟩
theorem EN:(ft 93).I=913∧(ft 93).ar=1∧qE (ft 93)=[ofString "script"]∧(ft 93).fx=false:=⟨by kernel_rfl,by kernel_rfl,by kernel_rfl,by kernel_rfl⟩
theorem AK(P):(Hd.H1 P).get? 910=some (cK #[]):=lX (by decide) (by kernel_rfl) rfl
noncomputable def ER:cy:=dz (λ_=>(0,0)) 910 (5,0)
theorem PV(n:b≠910):(ER b).1=0:=congrArg Prod.fst (bW n)
theorem yM:(ER 910).1=5:=congrArg Prod.fst aJ
section
variable{w:World}{os:OsState}
theorem aH.Nl(C:aH w fs pl ρ h W)(l:(W 910).1=5)(e9:h.get? 910=some (cK vs))(TO:pS h W vs.toList):aH w fs pl ρ h (dz W 910 (4,0)):=by
 have N:∀{b n},n≠5→(W b).1=n→dz W 910 (4,0) b=W b:=λN q=>bW λe=>N (q.symm.trans (e▸l));have K:Kp h W h (dz W 910 (4,0)):=λb o e Q=>⟨e,(N (by decide) Q).symm▸Q⟩;have M:∀j,Mv h W (10+j) h (dz W 910 (4,0)) (10+j):=λj b o e J=>⟨e,(N (Nat.ne_of_gt (Nat.lt_of_lt_of_le (by decide) (Nat.le_add_right 10 j))) J).trans (Prod.ext J rfl)⟩;exact⟨λb o e n=>have z:=C.base b o e n;⟨z.1,(congrArg Prod.fst (bW n)).trans z.2⟩,.inr ⟨congrArg Prod.fst aJ,vs,e9,TO.step K⟩,C.len,C.a9,λi S e=>(C.slots i S e).imp λx q=>⟨q.1,q.2.imp id λy=>y.imp λv y=>⟨y.1,y.2.dh K (M i)⟩⟩,
  λi H=>(bW (zZ C H e9).symm).symm▸C.bH i H,λenv E=>have y:=C.frames env E;⟨y.1,y.2.imp λL y=>y.imp λm y=>⟨y.1,y.2.1,(λq=>q.elim (λy=>.inl ((congrArg Prod.fst (N (by decide) y)).trans y)) λy=>.inr ((congrArg Prod.fst (N (by decide) y)).trans y)) y.2.2⟩⟩,
  C.head.imp λenv y=>y.imp λO y=>y.imp λL y=>y.imp λm y=>⟨y.1,y.2.1,y.2.2.1,(congrArg Prod.fst (N (by decide) y.2.2.2)).trans y.2.2.2⟩⟩
theorem HK{sl ps:List Str}(H:At d L)(x:InCallC s L (bindL (callEnvC d L a).kindOf (ps.zip vals) λ_=>none) (callEnvC d L a).cells (bindC (callEnvC d L a).kindOf (ps.zip vals) λ_=>none) j)(Q:((ps.zip vals).map (·.1)).Nodup)
 (D:∀{i:Nat}{n v},sl[i]? =some n→vals[i]? =some v→(n,v)∈ps.zip vals)(C:∀n∈ps,d.scope.names.lookup n=some .local∨d.scope.names.lookup n=some .cell):∀i n,sl[i]? =some n→nh (callEnvC d L a) sl i≠.cell 910∧((∃c,nh (callEnvC d L a) sl i=.cell c∧L<c)∨nh (callEnvC d L a) sl i=.ns L n)∧∃x,(nh (callEnvC d L a) sl i).At j.heap x∧∀v,vals[i]? =some v→x=some v:=λi n h=>
 ⟨GN H h,fM H h (λc k O _ e l=>⟨.inl ⟨c,e,l⟩,_,by rw[e];exact x.cell n c O,λv V=>(iY (m:=λ_=>none) Q (D h V)).2 λq=>nomatch k.symm.trans (q:d.scope.names.lookup n=some .local)⟩)
  λk e=>⟨.inr e,_,by rw[e];exact⟨_,x.toInCall.ns,rfl⟩,λv V=>(iY (m':=λ_=>none) Q (D h V)).1 ((C n (of_mem_zip (D h V)).1).resolve_right k)⟩⟩
theorem Mt(H:∀b o,(Hd.H1 w.params).get? b=some o→h.get? b=some o)(p:∀b o,h.get? b=some o→U.get? b=some o)(k':KT U (dz (ig 7 h.objs.size ER) 910 (4,0)) h' W'):OldK h h':=by
 have E:=H _ _ (AK w.params);have O:=λb ob q e=>(k'.ex b ob (p _ _ e) (by
  rw[bW q,gJ (lt_size e)];exact .inl (Lw (.inl rfl) (PV q)))).1
 obtain⟨_,more,N⟩:=k'.iZ _ (congrArg Prod.fst aJ) (p _ _ E);refine⟨λb ob e=> ?_,λb ob e=> ?_⟩
 ·by_cases q:b=910
  ·subst q
   cases E.symm.trans e;exact .inr (.inl ⟨⟨912,_,_,H _ _ (lX (a:=912) (by decide) (HI w.params) rfl),rfl,rfl,(JT w.params).1⟩,rfl,_,more,rfl,N⟩)
  ·exact .inl (O b ob q e)
 ·by_cases q:b=910
  ·exact q▸⟨_,N⟩
  ·exact⟨ob,O b ob q e⟩
end
section
variable{w:World}{os:OsState}
theorem Bz{b:T}{fn:hW}(H:gj w os F fn b){c:uo fn}{z:dt w os c}{h:Heap}{R:Result→Shared→Prop}{E:Value→Shared→Prop}(ok:Al fn.g b c.cf body=true)(u:j3 b≤c.u)(Y:∀b o,(Hd.H1 w.params).get? b=some o→h.get? b=some o)(p:∀b o,h.get? b=some o→z.s.heap.get? b=some o)
 (D:z.W=dz (ig 7 h.objs.size ER) 910 (4,0))(g:ex F b z.ρ (λρ=>Rv.j .none=.j (.bool true)) (λ_=>False) (λr ρ=>r=.j (.bool true)) (λ_=>False))(C:∀t,t.gens= #[]→t.os=os→OldK h t.heap→R (.ok (.ret (.bool true))) t):
 wpAny (model PP w) c.A (execs (uE fn.g b body) c.env) (λf t=>R (.ok (.ret (match f with|.ret v=>v|_=>.none))) t) E z.s:=
 H c z body _ _ _ _ _ _ ok u g ⟨λZ h k=>(nomatch h),λZ h=>h.elim,λr Z v h' k' O=>by
  subst h';have V:VR w Z.s.heap Z.W (.bool true) v:=O;cases V;exact C Z.s Z.S.gens Z.S.os (Mt (W':=Z.W) Y p (D▸k'))⟩ λm a t h' _=>h'.elim
theorem EV{t:FT}{R:Result→Shared→Prop}(M:G3 w 93)(H:∀b o,(Hd.H1 w.params).get? b=some o→s.heap.get? b=some o)(g:s.gens= #[])(o:s.os=os)(Q:VR w s.heap ER (.o l) x)
 (L:CY w.params t Am=true∧uE Am t.code (vG w.params t)=vG w.params t)(D:bindArgs (mH w.params t) ⟨[x],[]⟩=pure [(Str.ofString "script",x)])
 (J:(mH w.params t).code=.ref 912∧((jk ((Hd.bD w.params).get 912))[1]?).bind gU=some (mH w.params t).qualname∧((mH w.params t).qualname++(".<locals>.":Str))++("<lambda>":Str)=kL)(O:t.I=913∧t.ar=1∧qE t=[Str.ofString "script"]∧t.fx=false)
 (u:wb (Ly 93) t.sl.length t.code [.j (.o l)] (λr _=>r=.j (.bool true)) (λ_=>False))
 (f:∀d,d.gens= #[]→d.os=os→OldK s.heap d.heap→R (.ok (.ret (.bool true))) d):codeAny (model PP w) callerA (.call (.ref 913) ⟨[x],[]⟩) R s:=by
 have K:=aL (aR L.1);have bp:j3 t.code≤40:=Nat.le_of_ble_eq_true (aR (aR L.1));obtain⟨ob,I,m,P⟩:=BA (aL L.1);have P:ob.data=.func (mH w.params t):=P;have T:=L.2;obtain⟨Z,G,Y,RA⟩:=O;rw[Z]at I;delta vG at T;clear L;generalize mH w.params t=F at*;have h1:=aL (aR (aR (aR (aR (aR (aR K))))));have h2:=aR (aR (aR (aR (aR (aR (aR K))))));have h3:(qE t).all (λn=>F.scope.names.any (jP n))=true:=aL (aR h2);have sc:=xR (k:=93) (lm:=true) h1;have B:bA w [] s.heap ER:=⟨λb o e n=>⟨H b o e,PV n⟩,⟨.inr (.inr yM),#[],H _ _ (AK _)⟩,λenv E=>nomatch E⟩;obtain⟨tq,c4⟩:=sD J.2.1;have xZ:=Heap.lt_size (H _ _ (AK _));have A:∀n∈[Str.ofString "script"],F.scope.names.lookup n=some .local∨F.scope.names.lookup n=some .cell:=λn hn=>CN h1 h3 (Y▸hn);refine codeAny_call_function (by decide+kernel) (B.obj (a:=913) (by decide) (by decide) I m) P (nE (aL (aR (aR (aR (aR K)))))) (nE (aL (aR (aR (aR (aR (aR K))))))) (T.symm▸AZ (aL K):F.body=.stmts (uE Am t.code (qs F))) ⟨912,_,_,tq,J.1,B.obj (a:=912) (by decide) (by decide) (HI w.params) rfl,rfl,c4⟩ ?_;rw[D];refine wpAny_pure ?_;rw[CX (aL (aR K))];refine wpAny_newFunctionEnv_cells sc.kind (λy hy=>(A y.1 (by rw[List.mem_singleton.mp hy];exact .head _)).imp id λq=>⟨q,(jf q).elim λc hc=>by rw[hc];rfl⟩) λenv E j X=> ?_;subst E;refine⟨B.k9.keeps X.toInCall.keep,codeAny_func ?_⟩;have U:At F s.heap.objs.size:=⟨xZ,X.apart,X.above⟩;have pre:∀{i:Nat}{n v},(sT t)[i]? =some n→[x][i]? =some v→(n,v)∈[Str.ofString "script"].zip [x]:=λ{i n v}e1 N=>by
  cases i with
  |zero=>
   have e:(qE t)[0]? =some (Str.ofString "script"):=by rw[Y];rfl
   cases N;cases(CI e).symm.trans e1;exact .head _
  |succ i=>cases N
 have W:=HK (a:=913) (sl:=sT t) (ps:=[Str.ofString "script"]) (vals:=[x]) U X (List.nodup_cons.mpr ⟨λh=>(nomatch h),List.nodup_nil⟩) pre A;have le:=G▸Nat.le_of_ble_eq_true (aL h2);have V:=G2 (args:=[.j (.o l)]) (vals:=[x]) (t:=7) B g o rfl (.inl rfl) X.toInCall (by rw[show(callEnvC F s.heap.objs.size 913).scope=F.scope from rfl,sc.kind];decide) rfl le sc.len
  (λi S e=>by
   cases i with
   |zero=>cases e;exact⟨x,rfl,Q,.inl rfl⟩
   |succ i=>cases e) (λi h=>ir h) W
 have ln:([Mine.Internal.S.j (.o l)]++List.replicate ((sT t).length-1) Mine.Internal.S.y).length=(sT t).length:=by rw[List.length_append,List.length_replicate];exact Nat.add_sub_cancel' le
 have l5:(ig 7 s.heap.objs.size ER 910).1=5:=by
  rw[gJ xZ];exact oD (C:=λp=>p.1=5) (by rw[yM];decide) (λq=>nomatch yM.symm.trans q) (λq=>by rw[yM]at q;exact absurd q (by decide)) λ_ _=>rfl
 have e9:j.heap.get? 910=some (cK #[]):=X.toInCall.keep _ _ (H _ _ (AK _));have C4:=V.H.Nl l5 e9 ⟨trivial,λp cv e=>nomatch e⟩;exact Bz (Gj (uK M (EZ M)) t.code).bk (c:=Aw (a:=913) U sc (Nat.eq_of_beq_eq_true (aL (aR (aR K)))) (Nat.eq_of_beq_eq_true (aL (aR (aR (aR K))))) [] (callerA.deeper (callEnvC F s.heap.objs.size 913)) 40 ⟨rfl,rfl,by show(1+claimMargin)+1+4*93<880;decide,by show 4+3+60*93+40+70<9900;decide⟩ (Nat.le_refl 93) none (.inl rfl) (λ_=>⟨J.1,J.2.2⟩))
  (z:=⟨⟨_,j,dz (ig 7 s.heap.objs.size ER) 910 (4,0),V.gens,V.os,C4⟩,λi c hi e=>by
   by_cases q:c=910
   ·exact q▸congrArg Prod.fst aJ
   ·exact(congrArg Prod.fst (bW q)).trans (Dn W (ln▸hi) e),λv e=>(nomatch e),λ_=>congrArg Prod.fst aJ⟩) (aR (aR h2)) bp H X.toInCall.keep rfl (by
    have u:=u;rw[←List.length_map (as:=t.sl)]at u;exact u) f
end
theorem MK(P):aY (ofString "law") (dS P)=some (.ref 913):=by kernel_rfl
theorem Ej(h:WShape.hasItems [] xs .int=true):∃l:List Int,xs=l.map WData.int:=by
 have z:=hasItemsW_at h;induction xs with
 |nil=>exact⟨[],rfl⟩
 |cons d xs I=>
  obtain⟨i,e⟩:=hasW_int (z d (.head _));obtain⟨l,E⟩:=I (by rw[hasItems_all]at h⊢;simp only[List.all_cons,Bool.and_eq_true]at h;exact h.2) λd hd=>z d (.tail _ hd);exact⟨i::l,by rw[e,E];rfl⟩
theorem EW(h:PySem.Challenge.rw_nz0536_01.row.pre.holds [] {args:=[.list xs]}=true):xs.length≤63:=by
 by_cases q:xs.length≤63
 ·exact q
 ·exfalso
  have e:PySem.Challenge.rw_nz0536_01.row.pre=.and (.not (.lt (.lit (.int 63)) (.len (.arg 0)))) (.lit (.bool true)):=rfl;rw[e]at h;have lt:(63:Int)<(xs.length:Int):=zl 0x511872f51981b rfl q;have E:Num.less? (.int 63) (.int xs.length)=some true:=by show some (decide _)=_;rw[decide_eq_true lt]
  simp[WTm.holds,WTm.value,less?,E]at h
theorem xh{l:List Int}:∀{v},WellAll P h v (l.map WData.int)→cW w h W (l.map V.int) v:=by
 induction l with
 |nil=>intro v q;cases q;exact .nil
 |cons i l I=>intro v q;cases q with|cons x r=>cases x;exact .cons (.int i _) (I r)
theorem JS(H:∀t:List Int,t.length≤63→wb (Ly 93) (ft 93).sl.length (ft 93).code [.j (.o (t.map V.int))] (λr _=>r=.j (.bool true)) (λ_=>False)):
 WalkO Hd.qq Hd.loose (λ_ _=>True) Hd.YP Hd.RW.row.toRowW Hd.r9 [] λf v=>PySem.call f v:=by
 intro w T s mg mb G Y a o p D doc K I A hd c x L X args vals as F z i u e;obtain⟨h1,h2⟩:=pre_splitW F;obtain⟨d,r,rfl,h3,h4⟩:=hasAllW_cons h1;obtain rfl:=hasAllW_nil h4;obtain⟨xs,rfl,h5⟩:=hasW_list h3;obtain⟨l,rfl⟩:=Ej h5;have N:=EW h2;rw[length_map]at N;cases u with
 |cons M y=>
 cases y;cases M with
 | @list b v _ hb Z=>
 have Q:=xh (W:=ER) (w:=w) Z;have m:=Q.length.symm.trans (length_map (f:=V.int));have j:s.heap.Ns mainGlobals (λn=>aY n (dS w.params)):=⟨_,_,_,Y _ _ (lX (by decide) (vg w.params) rfl),rfl,cL (jj _),λn=>iT (cL (jj _))⟩;have U:=G.T.g.eq_nsMap.trans j.eq_nsMap.symm;have C:a=913:=by
  have E:=L;rw[U]at E;have B:=(MK w.params).symm.trans E;cases B;rfl
 subst C;have J:b≠910:=λq=>by
  rw[q,(Y _ _ (AK w.params))]at hb;cases hb
 refine wpAny_call (codeAny_mono (EV (R:=λr S=>(r=.ok (.ret (.bool true))∧S.gens= #[]∧S.os=s.os∧OldK s.heap S.heap)) (PS w) Y X rfl (.o (n:=0) hb (PV J) (by rw[m];exact Nat.le_trans N (by decide)) Q) (D0 w.params) (CH w.params _) (BE w.params) EN (H l N) λS g o k=>⟨rfl,g,o,k⟩) λr S h=> ?_);obtain⟨rfl,P,O,k'⟩:=h;refine⟨.inl ⟨_,.bool true,[],rfl,λcls=>rfl,.bool true,?_,λ_=>⟨nodup_nil,λa A=>by cases A⟩⟩,k',O,?_⟩
 ·show(WShape.has [] (.bool true) .bool&&(WTm.eq .res (.lit (.bool true))).holds [] {args:=[WData.list (l.map WData.int)],res:=some (.bool true),after:=[WData.list (l.map WData.int)]})=true
  kernel_rfl
 ·exact .of_eq P
theorem a9(H:∀t:List Int,t.length≤63→wb (Ly 93) (ft 93).sl.length (ft 93).code [.j (.o (t.map V.int))] (λr _=>r=.j (.bool true)) (λ_=>False)):PySem.Challenge.rw_nz0536_01.Holds:=Hd.top (JS H)
end Mine.Internal
theorem PySem.Challenge.cw_nz0536_01_holds : PySem.Challenge.rw_nz0536_01.Holds := by
 exact Mine.Internal.a9 fun s _ => Mine.Internal.Jz s
