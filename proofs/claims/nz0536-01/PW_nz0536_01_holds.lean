import PyProof.Rows.All
import Wide.All
import OpenK.AllK
import Wide.FinOn
import KE.KIsNot
import PyProof.ExcBaseAll.Exception
import PyProof.ExcAttrAll.Exception
import KE.KLam
import Lean
import PySem.Challenge.RW_nz0536_01
set_option Elab.async false
set_option genSizeOf false
set_option genInjectivity false
set_option genCtorIdx false
set_option linter.all false
set_option maxRecDepth 100000
set_option maxHeartbeats 0
noncomputable section
namespace Mine.Internal.Hd
open PySem PySem.W
noncomputable abbrev PP:Program:=PySem.Challenge.pw_nz0536_01
noncomputable def S:List Stmt:=PP.main.body
noncomputable def sN(i:Nat):Stmt:=(S[i]?).getD (.Pass ⟨0,0,0,0⟩)
set_option backward.match.sparseCases false in
noncomputable def fF:Stmt→Arguments×List Stmt×Scope×Str
|.FunctionDef n a b _ _ _ s _ _ _=>(a,b,s,n)
|.ClassDef _ _ _ b _ _ _ _ _ _ _=>(⟨[],[],none,[],[],none,[]⟩,b,default,Str.ofString "")
|_=>(⟨[],[],none,[],[],none,[]⟩,[],default,Str.ofString "")
noncomputable def aF(x:Stmt):=(fF x).1
noncomputable def bF(x:Stmt):=(fF x).2.1
noncomputable def MM(x:Stmt):=(fF x).2.2.1
noncomputable def Ig(x:Stmt):=(fF x).2.2.2
noncomputable def cb(i j:Nat):Stmt:=((bF (sN i))[j]?).getD (.Pass ⟨0,0,0,0⟩)
noncomputable abbrev N:Value:=.none
noncomputable abbrev r(a:Nat):Value:=.ref a
noncomputable abbrev n(i:Int)(t:Nat):Value:=.int i t
noncomputable abbrev s(x:String)(t:Nat):Value:=.str (Str.ofString x) t
noncomputable abbrev e(P:Params)(x:String)(t:Nat)(v:Value):DictEntry:=⟨PyData.keyHash P (Str.ofString x),.str (Str.ofString x) t,v⟩
noncomputable abbrev tu(l:List Value):Obj:=⟨.type "tuple",none,.seq l.toArray 0,#[]⟩
noncomputable abbrev tb(l:List Value):Obj:=⟨.none,none,.fields l.toArray,#[]⟩
noncomputable abbrev co(l:List Value):Obj:=⟨.type "code",none,.fields l.toArray,#[]⟩
noncomputable def cA(t:BT)(k:Nat):List Obj→BT
|[]=>t
|o::l=>cA (t.ins k o) (k+1) l
noncomputable def Rr:NameKind→Bool
|.local=>true
|_=>false
noncomputable def nl(st:Stmt):List Str:=((MM st).names.filter λx=>Rr x.2).map (·.1)
noncomputable def vl(t:Nat):List Str→List Value
|[]=>[]
|x::l=>.str x t::vl (t+1) l
noncomputable def fr(st:Stmt)(q:Str):Obj:=⟨.none,none,.func {name:=Ig st,qualname:=q,params:=aF st,body:=.stmts (bF st),scope:=MM st,globals:=0,closure:=[],defaults:=.none,kwdefaults:=.none},#[]⟩
noncomputable def fn(st:Stmt)(q:Str)(d m C:Value):Obj:=⟨.type "function",none,.func {name:=Ig st,qualname:=q,params:=aF st,body:=.stmts (bF st),scope:=MM st,globals:=3,closure:=[],defaults:=d,kwdefaults:=.none,pyModule:=m,code:=C,builtins:=0},#[]⟩
noncomputable def cO(st:Stmt)(q:Str)(k f t u:Nat)(v w:Value):Obj:=co [.str (Ig st) t,.str q (t+1),s "/claim/cut.py" (t+2),n st.pos.line 0,n (aF st).args.length 0,n 0 0,n 0 0,n 3 0,r k,.bool true,n 181 0,r (k+1),N,v,w,r f,n u 0,n st.pos.line 0,s "/claim/cut.py" (u+1)]
noncomputable def AA(st:Stmt)(p:String)(k t:Nat)(d m:Value):List Obj:=let q:=Str.ofString p++Ig st;[tu [],tb [],tu (vl (t+3) (nl st)),tu [],fr st q,cO st q k (k+4) t (t+3+(nl st).length) (r (k+2)) (r (k+3)),fn st q d m (r (k+5))]
noncomputable def GG(st:Stmt)(p:String)(k t:Nat)(d m:Value):List Obj:=let q:=Str.ofString p++Ig st;[tu [],tb [],fr st q,cO st q k (k+2) t (t+3) N N,fn st q d m (r (k+3))]
noncomputable def A(i k t:Nat)(m:Value):List Obj:=AA (sN i) "" k t N m
noncomputable def G(i k t:Nat)(m:Value):List Obj:=GG (sN i) "" k t N m
noncomputable def q(P:Params)(i k t:Nat):DictEntry:=⟨PyData.keyHash P (Ig (sN i)),.str (Ig (sN i)) t,r k⟩
noncomputable abbrev m0:Value:=s "__main__" 164
noncomputable abbrev m1:Value:=s "vectorcove.rational" 194
noncomputable abbrev m2:Value:=s "vectorcove.numtext" 335
noncomputable abbrev m3:Value:=s "vectorcove.errors" 528
noncomputable abbrev m4:Value:=s "vectorcove.values" 575
noncomputable abbrev m5:Value:=s "vectorcove.attrs" 678
noncomputable abbrev m6:Value:=s "vectorcove.coerce" 738
noncomputable abbrev m7:Value:=s "vectorcove.index" 874
noncomputable abbrev m8:Value:=s "vectorcove.attrcalls" 885
noncomputable abbrev m9:Value:=s "vectorcove.callargs" 904
noncomputable abbrev Dz:Value:=s "vectorcove.sorting" 1033
noncomputable abbrev DG:Value:=s "vectorcove.cuts" 1138
noncomputable abbrev MO:Value:=s "vectorcove.factors" 1225
noncomputable abbrev Qm:Value:=s "vectorcove.factorcalls" 1256
noncomputable abbrev xu:Value:=s "law_nz0536_01" 1295
noncomputable def Qg(P:Params):Obj:=tu []
noncomputable def Rw(P:Params):Obj:=co [s "<module>" 182,s "<module>" 183,s "/claim/cut.py" 184,n 1 0,n 0 0,n 0 0,n 0 0,n 0 0,r 11,(.bool false),n 181 0,r 12,N,N,N,N,n 185 0,n 1 0,s "/claim/cut.py" 186]
noncomputable def QX(P:Params):Obj:=⟨(.type "frame"),none,.plain,#[(some (r 13)),(some (r 3)),(some (r 3)),none,(some (s "__main__" 164)),none,(some (r 0))]⟩
noncomputable def Q7(P:Params):Obj:=tu [n 0 196,n 0 197]
noncomputable def Rj(P:Params):Obj:=tu [n 1 199,n 0 200]
noncomputable def Ra(P:Params):Obj:=tu [n 0 202,n 1 203]
noncomputable def PQ(P:Params):Obj:=tu [n 7 451]
noncomputable def Pd(P:Params):Obj:=tu [(.type "Exception")]
noncomputable def O4(P:Params):Obj:=⟨(.type "builtin_function_or_method"),none,(.fields #[(.builtin "type.__prepare__"),(.type "type")]),#[]⟩
noncomputable def Oy(P:Params):Obj:=⟨(.type "dict"),none,(.dict #[(e P "__module__" 537 (s "vectorcove.errors" 528)),(e P "__qualname__" 539 (s "CoveError" 538)),(e P "__firstlineno__" 541 (n 278 540)),(e P "__static_attributes__" 542 (r 269))] 4),#[]⟩
noncomputable def Nf(P:Params):Obj:=tu []
noncomputable def PA(P:Params):Obj:=tb []
noncomputable def Nu(P:Params):Obj:=co [s "CoveError" 532,s "CoveError" 533,s "/claim/cut.py" 534,n 278 0,n 0 0,n 0 0,n 0 0,n 0 0,r 265,(.bool false),n 181 0,r 266,N,N,N,N,n 535 0,n 278 0,s "/claim/cut.py" 536]
noncomputable def OF(P:Params):Obj:=⟨(.type "frame"),none,.plain,#[(some (r 267)),(some (r 3)),(some (r 264)),none,(some (s "vectorcove.errors" 528)),none,(some (r 0))]⟩
noncomputable def ND(P:Params):Obj:=tu []
noncomputable def EA(P:Params):Obj:=⟨(.type "dict"),none,(.dict #[(e P "__module__" 537 (s "vectorcove.errors" 528)),(e P "__firstlineno__" 541 (n 278 540)),(e P "__static_attributes__" 542 (r 269)),(e P "__weakref__" 544 (r 272)),(e P "__doc__" 545 N)] 3),#[]⟩
noncomputable def NK(P:Params):Obj:=⟨(.type "getset_descriptor"),none,(.fields #[s "__weakref__" 543,r 271,(.builtin "ExceptionGroup.__weakref__"),N]),#[]⟩
noncomputable def OO(P:Params):Obj:=⟨(.type "super"),none,(.fields #[r 271,r 271,r 271]),#[]⟩
noncomputable def Pr(P:Params):Obj:=⟨(.type "builtin_function_or_method"),none,(.fields #[(.builtin "object.__init_subclass__"),r 271]),#[]⟩
noncomputable def PY(P:Params):Obj:=tu [r 271]
noncomputable def Nc(P:Params):Obj:=⟨(.type "builtin_function_or_method"),none,(.fields #[(.builtin "type.__prepare__"),(.type "type")]),#[]⟩
noncomputable def Nb(P:Params):Obj:=⟨(.type "dict"),none,(.dict #[(e P "__module__" 557 (s "vectorcove.errors" 528)),(e P "__qualname__" 559 (s "Refusal" 558)),(e P "__firstlineno__" 561 (n 280 560)),(e P "__init__" 569 (r 288)),(e P "__static_attributes__" 571 (r 289))] 5),#[]⟩
noncomputable def Nt(P:Params):Obj:=tu []
noncomputable def M3(P:Params):Obj:=tb [n 282 0,n 4 0,r 287]
noncomputable def PH(P:Params):Obj:=co [s "Refusal" 552,s "Refusal" 553,s "/claim/cut.py" 554,n 280 0,n 0 0,n 0 0,n 0 0,n 0 0,r 278,(.bool false),n 181 0,r 279,N,N,N,N,n 555 0,n 280 0,s "/claim/cut.py" 556]
noncomputable def M4(P:Params):Obj:=⟨(.type "frame"),none,.plain,#[(some (r 280)),(some (r 3)),(some (r 277)),none,(some (s "vectorcove.errors" 528)),none,(some (r 0))]⟩
noncomputable def N2(P:Params):Obj:=tu [s "message" 570]
noncomputable def LQ(P:Params):Obj:=⟨(.type "dict"),none,(.dict #[(e P "__module__" 557 (s "vectorcove.errors" 528)),(e P "__firstlineno__" 561 (n 280 560)),(e P "__init__" 569 (r 288)),(e P "__static_attributes__" 571 (r 289)),(e P "__doc__" 572 N)] 2),#[]⟩
noncomputable def AP(P:Params):Obj:=⟨(.type "type"),none,(.cls {name:="Refusal",bases:=[r 271],mro:=[r 291,r 271,(.type "Exception"),(.type "BaseException"),(.type "object")],ns:=290,qualname:="Refusal",hasDict:=true,slotNames:=[],subclasses:=[],abstract:=false,collection:=none,hasDel:=false}),#[(some (r 275)),none,(some (s "Refusal" 550)),(some (s "Refusal" 558)),(some (.builtin "Exception.__new__")),(some (.bool true))]⟩
noncomputable def Pa(P:Params):Obj:=⟨(.type "super"),none,(.fields #[r 291,r 291,r 291]),#[]⟩
noncomputable def NW(P:Params):Obj:=⟨(.type "builtin_function_or_method"),none,(.fields #[(.builtin "object.__init_subclass__"),r 291]),#[]⟩
noncomputable def Pj(P:Params):Obj:=tu []
noncomputable def Ob(P:Params):Obj:=⟨(.type "builtin_function_or_method"),none,(.fields #[(.builtin "type.__prepare__"),(.type "type")]),#[]⟩
noncomputable def Na(P:Params):Obj:=⟨(.type "dict"),none,(.dict #[(e P "__module__" 586 (s "vectorcove.values" 575)),(e P "__qualname__" 588 (s "Vector" 587)),(e P "__firstlineno__" 590 (n 286 589)),(e P "__init__" 600 (r 308)),(e P "copy" 607 (r 315)),(e P "__static_attributes__" 613 (r 316))] 6),#[]⟩
noncomputable def Nh(P:Params):Obj:=tu []
noncomputable def PG(P:Params):Obj:=tb [n 288 0,n 4 0,r 307,n 295 0,n 4 0,r 314]
noncomputable def Ng(P:Params):Obj:=co [s "Vector" 581,s "Vector" 582,s "/claim/cut.py" 583,n 286 0,n 0 0,n 0 0,n 0 0,n 0 0,r 297,(.bool false),n 181 0,r 298,N,N,N,N,n 584 0,n 286 0,s "/claim/cut.py" 585]
noncomputable def OY(P:Params):Obj:=⟨(.type "frame"),none,.plain,#[(some (r 299)),(some (r 3)),(some (r 296)),none,(some (s "vectorcove.values" 575)),none,(some (r 0))]⟩
noncomputable def Ot(P:Params):Obj:=tu [N]
noncomputable def M8(P:Params):Obj:=tu [s "attrs" 608,s "items" 609,s "kind" 610,s "loose" 611,s "shared" 612]
noncomputable def Mu(P:Params):Obj:=⟨(.type "dict"),none,(.dict #[(e P "__module__" 586 (s "vectorcove.values" 575)),(e P "__firstlineno__" 590 (n 286 589)),(e P "__init__" 600 (r 308)),(e P "copy" 607 (r 315)),(e P "__static_attributes__" 613 (r 316)),(e P "__dict__" 615 (r 319)),(e P "__weakref__" 617 (r 320)),(e P "__doc__" 618 N)] 4),#[]⟩
noncomputable def JT(P:Params):Obj:=⟨(.type "type"),none,(.cls {name:="Vector",bases:=[(.type "object")],mro:=[r 318,(.type "object")],ns:=317,qualname:="Vector",hasDict:=true,slotNames:=[],subclasses:=[],abstract:=false,collection:=none,hasDel:=false}),#[none,none,(some (s "Vector" 579)),(some (s "Vector" 587)),(some (.builtin "object.__new__")),(some (.bool true))]⟩
noncomputable def PV(P:Params):Obj:=⟨(.type "getset_descriptor"),none,(.fields #[s "__dict__" 614,r 318,(.builtin "function.__dict__"),(.builtin "function.__dict__#set")]),#[]⟩
noncomputable def Ny(P:Params):Obj:=⟨(.type "getset_descriptor"),none,(.fields #[s "__weakref__" 616,r 318,(.builtin "ExceptionGroup.__weakref__"),N]),#[]⟩
noncomputable def Oh(P:Params):Obj:=⟨(.type "super"),none,(.fields #[r 318,r 318,r 318]),#[]⟩
noncomputable def Pn(P:Params):Obj:=⟨(.type "builtin_function_or_method"),none,(.fields #[(.builtin "object.__init_subclass__"),r 318]),#[]⟩
noncomputable def Pz(P:Params):Obj:=tu []
noncomputable def NR(P:Params):Obj:=⟨(.type "builtin_function_or_method"),none,(.fields #[(.builtin "type.__prepare__"),(.type "type")]),#[]⟩
noncomputable def N4(P:Params):Obj:=⟨(.type "dict"),none,(.dict #[(e P "__module__" 913 (s "vectorcove.callargs" 904)),(e P "__qualname__" 915 (s "Matching" 914)),(e P "__firstlineno__" 917 (n 525 916)),(e P "__init__" 926 (r 571)),(e P "exact" 935 (r 578)),(e P "partial" 943 (r 585)),(e P "partial_of" 953 (r 592)),(e P "positional" 962 (r 599)),(e P "is_free" 970 (r 606)),(e P "rest" 976 (r 611)),(e P "__static_attributes__" 981 (r 612))] 11),#[]⟩
noncomputable def NJ(P:Params):Obj:=tu []
noncomputable def Py(P:Params):Obj:=tb [n 527 0,n 4 0,r 570,n 533 0,n 4 0,r 577,n 543 0,n 4 0,r 584,n 550 0,n 4 0,r 591,n 561 0,n 4 0,r 598,n 573 0,n 4 0,r 605,n 576 0,n 4 0,r 610]
noncomputable def OE(P:Params):Obj:=co [s "Matching" 908,s "Matching" 909,s "/claim/cut.py" 910,n 525 0,n 0 0,n 0 0,n 0 0,n 0 0,r 561,(.bool false),n 181 0,r 562,N,N,N,N,n 911 0,n 525 0,s "/claim/cut.py" 912]
noncomputable def P7(P:Params):Obj:=⟨(.type "frame"),none,.plain,#[(some (r 563)),(some (r 3)),(some (r 560)),none,(some (s "vectorcove.callargs" 904)),none,(some (r 0))]⟩
noncomputable def P6(P:Params):Obj:=tu [s "formals" 977,s "places" 978,s "tags" 979,s "used" 980]
noncomputable def MD(P:Params):Obj:=⟨(.type "dict"),none,(.dict #[(e P "__module__" 913 (s "vectorcove.callargs" 904)),(e P "__firstlineno__" 917 (n 525 916)),(e P "__init__" 926 (r 571)),(e P "exact" 935 (r 578)),(e P "partial" 943 (r 585)),(e P "partial_of" 953 (r 592)),(e P "positional" 962 (r 599)),(e P "is_free" 970 (r 606)),(e P "rest" 976 (r 611)),(e P "__static_attributes__" 981 (r 612)),(e P "__dict__" 983 (r 615)),(e P "__weakref__" 985 (r 616)),(e P "__doc__" 986 N)] 4),#[]⟩
noncomputable def ML(P:Params):Obj:=⟨(.type "type"),none,(.cls {name:="Matching",bases:=[(.type "object")],mro:=[r 614,(.type "object")],ns:=613,qualname:="Matching",hasDict:=true,slotNames:=[],subclasses:=[],abstract:=false,collection:=none,hasDel:=false}),#[none,none,(some (s "Matching" 906)),(some (s "Matching" 914)),(some (.builtin "object.__new__")),(some (.bool true))]⟩
noncomputable def PZ(P:Params):Obj:=⟨(.type "getset_descriptor"),none,(.fields #[s "__dict__" 982,r 614,(.builtin "function.__dict__"),(.builtin "function.__dict__#set")]),#[]⟩
noncomputable def Ni(P:Params):Obj:=⟨(.type "getset_descriptor"),none,(.fields #[s "__weakref__" 984,r 614,(.builtin "ExceptionGroup.__weakref__"),N]),#[]⟩
noncomputable def N9(P:Params):Obj:=⟨(.type "super"),none,(.fields #[r 614,r 614,r 614]),#[]⟩
noncomputable def Pw(P:Params):Obj:=⟨(.type "builtin_function_or_method"),none,(.fields #[(.builtin "object.__init_subclass__"),r 614]),#[]⟩
noncomputable def PE(P:Params):Obj:=tu [N]
noncomputable def NY(P:Params):Obj:=tu [N]
noncomputable def NU(P:Params):Obj:=tu [(.bool false),(.bool true)]
noncomputable def Je(l:List Value)(P:Params):Obj:=⟨(.type "type"),none,(.cls {name:="CoveError",bases:=[(.type "Exception")],mro:=[(r 271),(.type "Exception"),(.type "BaseException"),(.type "object")],ns:=270,qualname:="CoveError",hasDict:=true,slotNames:=[],subclasses:=l,abstract:=false,collection:=none,hasDel:=false}),#[(some (r 262)),none,(some (s "CoveError" 530)),(some (s "CoveError" 538)),(some (.builtin "Exception.__new__")),(some (.bool true))]⟩
noncomputable def mE(P:Params)(nm I:Value):List DictEntry:=[e P "__name__" 165 nm,e P "__doc__" 166 N,e P "__package__" 167 N,e P "__loader__" 168 (.builtin "__main__.__loader__#opaque"),e P "__spec__" 169 N,e P "__annotations__" 170 (r 6),e P "__builtins__" 171 (r 4),e P "__file__" 173 (s "/claim/cut.py" 172),e P "__cached__" 174 N,q P 0 21 193,e P "NAN" 198 (r 22),e P "INF" 201 (r 23),e P "ZERO" 204 (r 24),q P 5 31 212,q P 6 38 221,q P 7 45 228,q P 8 52 235,q P 9 59 242,q P 10 66 249,q P 11 73 257,q P 12 80 264,q P 13 87 272,q P 14 94 280,q P 15 101 288,q P 16 108 296,q P 17 115 304,q P 18 122 314,q P 19 129 324,q P 20 136 334,e P "MOST_EXPONENT" 338 (n (4096) 337),q P 23 143 348,q P 24 150 355,q P 25 157 365,q P 26 164 375,q P 27 171 383,q P 28 178 395,q P 29 185 405,q P 30 192 418,q P 31 199 435,q P 32 206 444,q P 33 211 450,q P 34 219 459,q P 35 226 469,q P 36 233 478,q P 37 240 487,q P 38 247 496,q P 39 254 515,q P 40 261 527,e P "CoveError" 549 (r 271),e P "Refusal" 574 (r 291),e P "MOST_LENGTH" 578 (n (1000000) 577),e P "Vector" 620 (r 318),q P 47 329 627,q P 48 336 634,q P 49 343 641,q P 50 350 648,q P 51 357 655,q P 52 364 663,q P 53 371 670,q P 54 378 677,q P 56 385 687,q P 57 392 695,q P 58 399 703,q P 59 404 709,q P 60 409 715,q P 61 416 723,q P 62 421 729,q P 63 428 737,e P "MOST_INTEGER" 741 (n (2147483647) 740),q P 66 435 749,q P 67 442 756,q P 68 449 765,q P 69 456 775,q P 70 463 783,q P 71 470 792,q P 72 477 801,q P 73 484 809,q P 74 491 819,q P 75 498 826,q P 76 505 836,q P 77 512 844,q P 78 517 850,q P 79 524 858,q P 80 529 864,q P 81 536 873,q P 83 543 884,q P 85 550 895,q P 86 557 903,e P "Matching" 988 (r 614),q P 89 625 995,q P 90 632 1006,q P 91 637 1012,q P 92 643 1018,q P 93 650 1026,q P 94 656 1032,e P "is_lacking" 1042 I,e P "is_lacking_sorting" 1043 (r 663),q P 98 670 1052,q P 99 677 1059,q P 100 684 1075,q P 101 691 1088,q P 102 698 1102,q P 103 703 1108,q P 104 708 1114,q P 105 715 1126,q P 106 723 1137,e P "is_lacking_cuts" 1147 (r 730),q P 110 737 1157,q P 111 742 1163,q P 112 747 1169,q P 113 754 1183,q P 114 759 1189,q P 115 764 1195,q P 116 771 1203,q P 117 778 1218,q P 118 783 1224,q P 120 788 1232,q P 121 795 1239,q P 122 802 1248,q P 123 809 1255,q P 125 816 1282,q P 126 823 1294,q P 128 830 1307,q P 129 837 1314,q P 130 844 1324,q P 131 851 1333,q P 132 858 1343,q P 133 865 1350,q P 134 872 1360,q P 135 877 1366,q P 136 882 1372,q P 137 887 1378,q P 138 894 1391,q P 139 901 1398,q P 140 908 1406,q P 141 913 1412]
noncomputable def tE:List Value:=([(1,20),(8,30),(12,37),(22,44),(26,51),(28,58),(30,65),(32,72),(36,79),(40,86),(50,93),(52,100),(56,107),(64,114),(69,121),(75,128),(86,135),(106,142),(117,149),(125,156),(130,163),(139,170),(144,177),(151,184),(159,191),(166,198),(186,205),(193,210),(197,218),(199,225),(204,232),(208,239),(218,246),(228,253),(260,260),(278,267),(280,280),(286,299),(297,328),(301,335),(303,342),(305,349),(307,356),(311,363),(322,370),(324,377),(329,384),(333,391),(341,398),(345,403),(351,408),(367,415),(372,420),(377,427),(384,434),(387,441),(393,448),(401,455),(407,462),(417,469),(425,476),(431,483),(439,490),(453,497),(455,504),(461,511),(463,516),(477,523),(481,528),(488,535),(503,542),(514,549),(520,556),(525,563),(578,624),(580,631),(589,636),(595,642),(604,649),(608,655),(620,662),(623,669),(631,676),(634,683),(647,690),(653,697),(665,702),(677,707),(681,714),(692,722),(702,729),(705,736),(718,741),(741,746),(754,753),(766,758),(768,763),(775,770),(780,777),(792,782),(807,787),(812,794),(816,801),(822,808),(829,815),(850,822),(856,829),(869,836),(871,843),(877,850),(884,857),(892,864),(894,871),(902,876),(923,881),(933,886),(942,893),(949,900),(953,907),(958,912)]:List (Nat×Nat)).flatMap λx=>[n x.1 0,n 0 0,r x.2]
noncomputable def fe(P:Params)(nm:Value)(k p:Nat)(I:Value):Obj:=⟨.type "dict",none,.dict ((mE P nm I).take k).toArray p,#[]⟩
noncomputable def cD(k:Nat):Obj:=tb (tE.take k)
noncomputable def J8(P:Params):Obj:=⟨N,none,(.dict #[(e P "type.__subclasses__.Exception.0" 546 (n (271) 0)),(e P "type.__subclasses__.Exception.n" 547 (n (1) 0))] 2),#[]⟩
noncomputable def env:Env:={scope:=PP.main.scope,locals:=mainNs,globals:=mainNs,cells:=[],code:=.ref 13,frame:=some 14}
noncomputable def cE:Code:=.body (behindTheImports PP) env
noncomputable abbrev B:List Frame:=[topFrame ⟨0,0,0,0⟩]
noncomputable def sh(T:Params→BT)(k tk:Nat)(w:World)(os:OsState):SharedT:=⟨T w.params,k,{},#[],{},tk,os⟩
noncomputable def T0(P:Params):BT:=cA .nil 0 [boot_o_0 P,boot_o_1 P,boot_o_2 P,fe P (s "__main__" 164) 9 9 N,boot_o_4 P,boot_o_5 P,boot_o_6 P,boot_o_7 P,boot_o_8 P,boot_o_9 P,boot_o_10 P,Qg P,cD 0,Rw P,QX P]
noncomputable def T1(P:Params):BT:=((cA (T0 P) 15 (A 0 15 187 m0++([Q7 P,Rj P,Ra P]++(A 5 25 205 m1++(A 6 32 213 m1++(A 7 39 222 m1++(A 8 46 229 m1++(A 9 53 236 m1++(A 10 60 243 m1++(A 11 67 250 m1++(A 12 74 258 m1++(A 13 81 265 m1++(A 14 88 273 m1++(A 15 95 281 m1)))))))))))))).set 3 (λ_=>fe P (s "vectorcove.rational" 194) 24 24 (r 663))).set 12 (λ_=>cD 36)
noncomputable def g0:List Stmt:=(S.drop 0).take 16
theorem p0(w:World)(os:OsState):segRunT treeTable PP w 11 (some (.ref 6)) 1 401 (sh T0 15 187 w os) (piecesOf g0 env cE ⟨0,0,0,0⟩ B)=some (.next,sh T1 102 289 w os,cE,⟨52,0,55,41⟩):=by
 rw[PySem.W.Fast.te10110043849684766642,PySem.W.Fast.te14364793385576792824];kernel_rfl
noncomputable def T2(P:Params):BT:=((cA (T1 P) 102 (A 16 102 289 m1++(A 17 109 297 m1++(A 18 116 305 m1++(A 19 123 315 m1++(A 20 130 325 m1++(A 23 137 339 m2++(A 24 144 349 m2++(A 25 151 356 m2++(A 26 158 366 m2++(A 27 165 376 m2++(A 28 172 384 m2++(A 29 179 396 m2))))))))))))).set 3 (λ_=>fe P (s "vectorcove.numtext" 335) 37 37 (r 663))).set 12 (λ_=>cD 72)
noncomputable def g1:List Stmt:=(S.drop 16).take 14
theorem p1(w:World)(os:OsState):segRunT treeTable PP w 11 (some (.ref 6)) 1 396 (sh T1 102 289 w os) (piecesOf g1 env cE ⟨52,0,55,41⟩ B)=some (.next,sh T2 186 406 w os,cE,⟨151,0,158,15⟩):=by
 rw[PySem.W.Fast.te10110043849684766642,PySem.W.Fast.te14364793385576792824];kernel_rfl
noncomputable def T3(P:Params):BT:=((cA (T2 P) 186 (A 30 186 406 m2++(A 31 193 419 m2++(A 32 200 436 m2++(G 33 207 445 m2++([PQ P]++(AA (sN 34) "" 213 452 (r 212) m2++(A 35 220 460 m2++(A 36 227 470 m2++(A 37 234 479 m2++(A 38 241 488 m2++(A 39 248 497 m2++(A 40 255 516 m2))))))))))))).set 3 (λ_=>fe P (s "vectorcove.errors" 528) 48 48 (r 663))).set 12 (λ_=>cD 105)
noncomputable def g2:List Stmt:=(S.drop 30).take 12
theorem p2(w:World)(os:OsState):segRunT treeTable PP w 11 (some (.ref 6)) 1 373 (sh T2 186 406 w os) (piecesOf g2 env cE ⟨151,0,158,15⟩ B)=some (.next,sh T3 262 530 w os,cE,⟨277,0,277,8⟩):=by
 rw[PySem.W.Fast.te10110043849684766642,PySem.W.Fast.te14364793385576792824];kernel_rfl
noncomputable def T4(P:Params):BT:=(((cA (T3 P) 262 ([Pd P,O4 P,Oy P,Nf P,PA P,Nu P,OF P,ND P,EA P,Je [] P,NK P,OO P,Pr P])).set 3 (λ_=>fe P (s "vectorcove.errors" 528) 49 49 (r 663))).set 12 (λ_=>cD 108)).set 2 (λ_=>J8 P)
noncomputable def g3:List Stmt:=(S.drop 42).take 1
theorem p3(w:World)(os:OsState):segRunT treeTable PP w 11 (some (.ref 6)) 1 197 (sh T3 262 530 w os) (piecesOf g3 env cE ⟨277,0,277,8⟩ B)=some (.next,sh T4 275 550 w os,cE,⟨278,0,279,8⟩):=by
 rw[PySem.W.Fast.te10110043849684766642,PySem.W.Fast.te14364793385576792824];kernel_rfl
noncomputable def T5(P:Params):BT:=(((cA (T4 P) 275 ([PY P,Nc P,Nb P,Nt P,M3 P,PH P,M4 P]++(AA (cb 43 0) "Refusal." 282 562 N m3++([N2 P,LQ P,AP P,Pa P,NW P])))).set 3 (λ_=>fe P (s "vectorcove.values" 575) 51 51 (r 663))).set 12 (λ_=>cD 111)).set 271 (λ_=>Je [r 291] P)
noncomputable def g4:List Stmt:=(S.drop 43).take 3
theorem p4(w:World)(os:OsState):segRunT treeTable PP w 11 (some (.ref 6)) 1 264 (sh T4 275 550 w os) (piecesOf g4 env cE ⟨278,0,279,8⟩ B)=some (.next,sh T5 294 579 w os,cE,⟨285,0,285,11⟩):=by
 rw[PySem.W.Fast.te10110043849684766642,PySem.W.Fast.te14364793385576792824];kernel_rfl
noncomputable def T6(P:Params):BT:=((cA (T5 P) 294 ([Pj P,Ob P,Na P,Nh P,PG P,Ng P,OY P,Ot P]++(AA (cb 46 0) "Vector." 302 591 (r 301) m4++(AA (cb 46 1) "Vector." 309 601 N m4++([M8 P,Mu P,JT P,PV P,Ny P,Oh P,Pn P]++(A 47 323 621 m4++(A 48 330 628 m4++(A 49 337 635 m4++(A 50 344 642 m4))))))))).set 3 (λ_=>fe P (s "vectorcove.values" 575) 56 56 (r 663))).set 12 (λ_=>cD 126)
noncomputable def g5:List Stmt:=(S.drop 46).take 5
theorem p5(w:World)(os:OsState):segRunT treeTable PP w 11 (some (.ref 6)) 1 377 (sh T5 294 579 w os) (piecesOf g5 env cE ⟨285,0,285,11⟩ B)=some (.next,sh T6 351 649 w os,cE,⟨305,0,306,43⟩):=by
 rw[PySem.W.Fast.te10110043849684766642,PySem.W.Fast.te14364793385576792824];kernel_rfl
noncomputable def T7(P:Params):BT:=((cA (T6 P) 351 (A 51 351 649 m4++(A 52 358 656 m4++(A 53 365 664 m4++(A 54 372 671 m4++(A 56 379 680 m5++(A 57 386 688 m5++(A 58 393 696 m5++(G 59 400 704 m5++(G 60 405 710 m5++(A 61 410 716 m5++(G 62 417 724 m5++(A 63 422 730 m5))))))))))))).set 3 (λ_=>fe P (s "vectorcove.coerce" 738) 69 69 (r 663))).set 12 (λ_=>cD 162)
noncomputable def g6:List Stmt:=(S.drop 51).take 15
theorem p6(w:World)(os:OsState):segRunT treeTable PP w 11 (some (.ref 6)) 1 373 (sh T6 351 649 w os) (piecesOf g6 env cE ⟨305,0,306,43⟩ B)=some (.next,sh T7 429 742 w os,cE,⟨383,0,383,12⟩):=by
 rw[PySem.W.Fast.te10110043849684766642,PySem.W.Fast.te14364793385576792824];kernel_rfl
noncomputable def T8(P:Params):BT:=((cA (T7 P) 429 (A 66 429 742 m6++(A 67 436 750 m6++(A 68 443 757 m6++(A 69 450 766 m6++(A 70 457 776 m6++(A 71 464 784 m6++(A 72 471 793 m6++(A 73 478 802 m6++(A 74 485 810 m6++(A 75 492 820 m6++(A 76 499 827 m6++(A 77 506 837 m6++(G 78 513 845 m6)))))))))))))).set 3 (λ_=>fe P (s "vectorcove.coerce" 738) 82 82 (r 663))).set 12 (λ_=>cD 201)
noncomputable def g7:List Stmt:=(S.drop 66).take 13
theorem p7(w:World)(os:OsState):segRunT treeTable PP w 11 (some (.ref 6)) 1 394 (sh T7 429 742 w os) (piecesOf g7 env cE ⟨383,0,383,12⟩ B)=some (.next,sh T8 518 851 w os,cE,⟨463,0,476,30⟩):=by
 rw[PySem.W.Fast.te10110043849684766642,PySem.W.Fast.te14364793385576792824];kernel_rfl
noncomputable def T9(P:Params):BT:=((cA (T8 P) 518 (A 79 518 851 m6++(G 80 525 859 m6++(A 81 530 865 m6++(A 83 537 876 m7++(A 85 544 887 m8++(A 86 551 896 m8))))))).set 3 (λ_=>fe P (s "vectorcove.callargs" 904) 88 88 (r 663))).set 12 (λ_=>cD 219)
noncomputable def g8:List Stmt:=(S.drop 79).take 9
theorem p8(w:World)(os:OsState):segRunT treeTable PP w 11 (some (.ref 6)) 1 207 (sh T8 518 851 w os) (piecesOf g8 env cE ⟨463,0,476,30⟩ B)=some (.next,sh T9 558 906 w os,cE,⟨524,0,524,8⟩):=by
 rw[PySem.W.Fast.te10110043849684766642,PySem.W.Fast.te14364793385576792824];kernel_rfl
noncomputable def PL(P:Params):BT:=((cA (T9 P) 558 ([Pz P,NR P,N4 P,NJ P,Py P,OE P,P7 P]++(AA (cb 88 0) "Matching." 565 918 N m9++(AA (cb 88 1) "Matching." 572 927 N m9++(AA (cb 88 2) "Matching." 579 936 N m9++(AA (cb 88 3) "Matching." 586 944 N m9++(AA (cb 88 4) "Matching." 593 954 N m9++(AA (cb 88 5) "Matching." 600 963 N m9++(GG (cb 88 6) "Matching." 607 971 N m9++([P6 P,MD P,ML P,PZ P,Ni P,N9 P,Pw P])))))))))).set 3 (λ_=>fe P (s "vectorcove.callargs" 904) 89 89 (r 663))).set 12 (λ_=>cD 222)
noncomputable def g9:List Stmt:=(S.drop 88).take 1
theorem p9(w:World)(os:OsState):segRunT treeTable PP w 11 (some (.ref 6)) 1 419 (sh T9 558 906 w os) (piecesOf g9 env cE ⟨524,0,524,8⟩ B)=some (.next,sh PL 619 989 w os,cE,⟨525,0,577,82⟩):=by
 rw[PySem.W.Fast.te10110043849684766642,PySem.W.Fast.te14364793385576792824];kernel_rfl
noncomputable def NN(P:Params):BT:=((cA (PL P) 619 (A 89 619 989 m9++(A 90 626 996 m9++(G 91 633 1007 m9++([PE P]++(GG (sN 92) "" 639 1013 (r 638) m9++(A 93 644 1019 m9++([NY P]++(GG (sN 94) "" 652 1027 (r 651) m9++(A 96 657 1035 Dz++(A 98 664 1044 Dz++(A 99 671 1053 Dz++(A 100 678 1060 Dz++(A 101 685 1076 Dz++(A 102 692 1089 Dz))))))))))))))).set 3 (λ_=>fe P (s "vectorcove.sorting" 1033) 102 102 (r 663))).set 12 (λ_=>cD 258)
noncomputable def Qq:List Stmt:=(S.drop 89).take 14
theorem Q2(w:World)(os:OsState):segRunT treeTable PP w 11 (some (.ref 6)) 1 391 (sh PL 619 989 w os) (piecesOf Qq env cE ⟨525,0,577,82⟩ B)=some (.next,sh NN 699 1103 w os,cE,⟨653,0,664,40⟩):=by
 rw[PySem.W.Fast.te10110043849684766642,PySem.W.Fast.te14364793385576792824];kernel_rfl
noncomputable def NM(P:Params):BT:=((cA (NN P) 699 (G 103 699 1103 Dz++(G 104 704 1109 Dz++(A 105 709 1115 Dz++([NU P]++(AA (sN 106) "" 717 1127 (r 716) Dz++(A 108 724 1140 DG++(A 110 731 1148 DG++(G 111 738 1158 DG++(G 112 743 1164 DG++(A 113 748 1170 DG++(G 114 755 1184 DG++(G 115 760 1190 DG++(A 116 765 1196 DG)))))))))))))).set 3 (λ_=>fe P (s "vectorcove.cuts" 1138) 114 114 (r 730))).set 12 (λ_=>cD 294)
noncomputable def QG:List Stmt:=(S.drop 103).take 14
theorem Rc(w:World)(os:OsState):segRunT treeTable PP w 11 (some (.ref 6)) 1 371 (sh NN 699 1103 w os) (piecesOf QG env cE ⟨653,0,664,40⟩ B)=some (.next,sh NM 772 1204 w os,cE,⟨775,0,779,16⟩):=by
 rw[PySem.W.Fast.te10110043849684766642,PySem.W.Fast.te14364793385576792824];kernel_rfl
noncomputable def Nm(P:Params):BT:=((cA (NM P) 772 (A 117 772 1204 DG++(G 118 779 1219 DG++(G 120 784 1227 MO++(A 121 789 1233 MO++(A 122 796 1240 MO++(A 123 803 1249 MO++(A 125 810 1258 Qm++(A 126 817 1283 Qm++(A 128 824 1297 xu++(A 129 831 1308 xu++(A 130 838 1315 xu)))))))))))).set 3 (λ_=>fe P (s "law_nz0536_01" 1295) 125 125 (r 730))).set 12 (λ_=>cD 327)
noncomputable def Qt:List Stmt:=(S.drop 117).take 14
theorem Rd(w:World)(os:OsState):segRunT treeTable PP w 11 (some (.ref 6)) 1 381 (sh NM 772 1204 w os) (piecesOf Qt env cE ⟨775,0,779,16⟩ B)=some (.next,sh Nm 845 1325 w os,cE,⟨871,0,876,27⟩):=by
 rw[PySem.W.Fast.te10110043849684766642,PySem.W.Fast.te14364793385576792824];kernel_rfl
noncomputable def bD(P:Params):BT:=((cA (Nm P) 845 (A 131 845 1325 xu++(A 132 852 1334 xu++(A 133 859 1344 xu++(A 134 866 1351 xu++(G 135 873 1361 xu++(G 136 878 1367 xu++(G 137 883 1373 xu++(A 138 888 1379 xu++(A 139 895 1392 xu++(A 140 902 1399 xu++(G 141 909 1407 xu)))))))))))).set 3 (λ_=>fe P (s "law_nz0536_01" 1295) 136 136 (r 730))).set 12 (λ_=>cD 360)
noncomputable def Ql:List Stmt:=(S.drop 131).take 11
theorem Q1(w:World)(os:OsState):segRunT treeTable PP w 11 (some (.ref 6)) 1 323 (sh Nm 845 1325 w os) (piecesOf Ql env cE ⟨871,0,876,27⟩ B)=some (.next,sh bD 914 1413 w os,cE,⟨958,0,1001,121⟩):=by
 rw[PySem.W.Fast.te10110043849684766642,PySem.W.Fast.te14364793385576792824];kernel_rfl
noncomputable def ob(k:Nat)(P:Params):Obj:=((bD P).get k).getD (Qg P)
end Mine.Internal.Hd
end
set_option maxHeartbeats 0
noncomputable section
namespace Mine.Internal.Hd
open PySem PySem.W PyProof.Rows
theorem hb:behindTheImports PP=g0++(g1++(g2++(g3++(g4++(g5++(g6++(g7++(g8++(g9++(Qq++(QG++(Qt++(Ql++([])))))))))))))):=by kernel_rfl
noncomputable def H1(P:Params):Heap:=absHeap (bD P) 914 {}
theorem pre(w:World)(os:OsState):topGo treeTable PP w 11 (some (.ref 6)) 12 ⟨boot_heap w.params,#[],boot_drawn,boot_toks,os⟩ (topStub PP)=some ((sh T0 15 187 w os).abs,⟨denote treeTable cE,cE,⟨0,0,0,0⟩,B⟩):=by kernel_rfl
theorem RB(w:World)(os:OsState):segRun treeTable PP w 11 (some (.ref 6)) 1 1 (sh T0 15 187 w os).abs (blockOf (behindTheImports PP) env cE ⟨0,0,0,0⟩ B)=some (.next,(sh T0 15 187 w os).abs,cE,⟨0,0,0,0⟩):=by kernel_rfl
theorem a9(w:World)(os:OsState):topRun treeTable PP w 11 (some (.ref 6)) 2 (sh bD 914 1413 w os).abs ⟨doneF .next,cE,⟨958,0,1001,121⟩,B⟩=some ⟨H1 w.params,#[],{},1413,os⟩:=by kernel_rfl
theorem fW(w:World)(os:OsState):topRun treeTable PP w 11 (some (.ref 6)) (12+(1+(401+(396+(373+(197+(264+(377+(373+(394+(207+(419+(391+(371+(381+(323+2)))))))))))))))) ⟨boot_heap w.params,#[],boot_drawn,boot_toks,os⟩ (topStub PP)=some ⟨H1 w.params,#[],{},1413,os⟩:=
 go_top (pre w os) (piece_block (RB w os) (by
  rw[hb];exact piece_app (segRun_of (p0 w os)) (piece_app (segRun_of (p1 w os)) (piece_app (segRun_of (p2 w os)) (piece_app (segRun_of (p3 w os)) (piece_app (segRun_of (p4 w os)) (piece_app (segRun_of (p5 w os)) (piece_app (segRun_of (p6 w os)) (piece_app (segRun_of (p7 w os)) (piece_app (segRun_of (p8 w os)) (piece_app (segRun_of (p9 w os)) (piece_app (segRun_of (Q2 w os)) (piece_app (segRun_of (Rc w os)) (piece_app (segRun_of (Rd w os)) (piece_app (segRun_of (Q1 w os)) (piece_nil (a9 w os)))))))))))))))))
noncomputable def qq:Program:={PP with main:={PP.main with body:=[sN 141]}}
noncomputable def loose:List Str:=(["_wall","NAN","INF","ZERO","gcd","make","from_int","is_na","is_nan","is_finite","marked","neg","add","sub","mul","div","to_whole","nearest_whole","exponent","compare","MOST_EXPONENT","whole_text","special_text","scaled","significant","without_tail","scientific_text","fixed_text","measures","chosen_form","formed","common_texts","number_text","digits_value","digit_run","exponent_value","powered","unsigned_number","parse_number","CoveError","Refusal","MOST_LENGTH","Vector","room","integer","double","character","flag","length","is_atomic","share","get_attr","label_text","level_at","label_texts","names_of","dim_of","dimnames_of","class_attr","MOST_INTEGER","note","as_logical_text","double_to_integer","text_to_double","to_logical","to_integer","to_double","to_text","item_as","is_atomic_kind","list_item_as","refuse_type","as_vector_kind","with_names","as_kind","condition","whole_subscripts","one_whole_value","truth_of","Matching","doubled_text","argument_text","unused_text","match_names","needed","take","is_lacking","is_lacking_sorting","compare_items","check_sortable","compare_places","compare_keys","merge_runs","merge_sort","each_key","kept_places","order_by","is_lacking_cuts","range_of","equal_breaks","break_values","interval_code","cut_codes","break_texts","repeats","cut_labels","interval_places","level_texts","factor_class","with_levels","item_texts","b_cut","b_find_interval","_law_row","_law_next","_law_reduced","_law_number","_law_order","_law_lacks","_law_sorted","_law_spread","_law_breaks","_law_code","_law_labels","_law_shown","_law_kept"]:List String).map Str.ofString
theorem op:opening PP=plainProg PP.main.scope.names:=by kernel_rfl
theorem fm(s:Shared):fenceModules? PP s=some s:=by kernel_rfl
theorem size(w:World):((boot_heap w.params).isNs mainGlobals&&(#[]:Array GenState).size==0,(boot_heap w.params).objs.size,(boot_heap w.params).nsMap mainGlobals "__annotations__")=(true,11,some (.ref 6)):=by kernel_rfl
theorem Kl(w:World)(os:OsState):(staticsOk (importedModules PP.main.body) (boot_heap w.params) (H1 w.params)&&namesBound PP (H1 w.params)&&gensDone ⟨H1 w.params,#[],{},1413,os⟩&&laidKept (boot_heap w.params) (H1 w.params))=true:=by kernel_rfl
noncomputable abbrev S1(w:World)(os:OsState):Shared:=⟨H1 w.params,#[],{},1413,os⟩
noncomputable abbrev Xt:Shared→Bool:=λ_=>true
theorem aY(w:World)(os:OsState):openSeen qq loose (importedModules PP.main.body) Xt true (S1 w os)=openGood qq loose:=by
 rw[PySem.W.Fast.te4187177175401517315];kernel_rfl
end Mine.Internal.Hd
end
set_option maxHeartbeats 0
noncomputable section
namespace Mine.Internal.Hd
open PySem PySem.W PyProof.Rows
noncomputable abbrev RW:=PySem.Challenge.rw_nz0536_01
theorem c2:RW.footing.all footLine=true:=by rw[PySem.W.Fast.te10501279942588096481];kernel_rfl
theorem c3:noClassBlock RW.prog RW.footing=true:=by rw[PySem.W.Fast.te8179353310426384613];kernel_rfl
theorem c7:noRoadLSs {strict:=true,foot:=some RW.bound',writes:=RW.writes,may:=RW.may} RW.footing=true:=by
 rw[PySem.W.Fast.te8326940854005059898];kernel_rfl
theorem c8:defStands RW.about RW.above=true:=by rw[PySem.W.Fast.te9558739934217749035];kernel_rfl
theorem c9:RW.namesIt=true:=by rw[PySem.W.Fast.te16286561074155671207];kernel_rfl
theorem Rq:RW.bound'.all (λn=> !builtinNamed n||RW.about==[n]|| !RW.reads n)=true:=by
 rw[show @builtinNamed=Fast.qNamed from Fast.named_eq];kernel_rfl
theorem Rm:(namesMeet RW.prog RW.footing (λsc n=>(!(["type","isinstance","issubclass","getattr","hasattr"]:List Str).contains n||sc.names.lookup n==some .globalImplicit)&&
 (RW.may !=some n||sc.kind==.module||sc.names.lookup n==some .globalImplicit)))=true:=by
 rw[PySem.W.Fast.te17119622794617984870];kernel_rfl
theorem Q5:RW.own.all (λn=> !builtinNamed n)=true:=by
 rw[show @builtinNamed=Fast.qNamed from Fast.named_eq];kernel_rfl
theorem Rp:namesMeet RW.prog RW.above (λ_ n=> !RW.own.contains n)=true:=by
 rw[PySem.W.Fast.te17119622794617984870];kernel_rfl
theorem QV:(namesMeet RW.prog RW.footing λsc n=>sc.kind==.module||sc.names.lookup n !=some .globalExplicit)=true:=by
 rw[PySem.W.Fast.te17119622794617984870];kernel_rfl
theorem rv:readsOut PP PP.main.body "vars"=false:=by unfold readsOut;rw[PySem.W.Fast.te17119622794617984870];kernel_rfl
theorem rd:readsOut PP PP.main.body "dir"=false:=by unfold readsOut;rw[PySem.W.Fast.te17119622794617984870];kernel_rfl
theorem rl:readsOut PP PP.main.body "locals"=false:=by unfold readsOut;rw[PySem.W.Fast.te17119622794617984870];kernel_rfl
theorem Mj:(["vars","dir","locals"]:List Str).filter (readsOut PP PP.main.body)=[]:=by
 rw[List.filter_cons,rv,List.filter_cons,rd,List.filter_cons,rl];rfl
theorem PT:(!(importedModules PP.main.body).all cThrough.contains)=false:=by kernel_rfl
theorem d1:noRoadLSs {strict:= !(importedModules PP.main.body).all cThrough.contains,foot:=none,bare:=(["vars","dir","locals"]:List Str).filter (readsOut PP PP.main.body)} PP.main.body=true:=by
 rw[Mj,PT,PySem.W.Fast.te8326940854005059898];kernel_rfl
theorem d2:namesMeet PP PP.main.body (λ_ n=>attrL n)=true:=by rw[PySem.W.Fast.te17119622794617984870];kernel_rfl
theorem d3:namesResolve PP=true:=by rw[PySem.W.Fast.te8377067652309620493];kernel_rfl
theorem LR:looksOpen PP=true:=by
 unfold looksOpen;exact look_both (look_both (look_both (look_both (look_both (by kernel_rfl) (by kernel_rfl)) d3) (by kernel_rfl)) d1) d2
theorem k1:RW.row.wellSaid=true:=by
 unfold OpenRow.wellSaid;refine look_both (look_both ?_ (by kernel_rfl)) (by kernel_rfl);unfold OpenRow.partSaid;refine look_both (look_both (look_both (look_both (look_both (look_both (look_both (look_both (look_both (look_both (look_both (look_both (look_both LR ?_) ?_) ?_) ?_) ?_) ?_) ?_) ?_) ?_) ?_) ?_) ?_) ?_;all_goals kernel_rfl
theorem Oc:RW.wellSaid=true:=by
 unfold OpenLaw.wellSaid;exact look_both (look_both (look_both (look_both (look_both (look_both (look_both (look_both (look_both (look_both (look_both (look_both (look_both (look_both (look_both (look_both (look_both (look_both k1 (by kernel_rfl)) c2) c3) (by kernel_rfl)) (by kernel_rfl)) c7) c8) c9) (by kernel_rfl)) Rq) (by kernel_rfl)) (by kernel_rfl)) Rm) (by kernel_rfl)) (by kernel_rfl)) Q5) Rp) QV
theorem h9:PP.tablesWhole=true:=by
 unfold Program.tablesWhole TablesWhole.wProgram TablesWhole.holds;rw[PySem.W.Fast.te6116379765354995101,PySem.W.Fast.te15985051520779696433];kernel_rfl
noncomputable def Ya(w:World):Heap:=H1 w.params
theorem left:LeftO PP qq loose Xt (λs=>s.heap) Ya 9832:=
 LeftO.of_pieces (boot_open op (by decide+kernel) fm) size fW (by decide+kernel) (λw=>funext λos=>looks_pair (Kl w os) (looks_pair (aY w os) rfl))
noncomputable def tP:DefRec:=⟨"law",aF (sN 141),bF (sN 141),MM (sN 141),(sN 141).pos⟩
noncomputable def YP(w:World)(h:Heap):Prop:=∀b o,(H1 w.params).get? b=some o→h.get? b=some o
theorem h1:defOf qq RW.row.name=some (tP,[]):=by kernel_rfl
theorem h2:RW.row.prog.theDef RW.row.name=some (tP.params,tP.body,tP.scope):=by kernel_rfl
theorem h3:kwWritten? tP.params.kwonlyargs tP.params.kw_defaults=some []:=by kernel_rfl
theorem h4(s:Shared):RecFacts RW.row.records s.heap:=recFacts_of (s:=s) (by kernel_rfl)
theorem h5:(chainsOk qq&&opensWell RW.row.prog&&(frees RW.row.toRowW&&RW.row.within.isEmpty))=true:=by kernel_rfl
theorem h6:(!RW.row.writes||RW.row.records.isEmpty)=true:=by kernel_rfl
theorem h8:RW.row.toRowW.promised:=⟨[.list []],by decide+kernel,by decide+kernel⟩
theorem QS:RW.row.prog.bare:=⟨rfl,rfl,rfl,rfl,rfl,h9⟩
theorem top(Y:WalkO qq loose (λ_ _=>True) YP RW.row.toRowW tP [] λf v=>PySem.call f v):RW.Holds:=
 holds_law Oc λ_=>PySem.W.holds_open (r:=RW.row) (q:=qq) (loose:=loose) (Xt:=Xt) (XP:=λ_ _=>True) (Yf:=λs=>s.heap) (Ya:=Ya) (YP:=YP) (d:=tP) (kwd:=[]) (N:=9832) left
  (λw s e b o h=>by rw[show s.heap=Ya w from e];exact h) (λw h h' y k b o e=>k b o (y b o e)) (λ_ _=>trivial) (λ_ _ _ _ _=>trivial)
  h1 h2 h3 (λs _=>h4 s) h6 k1 h5 QS h8 Y
end Mine.Internal.Hd
end
namespace Mine.Internal.La
inductive A where
 |v(i:Nat)|c(n:Nat)|b(o:Nat)(x y:A)
noncomputable def cs{Y:Type _}(o i:Nat)(a b:Y):Y:=Bool.rec b a (Nat.beq o i)
noncomputable def hd(l:List Int):Int:=List.rec 0 (λa _ _=>a) l
noncomputable def tl(l:List Int):List Int:=List.rec [] (λ_ a _=>a) l
noncomputable def ud(l:List Int)(i:Nat):Int:=Nat.rec hd (λ_ f l=>f (tl l)) i l
noncomputable def QO(z:Int):Nat:=Int.rec (λn=>n) (λ_=>0) z
noncomputable def zO(o:Nat)(x y:Int×Nat×Prop):Int:=cs o 0 (x.1+y.1) (cs o 1 (x.1-y.1) (cs o 2 (x.1*y.1) (cs o 3 x.2.1 (cs o 4 (-x.1) (cs o 5 (max x.1 y.1) (min x.1 y.1))))))
noncomputable def nO(o:Nat)(x y:Int×Nat×Prop):Nat:=cs o 0 (x.2.1+y.2.1) (cs o 1 (x.2.1-y.2.1) (cs o 2 (x.2.1*y.2.1) (cs o 3 x.1.toNat (cs o 4 x.1.natAbs (cs o 5 (max x.2.1 y.2.1) (min x.2.1 y.2.1))))))
noncomputable def pO(o:Nat)(x y:Int×Nat×Prop):Prop:=cs o 0 (x.1≤y.1) (cs o 1 (x.1<y.1) (cs o 2 (x.1=y.1) (cs o 3 (x.2.1≤y.2.1) (cs o 4 (x.2.1<y.2.1) (cs o 5 (x.2.1=y.2.1) (cs o 6 (x.2.2→y.2.2) (cs o 7 (x.2.2∧y.2.2) (cs o 8 (x.2.2∨y.2.2) (x.2.2↔y.2.2)))))))))
noncomputable def den(ρ:List Int)(a:A):Int×Nat×Prop:=A.rec (λi=>(ud ρ i,QO (ud ρ i),False)) (λn=>(Int.ofNat n,n,False)) (λo _ _ x y=>(zO o x y,nO o x y,pO o x y)) a
noncomputable def DC(f:Nat)(m:Bool)(k:Nat)(r:A→Nat→A×Nat):A×Nat:=Nat.rec (λ_ _ _=>(.c 0,0))
 (λ_ p m k r=>Bool.rec
  (cs (k%2) 0 (cs (k/2%4) 3 (r (.v (k/8%8)) (k/64)) (r (.v (k/2%4)) (k/8)))
   (Bool.rec
    (cs (k/2%16) 15 (r (.c (k/32%64)) (k/2048)) (cs (k/2%16) 14 (r (.c (k/32%1024)) (k/32768)) (cs (k/2%16) 13 (cs (k/32%64) 0 (r (.c (2^(k/2048%256))) (k/524288)) (cs (k/32%64) 1 (r (.c (10^(k/2048%64))) (k/131072)) (r (.c (k/2048%2^(k/32%64))) (k/2048/2^(k/32%64))))) (r (.c (k/2%16-7)) (k/32)))))
    (p false (k/32) λx k'=>Bool.rec (p false k' λy K=>r (.b (k/2%16) x y) K) (r (.b (k/2%16) x x) k') (Nat.beq ((k/2%16+1)/2) 2)) (Nat.ble (k/2%16) 6)))
  (cs (k%11) 10 (r (.c 0) (k/11)) (p (Nat.ble 6 (k%11)) (k/11) λx k'=>p (Nat.ble 6 (k%11)) k' λy K=>r (.b (k%11) x y) K)) m) f m k r
noncomputable def BY(k:Nat):A×Nat:=DC 80 true k λa k=>(a,k)
noncomputable def Ln(f k:Nat):List Bool:=Nat.rec (λ_=>[]) (λ_ p k=>cs (k%3) 0 [] (cs (k%3) 1 (true::p (k/3)) (false::p (k/3)))) f k
noncomputable def bE(t:List Bool)(f:List Int→Prop):Prop:=List.rec (λf=>f []) (λb _ p f=>Bool.rec (∀x,p λr=>f (x::r)) (∀x,p λr=>f (Int.ofNat x::r)) b) t f
noncomputable def bI(t:List Bool)(f:List Int→Prop):Prop:=List.rec (λf=>f []) (λb _ p f=>Bool.rec (∀{x},p λr=>f (x::r)) (∀{x},p λr=>f (Int.ofNat x::r)) b) t f
noncomputable def J5(k:Nat):Prop:=bE (Ln 12 (BY k).2) λρ=>(den ρ (BY k).1).2.2
noncomputable def O3(k:Nat):Prop:=bI (Ln 12 (BY k).2) λρ=>(den ρ (BY k).1).2.2
noncomputable abbrev Lf:=Int×List Int
noncomputable abbrev Ks:=Lf→List Lf→Bool
noncomputable def wW(a b:List Int):List Int:=List.rec (λb=>b) (λx _ f b=>List.rec (x::f []) (λy Y _=>(x+y)::f Y) b) a b
noncomputable def la(l m:Lf):Lf:=(l.1+m.1,wW l.2 m.2)
noncomputable def lk(k:Int)(l:Lf):Lf:=(k*l.1,l.2.map (k* ·))
noncomputable def ls(l m:Lf):Lf:=la l (lk (-1) m)
noncomputable def HH(l m:Lf):Lf:=la (-1,[]) (ls m l)
noncomputable def lv(i:Nat):List Int:=Nat.rec [1] (λ_ l=>0::l) i
noncomputable def QL(z:Int):Bool:=Int.rec (λn=>Nat.blt 0 n) (λ_=>false) z
noncomputable def OX(z:Int):Bool:=Int.rec (λ_=>false) (λ_=>true) z
noncomputable def tU(z:Int):Bool:=Int.rec (λn=>Nat.beq n 0) (λ_=>false) z
noncomputable def QF(C:List Lf):List Lf:=C.flatMap λp=>cond (tU (hd p.2)) [(p.1,tl p.2)] (cond (QL (hd p.2)) (C.flatMap λq=>cond (OX (hd q.2)) (let r:=la (lk (-hd q.2) p) (lk (hd p.2) q);[(r.1,tl r.2)]) []) [])
noncomputable def fm(n:Nat)(C:List Lf):Bool:=Nat.rec (λC=>C.any λl=>OX l.1) (λ_ f C=>f (QF C)) n C
noncomputable abbrev Tm:=(Ks→List Lf→Bool)×(Ks→List Lf→Bool)×(Bool→(List Lf→Bool)→List Lf→Bool)
noncomputable def zb(f g:Ks→List Lf→Bool)(h:Ks→Lf→Lf→List Lf→Bool):Ks→List Lf→Bool:=λk C=>f (λl C=>g (λm C=>h k l m C) C) C
noncomputable def Io(k:Ks)(l m:Lf)(C:List Lf):Bool:=k (la l m) C
noncomputable def L9(k:Ks)(l m:Lf)(C:List Lf):Bool:=k (ls l m) C
noncomputable def Es(k:Ks)(l m:Lf)(C:List Lf):Bool:=cond (l.2.all tU) (k (lk l.1 m) C) (cond (m.2.all tU) (k (lk m.1 l) C) false)
noncomputable def Fu(k:Ks)(l m:Lf)(C:List Lf):Bool:=k l (ls l m::C)&&k m (ls m l::C)
noncomputable def EZ(k:Ks)(l m:Lf)(C:List Lf):Bool:=k l (ls m l::C)&&k m (ls l m::C)
noncomputable def GW(k:Ks)(l m:Lf)(C:List Lf):Bool:=k (ls l m) (ls l m::C)&&k (0,[]) (ls m l::C)
noncomputable def Mk(k:Ks)(l:Lf)(C:List Lf):Bool:=k (lk (-1) l) C
noncomputable def K9(k:Ks)(l:Lf)(C:List Lf):Bool:=k l (l::C)&&k (0,[]) (lk (-1) l::C)
noncomputable def MG(k:Ks)(l:Lf)(C:List Lf):Bool:=k l (l::C)&&k (lk (-1) l) (lk (-1) l::C)
noncomputable abbrev Pk:=Bool→(List Lf→Bool)→List Lf→Bool
noncomputable def pb(f g:Ks→List Lf→Bool)(h:Bool→(List Lf→Bool)→Lf→Lf→List Lf→Bool):Pk:=λs k C=>f (λl C=>g (λm C=>h s k l m C) C) C
noncomputable def Og(s:Bool)(k:List Lf→Bool)(l m:Lf)(C:List Lf):Bool:=k (cond s (ls m l) (HH m l)::C)
noncomputable def OK(s:Bool)(k:List Lf→Bool)(l m:Lf)(C:List Lf):Bool:=k (cond s (HH l m) (ls l m)::C)
noncomputable def Od(s:Bool)(k:List Lf→Bool)(l m:Lf)(C:List Lf):Bool:=cond s (k (ls m l::ls l m::C)) (k (HH l m::C)&&k (HH m l::C))
noncomputable def LK(p q:Pk):Pk:=λs k C=>cond s (p false k C&&q true k C) (p true (q false k) C)
noncomputable def Md(p q:Pk):Pk:=λs k C=>cond s (p true (q true k) C) (p false k C&&q false k C)
noncomputable def QM(p q:Pk):Pk:=λs k C=>cond s (p true k C&&q true k C) (p false (q false k) C)
noncomputable def Ka(p q:Pk):Pk:=λs k C=>p true (q s k) C&&p false (q (!s) k) C
noncomputable def tm(t:List Bool)(a:A):Tm:=A.rec
 (λi=>(λk C=>k (0,lv i) C,λk C=>cond (t.getD i false) (k (0,lv i) C) false,λ_ _ _=>false))
 (λn=>(λk C=>k (Int.ofNat n,[]) C,λk C=>k (Int.ofNat n,[]) C,λs k C=>cond s true (k C)))
 (λo _ _ x y=>(cs o 0 (zb x.1 y.1 Io) (cs o 1 (zb x.1 y.1 L9) (cs o 2 (zb x.1 y.1 Es) (cs o 3 x.2.1 (cs o 4 (λk=>x.1 (Mk k)) (cs o 5 (zb x.1 y.1 Fu) (zb x.1 y.1 EZ)))))),
  cs o 0 (zb x.2.1 y.2.1 Io) (cs o 1 (zb x.2.1 y.2.1 GW) (cs o 2 (zb x.2.1 y.2.1 Es) (cs o 3 (λk=>x.1 (K9 k)) (cs o 4 (λk=>x.1 (MG k)) (cs o 5 (zb x.2.1 y.2.1 Fu) (zb x.2.1 y.2.1 EZ)))))),
  cs o 0 (pb x.1 y.1 Og) (cs o 1 (pb x.1 y.1 OK) (cs o 2 (pb x.1 y.1 Od) (cs o 3 (pb x.2.1 y.2.1 Og) (cs o 4 (pb x.2.1 y.2.1 OK) (cs o 5 (pb x.2.1 y.2.1 Od) (cs o 6 (LK x.2.2 y.2.2) (cs o 7 (Md x.2.2 y.2.2) (cs o 8 (QM x.2.2 y.2.2) (Ka x.2.2 y.2.2))))))))))) a
noncomputable def Nx(t:List Bool):List Lf:=List.rec [] (λb _ l=>let r:=l.map λp=>(p.1,0::p.2);cond b ((0,[1])::r) r) t
noncomputable def Gy(k:Nat):Bool:=(tm (Ln 12 (BY k).2) (BY k).1).2.2 false (fm (Ln 12 (BY k).2).length) (Nx (Ln 12 (BY k).2))
noncomputable def kW(a x:List Int):Int:=List.rec (λ_=>0) (λa _ f x=>a*hd x+f (tl x)) a x
noncomputable def iq(ρ:List Int)(l:Lf):Int:=l.1+kW l.2 ρ
theorem EV:∀a,kW a []=0:=by
 intro a;induction a with
 |nil=>rfl
 |cons x a I=>show x*0+kW a []=0;rw[I,Int.mul_zero];rfl
theorem EW(a):∀b x,kW (wW a b) x=kW a x+kW b x:=by
 induction a with
 |nil=>intro b x;exact(Int.zero_add _).symm
 |cons u a I=>
  intro b x;cases b with
  |nil=>
   show u*hd x+kW (wW a []) (tl x)=u*hd x+kW a (tl x)+0;rw[I];show _+(_+0)=_;rw[Int.add_zero,Int.add_zero]
  |cons v b=>
   show(u+v)*hd x+kW (wW a b) (tl x)=u*hd x+kW a (tl x)+(v*hd x+kW b (tl x));rw[I,Int.add_mul];ac_rfl
theorem DP(k)(a):∀x,kW (a.map (k* ·)) x=k*kW a x:=by
 induction a with
 |nil=>intro x;exact(Int.mul_zero k).symm
 |cons u a I=>intro x;show k*u*hd x+kW (a.map (k* ·)) (tl x)=k*(u*hd x+kW a (tl x));rw[I,Int.mul_add,Int.mul_assoc]
theorem G6(i):∀x,kW (lv i) x=ud x i:=by
 induction i with
 |zero=>intro x;show 1*hd x+0=hd x;rw[Int.one_mul,Int.add_zero]
 |succ i I=>intro x;show 0*hd x+kW (lv i) (tl x)=ud (tl x) i;rw[I,Int.zero_mul,Int.zero_add]
theorem ym(l m):iq ρ (la l m)=iq ρ l+iq ρ m:=by
 show l.1+m.1+kW (wW l.2 m.2) ρ=l.1+kW l.2 ρ+(m.1+kW m.2 ρ);rw[EW];ac_rfl
theorem mm(k)(l):iq ρ (lk k l)=k*iq ρ l:=by
 show k*l.1+kW (l.2.map (k* ·)) ρ=k*(l.1+kW l.2 ρ);rw[DP,Int.mul_add]
theorem ju(l m):iq ρ (ls l m)=iq ρ l-iq ρ m:=by
 unfold ls;rw[ym,mm,Int.neg_mul,Int.one_mul];rfl
theorem Lc(l m):iq ρ (HH l m)=iq ρ m-iq ρ l-1:=by
 unfold HH;rw[ym,ju];rw[Int.add_comm];rfl
noncomputable def Hl(ρ:List Int)(C:List Lf):Prop:=∀l∈C,0≤iq ρ l
theorem Hl.cons{ρ}{C}{l}(h:Hl ρ C)(p:0≤iq ρ l):Hl ρ (l::C):=λm H=>(List.mem_cons.mp H).elim (λe=>e▸p) (h m)
theorem vV(h:tU z=true):z=0:=by
 cases z with
 |ofNat n=>exact congrArg Int.ofNat (Nat.eq_of_beq_eq_true h)
 |negSucc n=>exact absurd h Bool.false_ne_true
theorem HW(h:QL z=true):0≤z:=by
 cases z with
 |ofNat n=>exact Int.natCast_nonneg n
 |negSucc n=>exact absurd h Bool.false_ne_true
theorem Bk(h:OX z=true):z<0:=by
 cases z with
 |ofNat n=>exact absurd h Bool.false_ne_true
 |negSucc n=>exact Int.negSucc_lt_zero n
theorem AX(a)(x)(xs):kW a (x::xs)=hd a*x+kW (tl a) xs:=by
 cases a with
 |nil=>show 0=0*x+0;rw[Int.zero_mul];rfl
 |cons u a=>rfl
theorem Ic(a b):hd (wW a b)=hd a+hd b:=by
 cases a with
 |nil=>exact(Int.zero_add _).symm
 |cons u a=>
  cases b with
  |nil=>exact(Int.add_zero _).symm
  |cons v b=>rfl
theorem Cj(k)(a):hd (a.map (k* ·))=k*hd a:=by
 cases a with
 |nil=>exact(Int.mul_zero k).symm
 |cons u a=>rfl
theorem Aw(h:cond b c false=true):b=true∧c=true:=by
 cases b
 ·exact absurd h Bool.false_ne_true
 ·exact⟨rfl,h⟩
theorem oG{X Y:List H}(h:l∈cond b X Y):(b=true∧l∈X)∨(b=false∧l∈Y):=by
 cases b
 ·exact .inr ⟨rfl,h⟩
 ·exact .inl ⟨rfl,h⟩
theorem yu{r l:Lf}(g:hd r.2=0)(H:0≤iq (x::xs) r)(L:l∈[(r.1,tl r.2)]):0≤iq xs l:=by
 rw[List.mem_singleton.mp L];have:iq (x::xs) r=r.1+kW r.2 (x::xs):=rfl;rw[this,AX,g,Int.zero_mul,Int.zero_add]at H;exact H
theorem Hm(h:Hl (x::xs) C):Hl xs (QF C):=by
 intro l H;obtain⟨p,P,H⟩:=List.mem_flatMap.mp H;rcases oG H with⟨e,H⟩|⟨_,H⟩
 ·exact yu (vV e) (h p P) H
 ·rcases oG H with⟨E,H⟩|⟨_,H⟩
  ·obtain⟨q,Q,H⟩:=List.mem_flatMap.mp H
   rcases oG H with⟨N,H⟩|⟨_,H⟩
   ·refine yu (x:=x) ?_ ?_ H
    ·show hd (wW (p.2.map (_* ·)) (q.2.map (_* ·)))=0
     rw[Ic,Cj,Cj,Int.neg_mul,Int.mul_comm (hd q.2),Int.add_left_neg]
    ·rw[ym,mm,mm]
     exact Int.add_nonneg (Int.mul_nonneg (Int.neg_nonneg_of_nonpos (Int.le_of_lt (Bk N))) (h p P)) (Int.mul_nonneg (HW E) (h q Q))
   ·cases H
  ·cases H
theorem K5(n):∀ρ C,ρ.length=n→Hl ρ C→fm n C=true→False:=by
 induction n with
 |zero=>
  intro ρ C e h q;cases ρ with
  |cons x ρ=>cases e
  |nil=>
   obtain⟨l,H,q⟩:=List.any_eq_true.mp q;have h:=h l H;unfold iq at h;rw[EV,Int.add_zero]at h;exact absurd (Bk q) (Int.not_lt.mpr h)
 |succ n I=>
  intro ρ C e h q;cases ρ with
  |nil=>cases e
  |cons x ρ=>exact I ρ _ (Nat.succ.inj e) (Hm h) q
section
variable{ρ:List Int}
noncomputable def SZ(ρ:List Int)(f:Ks→List Lf→Bool)(z:Int):Prop:=∀k C,f k C=true→Hl ρ C→(∀l C,iq ρ l=z→Hl ρ C→k l C=true→False)→False
noncomputable def SP(ρ:List Int)(f:Pk)(p:Prop):Prop:=∀s k C,f s k C=true→Hl ρ C→Bool.rec (¬p) p s→(∀C,Hl ρ C→k C=true→False)→False
theorem fM{R:Y→U→Prop}(h:R a x)(g:R b y):R (cs o i a b) (cs o i x y):=by
 unfold cs;cases Nat.beq o i
 ·exact g
 ·exact h
variable{f g:Ks→List Lf→Bool}{x y:Int}
theorem zQ(d:SZ ρ f x)(u:SZ ρ g y)(H:∀k l m C,iq ρ l=x→iq ρ m=y→h k l m C=true→Hl ρ C→(∀l C,iq ρ l=z→Hl ρ C→k l C=true→False)→False):SZ ρ (zb f g h) z:=by
 intro k C e W q;exact d _ C e W λl C E W e=>u _ C e W λm C M W e=>H k l m C E M e W q
theorem F6(H:SZ ρ f x)(u:SZ ρ g y):SZ ρ (zb f g Io) (x+y):=zQ H u λk l m C a b e W q=>q _ _ (by rw[ym,a,b]) W e
theorem MK(H:SZ ρ f x)(u:SZ ρ g y):SZ ρ (zb f g L9) (x-y):=zQ H u λk l m C a b e W q=>q _ _ (by rw[ju,a,b]) W e
theorem uj:∀{x},a.all tU=true→kW a x=0:=by
 induction a with
 |nil=>intro x _;rfl
 |cons u a I=>
  intro x h;rw[List.all_cons,Bool.and_eq_true]at h;show u*hd x+kW a (tl x)=0;rw[vV h.1,I h.2,Int.zero_mul];rfl
theorem Ga(H:SZ ρ f x)(u:SZ ρ g y):SZ ρ (zb f g Es) (x*y):=zQ H u λk l m C a b e W q=>by
 unfold Es at e;cases z:l.2.all tU with
 |true=>
  rw[z]at e;refine q _ _ ?_ W e;rw[mm,b,←a];unfold iq;rw[uj z,Int.add_zero]
 |false=>
  rw[z]at e;obtain⟨z,e⟩:=Aw e;refine q _ _ ?_ W e;rw[mm,a,←b,Int.mul_comm];unfold iq;rw[uj z,Int.add_zero]
theorem dK(h:(a&&b)=true):a=true∧b=true:=Bool.and_eq_true _ _|>.mp h
theorem G3(H:SZ ρ f x)(u:SZ ρ g y):SZ ρ (zb f g Fu) (max x y):=zQ H u λk l m C a b e W q=>by
 obtain⟨E,j⟩:=dK e;rcases Int.le_total y x with h|h
 ·exact q _ _ (by rw[a,Int.max_eq_left h]) (W.cons (by rw[ju,a,b];exact Int.sub_nonneg_of_le h)) E
 ·exact q _ _ (by rw[b,Int.max_eq_right h]) (W.cons (by rw[ju,a,b];exact Int.sub_nonneg_of_le h)) j
theorem Ge(H:SZ ρ f x)(u:SZ ρ g y):SZ ρ (zb f g EZ) (min x y):=zQ H u λk l m C a b e W q=>by
 obtain⟨E,j⟩:=dK e;rcases Int.le_total y x with h|h
 ·exact q _ _ (by rw[b,Int.min_eq_right h]) (W.cons (by rw[ju,a,b];exact Int.sub_nonneg_of_le h)) j
 ·exact q _ _ (by rw[a,Int.min_eq_left h]) (W.cons (by rw[ju,a,b];exact Int.sub_nonneg_of_le h)) E
theorem Lr(H:SZ ρ f x):SZ ρ (λk=>f (Mk k)) (-x):=λk C e W q=>H _ C e W λl C a W e=>q _ _ (by rw[mm,a,Int.neg_mul,Int.one_mul]) W e
theorem Dl(a:iq ρ l=x)(h:x≤0):0≤iq ρ (lk (-1) l):=by rw[mm,a,Int.neg_mul,Int.one_mul];exact Int.neg_nonneg_of_nonpos h
theorem LY:iq ρ (0,[])=0:=rfl
theorem Ky(H:SZ ρ f x):SZ ρ (λk=>f (K9 k)) x.toNat:=λk C e W q=>H _ C e W λl C a W e=>by
 obtain⟨E,j⟩:=dK e;rcases Int.le_total 0 x with h|h
 ·exact q _ _ (by rw[a,Int.toNat_of_nonneg h]) (W.cons (a▸h)) E
 ·exact q _ _ (by rw[LY,Int.toNat_of_nonpos h];rfl) (W.cons (Dl a h)) j
theorem Mc(H:SZ ρ f x):SZ ρ (λk=>f (MG k)) x.natAbs:=λk C e W q=>H _ C e W λl C a W e=>by
 obtain⟨E,j⟩:=dK e;rcases Int.le_total 0 x with h|h
 ·exact q _ _ (by rw[a,Int.natAbs_of_nonneg h]) (W.cons (a▸h)) E
 ·exact q _ _ (by rw[mm,a,Int.neg_mul,Int.one_mul,Int.ofNat_natAbs_of_nonpos h]) (W.cons (Dl a h)) j
theorem Jg{m n:Nat}(H:SZ ρ f m)(u:SZ ρ g n):SZ ρ (zb f g GW) ((m-n:Nat)):=zQ H u λk l j C a b e W q=>by
 obtain⟨E,V⟩:=dK e;rcases Nat.le_total n m with h|h
 ·exact q _ _ (by rw[ju,a,b,Int.ofNat_sub h]) (W.cons (by rw[ju,a,b];exact Int.sub_nonneg_of_le (Int.ofNat_le.mpr h))) E
 ·exact q _ _ (by rw[LY,Nat.sub_eq_zero_of_le h];rfl) (W.cons (by rw[ju,a,b];exact Int.sub_nonneg_of_le (Int.ofNat_le.mpr h))) V
theorem IA{m n:Nat}(H:SZ ρ f m)(u:SZ ρ g n):SZ ρ (zb f g Fu) ((max m n:Nat)):=by
 have e:((max m n))=max (m:Int) n:=by
  rcases Nat.le_total m n with h|h
  ·rw[Nat.max_eq_right h,Int.max_eq_right (Int.ofNat_le.mpr h)]
  ·rw[Nat.max_eq_left h,Int.max_eq_left (Int.ofNat_le.mpr h)]
 rw[e];exact G3 H u
theorem G7{m n:Nat}(H:SZ ρ f m)(u:SZ ρ g n):SZ ρ (zb f g EZ) ((min m n:Nat)):=by
 have e:((min m n))=min (m:Int) n:=by
  rcases Nat.le_total m n with h|h
  ·rw[Nat.min_eq_left h,Int.min_eq_left (Int.ofNat_le.mpr h)]
  ·rw[Nat.min_eq_right h,Int.min_eq_right (Int.ofNat_le.mpr h)]
 rw[e];exact Ge H u
theorem Jm(d:SZ ρ f x)(u:SZ ρ g y)(H:∀s k l m C,iq ρ l=x→iq ρ m=y→h s k l m C=true→Hl ρ C→Bool.rec (¬p) p s→(∀C,Hl ρ C→k C=true→False)→False):SP ρ (pb f g h) p:=λs k C e W M q=>
 d _ C e W λl C E W e=>u _ C e W λm C Z W e=>H s k l m C E Z e W M q
theorem yw(a:iq ρ l=x)(b:iq ρ m=y)(h:x≤y):0≤iq ρ (ls m l):=by rw[ju,a,b];exact Int.sub_nonneg_of_le h
theorem sz(a:iq ρ l=x)(b:iq ρ m=y)(h:x<y):0≤iq ρ (HH l m):=by rw[Lc,a,b];exact Int.sub_nonneg_of_le (Int.le_sub_left_of_add_le h)
theorem Kg(H:SZ ρ f x)(u:SZ ρ g y):SP ρ (pb f g Og) (x≤y):=Jm H u λs k l m C a b e W h q=>by
 cases s
 ·exact q _ (W.cons (sz b a (Int.not_le.mp h))) e
 ·exact q _ (W.cons (yw a b h)) e
theorem Kb(H:SZ ρ f x)(u:SZ ρ g y):SP ρ (pb f g OK) (x<y):=Jm H u λs k l m C a b e W h q=>by
 cases s
 ·exact q _ (W.cons (yw b a (Int.not_lt.mp h))) e
 ·exact q _ (W.cons (sz a b h)) e
theorem K8(H:SZ ρ f x)(u:SZ ρ g y):SP ρ (pb f g Od) (x=y):=Jm H u λs k l m C a b e W h q=>by
 cases s
 ·obtain⟨E,j⟩:=dK e
  rcases Int.lt_or_gt_of_ne h with h|h
  ·exact q _ (W.cons (sz a b h)) E
  ·exact q _ (W.cons (sz b a h)) j
 ·exact q _ ((W.cons (yw b a (Int.le_of_eq h.symm))).cons (yw a b (Int.le_of_eq h))) e
variable{p q:Pk}{P Q:Prop}
theorem SP.iff(h:SP ρ p P)(e:P↔Q):SP ρ p Q:=λs k C a H b d=>h s k C a H (by cases s;exactλz=>b (e.mp z);exact e.mpr b) d
theorem K6(H:SP ρ p P)(Y:SP ρ q Q):SP ρ (LK p q) (P→Q):=λs k C e W h d=>by
 cases s
 ·exact H true _ C e W (Classical.byContradiction λn=>h λz=>absurd z n) λC W e=>Y false k C e W (λz=>h λ_=>z) d
 ·obtain⟨E,j⟩:=dK e
  by_cases z:P
  ·exact Y true k C j W (h z) d
  ·exact H false k C E W z d
theorem KW(H:SP ρ p P)(Y:SP ρ q Q):SP ρ (Md p q) (P∧Q):=λs k C e W h d=>by
 cases s
 ·obtain⟨E,j⟩:=dK e
  by_cases z:P
  ·exact Y false k C j W (λw=>h ⟨z,w⟩) d
  ·exact H false k C E W z d
 ·exact H true _ C e W h.1 λC W e=>Y true k C e W h.2 d
theorem Ou(H:SP ρ p P)(Y:SP ρ q Q):SP ρ (QM p q) (P∨Q):=λs k C e W h d=>by
 cases s
 ·exact H false _ C e W (λz=>h (.inl z)) λC W e=>Y false k C e W (λz=>h (.inr z)) d
 ·obtain⟨E,j⟩:=dK e
  rcases h with h|h
  ·exact H true k C E W h d
  ·exact Y true k C j W h d
theorem Ls(H:SP ρ p P)(Y:SP ρ q Q):SP ρ (Ka p q) (P↔Q):=λs k C e W h d=>by
 obtain⟨E,j⟩:=dK e
 by_cases z:P
 ·refine H true _ C E W z λC W e=>Y s k C e W ?_ d
  cases s
  ·exactλw=>h ⟨λ_=>w,λ_=>z⟩
  ·exact h.mp z
 ·refine H false _ C j W z λC W e=>Y (!s) k C e W ?_ d
  cases s
  ·exact Classical.byContradiction λw=>h ⟨λu=>absurd u z,λu=>absurd u w⟩
  ·exactλw=>z (h.mpr w)
end
theorem L6(H:∀i,t.getD i false=true→0≤ud ρ i)(a):SZ ρ (tm t a).1 (den ρ a).1∧SZ ρ (tm t a).2.1 ((den ρ a).2.1)∧SP ρ (tm t a).2.2 (den ρ a).2.2:=by
 induction a with
 |v i=>
  have e:iq ρ (0,lv i)=ud ρ i:=by show 0+kW (lv i) ρ=_;rw[G6,Int.zero_add]
  refine⟨λk C h W q=>q _ _ e W h,λk C h W q=> ?_,λs k C h=>absurd h Bool.false_ne_true⟩;obtain⟨z,h⟩:=Aw h;refine q _ _ (e.trans ?_) W h;have p:=H i z;show _=((QO (ud ρ i):Nat):Int);revert p;generalize ud ρ i=w;cases w with
  |ofNat n=>exactλ_=>rfl
  |negSucc n=>exactλp=>absurd p (Int.not_le.mpr (Int.negSucc_lt_zero n))
 |c n=>
  have e:iq ρ (Int.ofNat n,[])=n:=Int.add_zero _;refine⟨λk C h W q=>q _ _ e W h,λk C h W q=>q _ _ e W h,λs k C h W p q=> ?_⟩;cases s
  ·exact q _ W h
  ·exact p
 |b o x y X Y=>
  obtain⟨A,M,L⟩:=X;obtain⟨b1,b2,B⟩:=Y;refine⟨fM (F6 A b1) (fM (MK A b1) (fM (Ga A b1) (fM M (fM (Lr A) (fM (G3 A b1) (Ge A b1)))))),?_,?_⟩
  ·exact fM (R:=λf(n:Nat)=>SZ ρ f n) (F6 M b2) (fM (R:=λf(n:Nat)=>SZ ρ f n) (Jg M b2) (fM (R:=λf(n:Nat)=>SZ ρ f n) (Ga M b2) (fM (R:=λf(n:Nat)=>SZ ρ f n) (Ky A) (fM (R:=λf(n:Nat)=>SZ ρ f n) (Mc A) (fM (R:=λf(n:Nat)=>SZ ρ f n) (IA M b2) (G7 M b2))))))
  ·exact fM (Kg A b1) (fM (Kb A b1) (fM (K8 A b1) (fM ((Kg M b2).iff Int.ofNat_le) (fM ((Kb M b2).iff Int.ofNat_lt) (fM ((K8 M b2).iff Int.ofNat_inj) (fM (K6 L B) (fM (KW L B) (fM (Ou L B) (Ls L B)))))))))
theorem Gl(t):∀{f},(∀ρ,ρ.length=t.length→(∀i,t.getD i false=true→0≤ud ρ i)→Hl ρ (Nx t)→f ρ)→bE t f:=by
 induction t with
 |nil=>exactλh=>h [] rfl (λi e=>by cases i<;>cases e) (λl H=>by cases H)
 |cons b t I=>
  intro f h;have K:∀x:Int,(b=true→0≤x)→bE t λr=>f (x::r):=λx X=>I λρ e P n=>by
   refine h (x::ρ) (congrArg Nat.succ e) (λi q=> ?_) ?_
   ·cases i with
    |zero=>exact X q
    |succ i=>exact P i q
   ·have h2:Hl (x::ρ) ((Nx t).map λp=>(p.1,0::p.2)):=by
     intro l H;obtain⟨p,P,rfl⟩:=List.mem_map.mp H;have:=n p P;show 0≤p.1+(0*x+kW p.2 ρ);rw[Int.zero_mul,Int.zero_add];exact this
    cases b with
    |false=>exact h2
    |true=>
     apply Hl.cons h2;show 0≤0+(1*x+0);rw[Int.one_mul,Int.add_zero,Int.zero_add];exact X rfl
  cases b with
  |false=>exactλx=>K x λq=>absurd q Bool.false_ne_true
  |true=>exactλx=>K (Int.ofNat x) λ_=>Int.natCast_nonneg x
theorem zm(k)(ok:Gy k=true):J5 k:=Gl _ λρ e H N=>Classical.byContradiction λn=>(L6 H (BY k).1).2.2 false _ _ ok N n λC W q=>K5 _ ρ C e W q
theorem zl(k)(ok:Gy k=true):O3 k:=zm k ok
noncomputable abbrev Po:=List (Int×List Nat)
noncomputable def AU(i:Nat)(l:List Nat):List Nat:=List.rec [i] (λj l r=>cond (Nat.ble i j) (i::j::l) (j::r)) l
noncomputable def CE(c:Int)(m:List Nat)(p:Po):Po:=List.rec [(c,m)] (λt l r=>cond (t.2==m) ((c+t.1,m)::l) (t::r)) p
noncomputable def kE(c:Int)(m:List Nat)(p q:Po):Po:=List.rec q (λt _ r=>CE (c*t.1) (List.rec t.2 (λi _ r=>AU i r) m) r) p
noncomputable def Fm(p q:Po):Po:=List.rec [] (λt _ r=>kE t.1 t.2 q r) p
noncomputable def rN(a:A):Po:=A.rec (λi=>[(1,[i])]) (λn=>[(Int.ofNat n,[])]) (λo _ _ x y=>cs o 0 (kE 1 [] x y) (cs o 1 (kE (-1) [] y x) (cs o 2 (Fm x y) (kE (-1) [] x [])))) a
noncomputable def O6(a:A):Bool:=A.rec (λ_=>true) (λ_=>true) (λo _ _ x y=>Nat.beq (o-4) 0&& !Nat.beq o 3&&x&&y) a
noncomputable def rB(ρ:List Int)(m:List Nat):Int:=List.rec 1 (λi _ r=>ud ρ i*r) m
noncomputable def ki(ρ:List Int)(p:Po):Int:=List.rec 0 (λt _ r=>t.1*rB ρ t.2+r) p
theorem Ei(l):rB ρ (AU i l)=ud ρ i*rB ρ l:=by
 induction l with
 |nil=>rfl
 |cons j l I=>
  show rB ρ (cond (Nat.ble i j) (i::j::l) (j::AU i l))=ud ρ i*(ud ρ j*rB ρ l);cases Nat.ble i j with
  |true=>rfl
  |false=>show ud ρ j*rB ρ (AU i l)=_;rw[I,Int.mul_left_comm]
theorem Ew(p):ki ρ (CE c m p)=c*rB ρ m+ki ρ p:=by
 induction p with
 |nil=>rfl
 |cons t l I=>
  show ki ρ (cond (t.2==m) ((c+t.1,m)::l) (t::CE c m l))=c*rB ρ m+(t.1*rB ρ t.2+ki ρ l);cases e:t.2==m with
  |true=>rw[eq_of_beq e];show(c+t.1)*rB ρ m+ki ρ l=_;rw[Int.add_mul,Int.add_assoc]
  |false=>show t.1*rB ρ t.2+ki ρ (CE c m l)=_;rw[I,Int.add_left_comm]
theorem Em(m):rB ρ (List.rec n (λi _ r=>AU i r) m)=rB ρ m*rB ρ n:=by
 induction m with
 |nil=>exact(Int.one_mul _).symm
 |cons i m I=>rw[Ei,I];show _=ud ρ i*rB ρ m*_;rw[Int.mul_assoc]
theorem kF(p):ki ρ (kE c m p q)=c*rB ρ m*ki ρ p+ki ρ q:=by
 induction p with
 |nil=>show _=_*0+_;rw[Int.mul_zero,Int.zero_add];rfl
 |cons t p I=>
  show ki ρ (CE _ _ (kE c m p q))=c*rB ρ m*(t.1*rB ρ t.2+ki ρ p)+ki ρ q;rw[Ew,I,Em,Int.mul_add,Int.add_assoc];congr 1
  ac_rfl
theorem DV(p):ki ρ (Fm p q)=ki ρ p*ki ρ q:=by
 induction p with
 |nil=>exact(Int.zero_mul _).symm
 |cons t p I=>show ki ρ (kE t.1 t.2 q (Fm p q))=(t.1*rB ρ t.2+ki ρ p)*_;rw[kF,I,Int.add_mul]
theorem O8(H:ki ρ x=z):ki ρ (kE (-1) [] x [])= -z:=by rw[kF,H];show(-1*1)*_+0=_;rw[Int.add_zero,Int.mul_one,Int.neg_mul,Int.one_mul]
theorem Oz(H:ki ρ x=z)(Y:ki ρ y=u):ki ρ (kE (-1) [] y x)=z-u:=by rw[kF,H,Y];show-1*1*_+_=_;rw[Int.mul_one,Int.neg_mul,Int.one_mul,Int.add_comm];rfl
theorem Nr(H:ki ρ x=z)(Y:ki ρ y=u):ki ρ (kE 1 [] x y)=z+u:=by rw[kF,H,Y];show 1*1*_+_=_;rw[Int.one_mul,Int.one_mul]
theorem Gs(a):O6 a=true→ki ρ (rN a)=(den ρ a).1:=by
 induction a with
 |v i=>intro _;show 1*(ud ρ i*1)+0=ud ρ i;rw[Int.one_mul,Int.mul_one,Int.add_zero]
 |c n=>intro _;show Int.ofNat n*1+0=Int.ofNat n;rw[Int.mul_one,Int.add_zero]
 |b o x y H K=>
  intro h;have h':=h;clear h;obtain⟨h,h2⟩:=dK h';obtain⟨h,h1⟩:=dK h;obtain⟨h,h3⟩:=dK h;replace H:=H h1;replace K:=K h2;clear h1 h2 h';show ki ρ (cs o 0 (kE 1 [] (rN x) (rN y)) (cs o 1 (kE (-1) [] (rN y) (rN x)) (cs o 2 (Fm (rN x) (rN y)) (kE (-1) [] (rN x) []))))=zO o (den ρ x) (den ρ y);generalize rN x=X at*;generalize rN y=Y at*;generalize den ρ x=D at*;generalize den ρ y=F at*;cases o with
  |zero=>exact Nr H K
  |succ o=>
  cases o with
  |zero=>exact Oz H K
  |succ o=>
  cases o with
  |zero=>exact(DV X).trans (by rw[H,K];rfl)
  |succ o=>
  cases o with
  |zero=>cases h3
  |succ o=>
  cases o with
  |zero=>exact O8 H
  |succ o=>exact absurd h ((show o+1+1+1+1+1-4=o+1 from rfl)▸Bool.false_ne_true)
noncomputable def MH(k:Nat):Bool:=A.rec (λ_=>false) (λ_=>false) (λo x y _ _=>Nat.beq o 2&&O6 x&&O6 y&&(kE (-1) [] (rN y) (rN x)).all λt=>tU t.1) (BY k).1
theorem Lu(h:(p.all λt=>tU t.1)=true):ki ρ p=0:=by
 induction p with
 |nil=>rfl
 |cons t p I=>
  rw[List.all_cons]at h;obtain⟨a,b⟩:=dK h;show t.1*rB ρ t.2+ki ρ p=0;rw[vV a,I b,Int.zero_mul];rfl
theorem zr(k)(ok:MH k=true):J5 k:=Gl _ λρ e H N=>by
 unfold MH at ok;generalize(BY k).1=a at ok⊢;cases a with
 |v i=>cases ok
 |c n=>cases ok
 |b o x y=>
  obtain⟨h,h4⟩:=dK ok;obtain⟨h,h3⟩:=dK h;obtain⟨h,h2⟩:=dK h;cases Nat.eq_of_beq_eq_true h;have:=Lu (ρ:=ρ) h4;rw[kF,Gs x h2,Gs y h3]at this;show(den ρ x).1=(den ρ y).1;have e: -1*(1:Int)*(den ρ y).1+(den ρ x).1=0:=this;rw[Int.mul_one,Int.neg_mul,Int.one_mul,Int.add_comm]at e;exact Int.sub_eq_zero.mp e
theorem d2(x):2*(x/2)≤x∧x<2*(x/2)+2∧x%2+2*(x/2)=x:=⟨Nat.mul_div_le x 2,Nat.lt_mul_div_succ x (by decide),Nat.mod_add_div x 2⟩
theorem QE(x:Int):2*(x/2)≤x∧x<2*(x/2)+2∧x%2+2*(x/2)=x:=⟨Int.mul_ediv_self_le (by decide),Int.lt_mul_ediv_self_add (by decide),Int.emod_add_mul_ediv x 2⟩
theorem dT [Decidable p](h:decide p=true):p:=of_decide_eq_true h
theorem dF [Decidable p](h:decide p=false):¬p:=of_decide_eq_false h
end Mine.Internal.La
open Mine.Internal.La(zm zl zr d2 QE dT dF)
namespace Mine.Internal
open PySem
open List Nat Heap Str
set_option genCtorIdx true in
inductive V where
 |none|bool(b:Bool)|int(i:Int)|str(s:Str)
 |L(l:List V)|o(l:List V)|dn(c:Nat)(fs:List (Nat×V))|lJ(l:List (Str×V))
set_option genCtorIdx true in
inductive FK where
 |j(v:V)|U(l:List V)|od(l:List (Str×V))
noncomputable def FK.v:FK→V
|.j v=>v|.U l=>.o l|.od l=>.lJ l
set_option genCtorIdx true in
inductive S where
 |y|j(v:V)|U(l:List V)|bl(l:List V)|oi(c:Nat)(fs:List (Nat×FK))|bi(c:Nat)(fs:List (Nat×FK))
set_option genCtorIdx true in
inductive Rv where
 |j(v:V)|U(l:List V)|oi(c:Nat)(fs:List (Nat×FK))
noncomputable def Il(f:List (Nat×FK)):List (Nat×V):=f.map λx=>(x.1,x.2.v)
noncomputable def Rv.v:Rv→V
|.j v=>v|.U l=>.o l|.oi c fs=>.dn c (Il fs)
noncomputable def Rv.s:Rv→S
|.j v=>.j v|.U l=>.U l|.oi c fs=>.oi c fs
noncomputable abbrev R:=List S
set_option genCtorIdx true in
inductive Fb where
 |v(i:Nat)|f(i n:Nat)
inductive B2 where
 |z(n:Nat)
 |add|sub|mul|fdiv|fmod|pow
inductive CO where
 |z(n:Nat)
 |lt|le|gt|ge|eq|ne|is|dt|nh|eH
inductive B1 where
 |z(n:Nat)
 |abs|str|list|len
inductive MZ where
 |z(n:Nat)
 |sZ|max|min
inductive E where
 |X|cB(b:Bool)|p(i:Int)|M(s:Str)|tQ(i:Int)
 |d(i:Nat)|JF(i:Nat)|qz(i n:Nat)
 |w(o:B2)(a b:E)|neg(a:E)|fO(a:E)|Q(es:E)|cL(es:E)|ite(t a b:E)
 |ag(o:CO)(a b:E)|mZ(o p:CO)(a b c:E)|DD(neg:Bool)(x:E)(p:Fb)|HE(p:Fb)
 |L(es:E)|Z(es:E)|nil|cons(e es:E)|j6(e:E)
 |sub(a i:E)|dZ(p:Fb)(i:E)|sl(a lo hi:E)|no|J(a:E)(n:Nat)|jZ(p:Fb)
 |call(f:Nat)(as:E)|P(f i:Nat)(as:E)|gz(f i:Nat)(as:E)|new(c f:Nat)(as:E)
 |b1(g:B1)(a:E)|b2(g:MZ)(a b:E)|tV(a:E)(c:Nat)|Jy(i:Nat)
 |join(a b:E)|jD(a b c:E)|wB(a b:E)
 |comp(j:Nat)(it cond elt:E)|eJ(as:E)|dj(f:Nat)(eA:List Nat)(body:E)|D(e:E)|Y(e:E)|dN|K
inductive T where
 |nil|cons(s r:T)
 |ex(e:E)|C(i:Nat)(e:E)|jo(is:List Nat)(e:E)|F0(i j:Nat)(a b:E)
 |vH(i:Nat)(o:B2)(e:E)|dx(p:Fb)(ix e:E)|lh(i n:Nat)(e:E)|wN(i n:Nat)
 |lK(i:Nat)(e:E)|ins(i:Nat)(a b:E)|Hp(i:Nat)
 |iff(c:E)(a b:T)|tT(c:E)(b:T)|bU(i:Nat)(it:E)(b:T)
 |ret(e:E)|gv(e:E)|cont|K
noncomputable abbrev E.l(l:List E):E:=List.rec .nil (λa _ r=>.cons a r) l
noncomputable abbrev T.l(l:List T):T:=List.rec .nil (λa _ r=>.cons a r) l
noncomputable def tD:List Nat→List Nat→Bool
|[],[]=>true
|a::x,b::y=>match beq a b with
 |true=>tD x y
 |false=>false
|_,_=>false
theorem wz:∀{y},tD x y=true↔x=y:=by
 induction x with
 |nil=>
  intro y;cases y with
  |nil=>exact⟨λ_=>rfl,λ_=>rfl⟩
  |cons b y=>exact⟨λh=>absurd h Bool.false_ne_true,λh=>absurd h.symm (cons_ne_nil _ _)⟩
 |cons a x I=>
  intro y;cases y with
  |nil=>exact⟨λh=>absurd h Bool.false_ne_true,λh=>absurd h (cons_ne_nil _ _)⟩
  |cons b y=>
   show(match Nat.beq a b with|true=>tD x y|false=>false)=true↔_;cases h:beq a b with
   |true=>rw[eq_of_beq_eq_true h];exact I.trans ⟨congrArg _,λe=>(cons.inj e).2⟩
   |false=>exact⟨λz=>absurd z Bool.false_ne_true,λz=>absurd (cons.inj z).1 (ne_of_beq_eq_false h)⟩
noncomputable def ax(a b:Str):Bool:=tD a.cps.toList b.cps.toList
theorem aD:ax a b=true↔a=b:=by
 unfold ax;rw[wz];constructor
 ·intro h;cases a;cases b;exact congrArg Str.mk (Array.toList_inj.mp h)
 ·rintro rfl;rfl
noncomputable def a8(k:Str):List (Str×V)→Option V
|[]=>.none
|x::r=>match ax k x.1 with
 |true=>some x.2
 |false=>a8 k r
noncomputable def fJ(k:Str)(v:V):List (Str×V)→List (Str×V)
|[]=>[(k,v)]
|x::r=>match ax k x.1 with
 |true=>(x.1,v)::r
 |false=>x::fJ k v r
noncomputable def d6{Y:Type}(n:Nat):List (Nat×Y)→Option Y
|[]=>.none
|x::r=>match beq n x.1 with
 |true=>some x.2
 |false=>d6 n r
noncomputable def gI{Y:Type}(n:Nat)(v:Y):List (Nat×Y)→List (Nat×Y)
|[]=>[(n,v)]
|x::r=>match beq n x.1 with
 |true=>(x.1,v)::r
 |false=>x::gI n v r
noncomputable def lH:Nat:=2^200
noncomputable def aA:Nat:=1000000
noncomputable def D6 :V→Option PyData
|.none=>some .none|.bool b=>some (.bool b)|.int i=>some (.int i)|.str s=>(match PyData.strOk s with|true=>some (.str s)|false=>.none)|_=>.none
noncomputable def bM(f:V→Option PyData):List V→Option (List PyData)
|[]=>some []
|v::r=>match f v,bM f r with
 |some d,some D=>some (d::D)
 |_,_=>.none
noncomputable def fh :V→Option PyData
|.L l=>(bM D6 l).map .tuple
|v=>D6 v
noncomputable def Ak :V→Option PyData
|.o l=>(bM fh l).map .list
|v=>fh v
noncomputable def vz(x y:V):Option Bool:=match Ak x,Ak y with
 |some a,some b=>some (PyData.eqv a b)
 |_,_=>.none
noncomputable def isNone:V→Bool
|.none=>true
|_=>false
noncomputable def yc(x:V)(l:List V):Option Bool:=match fh x,bM fh l with
 |some d,some D=>(match D.all (λy=>SeqAt.noMix y d)with
  |true=>some (decide (Spec.countIn d D≠0))
  |false=>.none)
 |_,_=>.none
noncomputable def JG(o:B2)(x y:V)(k:Rv→Prop):Prop:=match o,x,y with
 |.add,.int a,.int b=>k (.j (.int (a+b)))
 |.sub,.int a,.int b=>k (.j (.int (a-b)))
 |.mul,.int a,.int b=>a.natAbs<lH∧b.natAbs<lH∧k (.j (.int (a*b)))
 |.fdiv,.int a,.int b=>b≠0∧b.natAbs<lH∧k (.j (.int (a.fdiv b)))
 |.fmod,.int a,.int b=>b≠0∧k (.j (.int (a.fmod b)))
 |.pow,.int a,.int b=>0≤b∧b≤1000∧a.natAbs<2^64∧k (.j (.int (a^b.toNat)))
 |.add,.str a,.str b=>a.length+b.length≤aA∧k (.j (.str (a++b)))
 |.add,.o a,.o b=>a.length+b.length≤aA∧k (.U (a++b))
 |.mul,.o l,.int n=>(match l with|[v]=>0≤n∧n≤1000∧k (.U (replicate n.toNat v))|_=>False)
 |.mul,.str s,.int n=>(match s.cps.toList with|[c]=>0≤n∧n≤1000∧k (.j (.str ⟨(replicate n.toNat c).toArray⟩))|_=>False)
 |_,_,_=>False
noncomputable def oM(o:CO)(x y:V)(k:Bool→Prop):Prop:=match o with
 |.lt=>(match x,y with|.int a,.int b=>k (decide (a<b))|_,_=>False)
 |.le=>(match x,y with|.int a,.int b=>k (decide (a≤b))|_,_=>False)
 |.gt=>(match x,y with|.int a,.int b=>k (decide (b<a))|_,_=>False)
 |.ge=>(match x,y with|.int a,.int b=>k (decide (b≤a))|_,_=>False)
 |.eq=>(match vz x y with|some b=>k b|.none=>False)
 |.ne=>(match vz x y with|some b=>k (!b)|.none=>False)
 |.is=>(match y with|.none=>k (isNone x)|_=>False)
 |.dt=>(match y with|.none=>k (!isNone x)|_=>False)
 |.nh=>(match y with
  |.L l=>(match yc x l with|some b=>k b|.none=>False)
  |.o l=>(match yc x l with|some b=>k b|.none=>False)
  |.lJ l=>(match x with|.str s=>k (a8 s l).isSome|_=>False)
  |_=>False)
 |.eH=>(match y with
  |.L l=>(match yc x l with|some b=>k (!b)|.none=>False)
  |.o l=>(match yc x l with|some b=>k (!b)|.none=>False)
  |.lJ l=>(match x with|.str s=>k (!(a8 s l).isSome)|_=>False)
  |_=>False)
 |.z _=>False
noncomputable def JM:Bool→CO
|true=>.eH
|false=>.nh
noncomputable def bX(n:Nat)(i:Int):Int:=match decide (0≤i)with
 |true=>i
 |false=>i+n
noncomputable def cy{Y:Type}(l:List Y)(i:Int):Option Y:=match decide (0≤bX l.length i)with
 |true=>l[(bX l.length i).toNat]?
 |false=>.none
noncomputable def rM(x i:V)(k:V→Prop):Prop:=match x,i with
 |.L l,.int j=>(match cy l j with|some v=>k v|.none=>False)
 |.o l,.int j=>(match cy l j with|some v=>k v|.none=>False)
 |.str s,.int j=>s.cps.toList.length≤aA∧(match cy s.cps.toList j with|some c=>k (.str ⟨#[c]⟩)|.none=>False)
 |.lJ l,.str s=>(match a8 s l with|some v=>k v|.none=>False)
 |_,_=>False
noncomputable def ay(n:Nat)(i:Int):Nat:=(max 0 (min (n:Int) (bX n i))).toNat
noncomputable def bound(n:Nat)(d:Nat):V→Option Nat
|.none=>some d
|.int i=>some (ay n i)
|_=>.none
noncomputable def M0(x lo H:V)(k:Rv→Prop):Prop:=match x with
 |.o l=>(match bound l.length 0 lo,bound l.length l.length H with|some a,some b=>k (.U ((l.take b).drop a))|_,_=>False)
 |.str s=>s.cps.toList.length≤aA∧(match bound s.cps.toList.length 0 lo,bound s.cps.toList.length s.cps.toList.length H with|some a,some b=>k (.j (.str ⟨((s.cps.toList.take b).drop a).toArray⟩))|_,_=>False)
 |_=>False
noncomputable def y0(x:V)(k:V→Prop):Prop:=match x with
 |.L l=>k (.int l.length)
 |.o l=>k (.int l.length)
 |.str s=>s.cps.toList.length≤aA∧k (.int s.cps.toList.length)
 |_=>False
noncomputable def aG(n:Int):Str:=ofString (toString n)
noncomputable def QJ(g:B1)(x:V)(k:Rv→Prop):Prop:=match g,x with
 |.abs,.int a=>k (.j (.int a.natAbs))
 |.str,.int a=>a.natAbs<lH∧k (.j (.str (aG a)))
 |.list,.o l=>k (.U l)
 |.len,x=>y0 x λv=>k (.j v)
 |_,_=>False
noncomputable def Qn(g:MZ)(x y:V)(k:Rv→Prop):Prop:=match g,x,y with
 |.sZ,.int a,.int b=>b≠0∧b.natAbs<lH∧k (.j (.L [.int (a.fdiv b),.int (a.fmod b)]))
 |.max,.int a,.int b=>k (.j (.int (match decide (a<b)with|true=>b|false=>a)))
 |.min,.int a,.int b=>k (.j (.int (match decide (b<a)with|true=>b|false=>a)))
 |_,_,_=>False
noncomputable def DW(c:Nat)(x:V)(k:Bool→Prop):Prop:=match c,x with
 |0,.dn 0 _=>k true
 |2,.bool _=>k false
 |3,.str _=>k true
 |3,.o _=>k false
 |3,.dn _ _=>k false
 |_,_=>False
noncomputable def hW :List V→Option (List Str)
|[]=>some []
|.str s::r=>(hW r).map (s:: ·)
|_=>.none
noncomputable def dS:List Str→Str
|[]=>⟨#[]⟩
|s::r=>s++dS r
noncomputable def eG(s:Str)(n:Int)(c:Nat):Str:=⟨(replicate (n.toNat-s.cps.toList.length) c++s.cps.toList).toArray⟩
noncomputable def ao(lo:Int)(n:Nat)(st:Int):List V:=(range n).map λ(j:Nat)=>.int (lo+st*j)
noncomputable def va(a b:Int):Bool:=match decide (a.natAbs<2^60)with
 |true=>decide (b.natAbs<2^60)
 |false=>false
noncomputable def oU:V→Option Int
|.int i=>some i
|_=>.none
noncomputable def dG:List V→Option (List V)
|[]=>.none
|x::r=>match oU x with
 |.none=>.none
 |some a=>match r with
  |[]=>(match va 0 a with|true=>some (ao 0 a.toNat 1)|false=>.none)
  |y::r=>match oU y with
   |.none=>.none
   |some b=>match r with
    |[]=>(match va a b with|true=>some (ao a (b-a).toNat 1)|false=>.none)
    |z::r=>match oU z with
     |.none=>.none
     |some c=>match r with
      |[]=>(match decide (c=2)with|true=>(match va a b with|true=>some (ao a ((b-a+1).fdiv 2).toNat 2)|false=>.none)|false=>.none)
      |_::_=>.none
noncomputable def sY:V→Option (List V)
|.o l=>some l
|.L l=>some l
|_=>.none
noncomputable def bH(ρ:R)(i:Nat)(s:S)(k:R→Prop):Prop:=match ρ[i]? with
 |some (.bl _)=>False
 |some (.bi ..)=>False
 |some _=>k (ρ.set i s)
 |.none=>False
noncomputable def DA(ρ:R)(i:Nat)(k:V→R→Prop):Prop:=match ρ[i]? with
 |some (.j v)=>k v ρ
 |some (.U l)=>k (.o l) (ρ.set i (.j (.o l)))
 |some (.oi c F)=>k (.dn c (Il F)) (ρ.set i (.j (.dn c (Il F))))
 |_=>False
noncomputable def HO(ρ:R)(i:Nat)(k:Rv→R→Prop):Prop:=match ρ[i]? with
 |some (.U l)=>k (.U l) (ρ.set i .y)
 |some (.oi c F)=>k (.oi c F) (ρ.set i .y)
 |_=>False
noncomputable def d5:S→Option (List (Nat×FK))
|.oi _ f=>some f
|.bi _ f=>some f
|_=>.none
noncomputable def dQ:S→List (Nat×FK)→S
|.oi c _,f=>.oi c f
|.bi c _,f=>.bi c f
|s,_=>s
noncomputable def df:S→Option (List V)
|.U l=>some l
|.bl l=>some l
|_=>.none
noncomputable def fV:S→List V→S
|.U _,l=>.U l
|.bl _,l=>.bl l
|s,_=>s
noncomputable def pk(ρ:R)(p:Fb)(k:V→Prop):Prop:=match p with
 |.v i=>(match ρ[i]? with
  |some (.j v)=>k v
  |some (.U l)=>k (.o l)
  |some (.bl l)=>k (.o l)
  |_=>False)
 |.f i n=>(match(ρ[i]?).bind d5 with
  |some F=>(match d6 n F with|some x=>k x.v|.none=>False)
  |.none=>False)
noncomputable def Dr(ρ:R)(i n:Nat)(k:V→R→Prop):Prop:=match ρ[i]? with
 |some s=>(match d5 s with
  |some F=>(match d6 n F with
   |some (.j v)=>k v ρ
   |some x=>k x.v (ρ.set i (dQ s (gI n (.j x.v) F)))
   |.none=>False)
  |.none=>False)
 |.none=>False
noncomputable def gW(ρ:R)(i:Nat)(f:List V→Option (List V))(k:R→Prop):Prop:=match ρ[i]? with
 |some s=>(match(df s).bind f with
  |some l=>k (ρ.set i (fV s l))
  |.none=>False)
 |.none=>False
noncomputable def eZ(l:List V)(j:Int)(v:V):Option (List V):=match decide (0≤bX l.length j),decide (bX l.length j<l.length)with
 |true,true=>some (l.set (bX l.length j).toNat v)
 |_,_=>.none
noncomputable def Mq(ρ:R)(p:Fb)(I v:V)(k:R→Prop):Prop:=match p with
 |.v i=>(match I with|.int j=>gW ρ i (λl=>eZ l j v) k|_=>False)
 |.f i n=>(match ρ[i]? with
  |some s=>(match d5 s with
   |some F=>(match d6 n F,I with
    |some (.U l),.int j=>(match eZ l j v with|some l'=>k (ρ.set i (dQ s (gI n (.U l') F)))|.none=>False)
    |some (.od l),.str x=>(match decide (l.length<aA)with|true=>k (ρ.set i (dQ s (gI n (.od (fJ x v l)) F)))|false=>False)
    |_,_=>False)
   |.none=>False)
  |.none=>False)
noncomputable def N1:Rv→Option FK
|.j v=>some (.j v)
|.U l=>some (.U l)
|.oi c f=>some (.j (.dn c (Il f)))
noncomputable def rA(ρ:R)(i n:Nat)(x:FK)(k:R→Prop):Prop:=match ρ[i]?,blt n 9 with
 |some s,true=>(match d5 s with
  |some F=>k (ρ.set i (dQ s (gI n x F)))
  |.none=>False)
 |_,_=>False
noncomputable def mJ:S→Option S
|.U l=>some (.bl l)
|.bl l=>some (.bl l)
|.oi c f=>some (.bi c f)
|.bi c f=>some (.bi c f)
|_=>.none
noncomputable def F8:S→Option S
|.oi 1 f=>some (.bi 1 f)
|.bi 1 f=>some (.bi 1 f)
|_=>.none
noncomputable def pZ:S→S→Option S
|.U _,.bl l=>some (.U l)
|.bl _,.bl l=>some (.bl l)
|.oi c _,.bi C f=>(match beq c C with|true=>some (.oi c f)|false=>.none)
|.bi c _,.bi C f=>(match beq c C with|true=>some (.bi c f)|false=>.none)
|_,_=>.none
noncomputable def bf:List S→R→List S
|.bl _::as,s::ρ=>s::bf as ρ
|.bi _ _::as,s::ρ=>s::bf as ρ
|_::as,_::ρ=>bf as ρ
|_,_=>[]
noncomputable def fK(i:Nat):List Nat→Bool
|[]=>false
|j::r=>match beq i j with
 |true=>true
 |false=>fK i r
noncomputable def mB(g:List Nat):Nat→R→Option R
|_,[]=>some []
|i,s::r=>match mB g (i+1) r with
 |.none=>.none
 |some m=>match fK i g with
  |false=>some (.y::m)
  |true=>match s with
   |.j v=>some (.j v::m)
   |_=>.none
noncomputable abbrev Spec:=List S→(Rv→List S→Prop)→(Str→Prop)→Prop
noncomputable def iter(step:(R→Prop)→R→Prop):Nat→R→Prop
|0=>λ_=>False
|n+1=>step (iter step n)
noncomputable def jT:List Nat→List V→R→(R→Prop)→Prop
|[],[],ρ,k=>k ρ
|i::is,v::m,ρ,k=>bH ρ i (.j v) λρ=>jT is m ρ k
|_,_,_,_=>False
noncomputable def eK:(e:E)→Option (PLift (e=.nil))×Option (PLift (e=.dN))×Option (PLift (e=.no))×Option (PLift (e=.X))×Option (PLift (∃m,e=.M m))
|.nil=>(some ⟨rfl⟩,none,none,none,none)
|.dN=>(none,some ⟨rfl⟩,none,none,none)
|.no=>(none,none,some ⟨rfl⟩,none,none)
|.X=>(none,none,none,some ⟨rfl⟩,none)
|.M m=>(none,none,none,none,some ⟨⟨m,rfl⟩⟩)
|_=>(none,none,none,none,none)
noncomputable def ir(e:E):Bool:=(eK e).1.isSome
noncomputable def lg(e:E):Bool:=(eK e).2.1.isSome
noncomputable def oX(e:E):Bool:=(eK e).2.2.1.isSome
noncomputable def Jv(e:E):Bool:=(eK e).2.2.2.1.isSome
noncomputable def K0(e:E):Bool:=(eK e).2.2.2.2.isSome
theorem xN{p:Prop}{o:Option (PLift p)}(h:o.isSome=true):p:=by
 cases o with
 |none=>cases h
 |some x=>exact x.down
theorem k9(h:ir e=true):e=.nil:=xN h
theorem sj(h:lg e=true):e=.dN:=xN h
noncomputable def wH:E→R→Option V
|.X,_=>some .none
|.cB b,_=>some (.bool b)
|.p i,_=>some (.int i)
|.M s,_=>some (.str s)
|.neg (.p i),_=>some (.int (-i))
|.d i,ρ=>(match ρ[i]? with
 |some (.j v)=>some v
 |_=>.none)
|_,_=>.none
noncomputable def me:E→R→Option (List V)
|.nil,_=>some []
|.cons e es,ρ=>(match wH e ρ,me es ρ with
 |some v,some m=>some (v::m)
 |_,_=>.none)
|_,_=>.none
section
variable(F:Nat→Spec)
mutual
noncomputable def ev:E→R→(Rv→R→Prop)→(Str→Prop)→Prop
|.X,ρ,k,_=>k (.j .none) ρ
|.cB b,ρ,k,_=>k (.j (.bool b)) ρ
|.p i,ρ,k,_=>k (.j (.int i)) ρ
|.M s,ρ,k,_=>k (.j (.str s)) ρ
|.tQ i,ρ,k,_=>k (.j (.int i)) ρ
|.d i,ρ,k,_=>DA ρ i λv ρ=>k (.j v) ρ
|.JF i,ρ,k,_=>HO ρ i k
|.qz i n,ρ,k,_=>Dr ρ i n λv ρ=>k (.j v) ρ
|.w o a b,ρ,k,X=>ev a ρ (λx ρ=>ev b ρ (λy ρ=>JG o x.v y.v λr=>k r ρ) X) X
|.neg a,ρ,k,X=>ev a ρ (λx ρ=>match x.v with|.int i=>k (.j (.int (-i))) ρ|_=>False) X
|.fO a,ρ,k,X=>ev a ρ (λx ρ=>match x.v with|.bool b=>k (.j (.bool (!b))) ρ|_=>False) X
|.Q es,ρ,k,X=>xq es ρ k X
|.cL es,ρ,k,X=>DT es ρ k X
|.ite t a b,ρ,k,X=>tr t ρ (λc ρ=>match c with|true=>ev a ρ k X|false=>ev b ρ k X) X
|.ag o a b,ρ,k,X=>ev a ρ (λx ρ=>ev b ρ (λy ρ=>oM o x.v y.v λc=>k (.j (.bool c)) ρ) X) X
|.mZ o p a b c,ρ,k,X=>ev a ρ (λx ρ=>ev b ρ (λy ρ=>oM o x.v y.v λt=>match t with
 |true=>ev c ρ (λz ρ=>oM p y.v z.v λt=>k (.j (.bool t)) ρ) X
 |false=>k (.j (.bool false)) ρ) X) X
|.DD I x p,ρ,k,X=>ev x ρ (λx ρ=>pk ρ p λy=>oM (JM I) x.v y λc=>k (.j (.bool c)) ρ) X
|.HE p,ρ,k,_=>pk ρ p λy=>oM .ne y (.o []) λc=>k (.j (.bool c)) ρ
|.L es,ρ,k,X=>Cy es ρ (λY ρ=>Y.length≤aA∧k (.j (.L Y)) ρ) X
|.Z es,ρ,k,X=>Cy es ρ (λY ρ=>Y.length≤aA∧k (.U Y) ρ) X
|.sub a i,ρ,k,X=>ev a ρ (λx ρ=>ev i ρ (λj ρ=>rM x.v j.v λv=>k (.j v) ρ) X) X
|.dZ p i,ρ,k,_=>(match wH i ρ with|some j=>pk ρ p λx=>rM x j λv=>k (.j v) ρ|.none=>False)
|.sl a lo M,ρ,k,X=>ev a ρ (λx ρ=>MY lo ρ (λl ρ=>MY M ρ (λh ρ=>M0 x.v l h λr=>k r ρ) X) X) X
|.J a n,ρ,k,X=>ev a ρ (λx ρ=>match x.v with
 |.dn _ d=>(match d6 n d with|some v=>k (.j v) ρ|.none=>False)
 |_=>False) X
|.jZ p,ρ,k,_=>pk ρ p λx=>y0 x λv=>k (.j v) ρ
|.call f as,ρ,k,X=>Om as ρ (λargs ρ=>F f args (λr _=>k r ρ) X) X
|.P f i as,ρ,k,X=>(match ρ[i]?,me as ρ with
 |some o,some Y=>(match mJ o with
  |some s=>F f (s::Y.map .j) (λr ss=>match ss with|[H]=>(match pZ o H with|some O=>k r (ρ.set i O)|.none=>False)|_=>False) X
  |.none=>False)
 |_,_=>False)
|.gz f i as,ρ,k,X=>(match ρ[i]?,me as ρ with
 |some o,some Y=>(match F8 o with
  |some s=>F f (s::Y.map .j) (λr ss=>match ss with|[H]=>(match pZ o H with|some O=>k r (ρ.set i O)|.none=>False)|_=>False) X
  |.none=>False)
 |_,_=>False)
|.new c f as,ρ,k,X=>Cy as ρ (λY ρ=>F f (.bi c []::Y.map .j) (λr ss=>match r,ss with|.j .none,[.bi U d]=>(match Nat.beq c U with|true=>k (.oi c d) ρ|false=>False)|_,_=>False) X) X
|.b1 g a,ρ,k,X=>ev a ρ (λx ρ=>QJ g x.v λr=>k r ρ) X
|.b2 g a b,ρ,k,X=>ev a ρ (λx ρ=>ev b ρ (λy ρ=>Qn g x.v y.v λr=>k r ρ) X) X
|.tV a c,ρ,k,X=>ev a ρ (λx ρ=>DW c x.v λt=>k (.j (.bool t)) ρ) X
|.Jy i,ρ,k,_=>(match ρ[i]? with
 |some s=>(match df s with
  |some l=>(match l.getLast? with|some v=>k (.j v) (ρ.set i (fV s l.dropLast))|.none=>False)
  |.none=>False)
 |.none=>False)
|.join a b,ρ,k,X=>ev a ρ (λx ρ=>match x.v with
 |.str s=>ev b ρ (λy ρ=>match y.v with
  |.o l=>(match s.cps.toList,hW l with|[],some ss=>(dS ss).cps.toList.length≤aA∧k (.j (.str (dS ss))) ρ|_,_=>False)
  |_=>False) X
 |_=>False) X
|.jD a b c,ρ,k,X=>ev a ρ (λx ρ=>match x.v with
 |.str s=>ev b ρ (λy ρ=>ev c ρ (λz ρ=>match y.v,z.v with
  |.int n,.str c=>(match c.cps.toList with|[D]=>0≤n∧n≤1000∧s.cps.toList.length≤1000∧k (.j (.str (eG s n D))) ρ|_=>False)
  |_,_=>False) X) X
 |_=>False) X
|.wB a b,ρ,k,X=>ev a ρ (λx ρ=>match x.v with
 |.lJ l=>ev b ρ (λy ρ=>match y.v with
  |.str s=>k (.j ((a8 s l).getD .none)) ρ
  |_=>False) X
 |_=>False) X
|.comp j u cond J,ρ,k,X=>qY u ρ (λitems ρ=>items.length≤aA∧(items.foldr
 (λv L C ρ=>bH ρ j (.j v) λρ=>Gb cond ρ (λc ρ=>match c with
  |true=>ev J ρ (λr ρ=>L (C++[r.v]) ρ) (λ_=>False)
  |false=>L C ρ) (λ_=>False))
 (λC ρ=>bH ρ j .y λρ=>k (.U C) ρ)) [] ρ) X
|.dj f Q body,ρ,k,X=>(match mB Q 0 ρ with
 |some ρ'=>ev body ρ' (λr _=>k (.j r.v) ρ) (λm=>k (.j (.str m)) ρ)
 |.none=>False)
|.Y e,ρ,k,X=>ev e ρ (λr ρ=>k (.j r.v) ρ) X
|.dN,ρ,k,_=>k (.j .none) ρ
|_,_,_,_=>False
noncomputable def xq:E→R→(Rv→R→Prop)→(Str→Prop)→Prop
|.cons e es,ρ,k,X=>(match ir es with
 |true=>ev e ρ k X
 |false=>ev e ρ (λx ρ=>match x.v with
  |.bool c=>(match c with|true=>xq es ρ k X|false=>k (.j (.bool false)) ρ)
  |_=>False) X)
|_,_,_,_=>False
noncomputable def DT:E→R→(Rv→R→Prop)→(Str→Prop)→Prop
|.cons e es,ρ,k,X=>(match ir es with
 |true=>ev e ρ k X
 |false=>ev e ρ (λx ρ=>match x.v with
  |.bool c=>(match c with|true=>k (.j (.bool true)) ρ|false=>DT es ρ k X)
  |_=>False) X)
|_,_,_,_=>False
noncomputable def MY:E→R→(V→R→Prop)→(Str→Prop)→Prop
|.no,ρ,k,_=>k .none ρ
|.D e,ρ,k,X=>ev e ρ (λr ρ=>k r.v ρ) X
|_,_,_,_=>False
noncomputable def Gb:E→R→(Bool→R→Prop)→(Str→Prop)→Prop
|.no,ρ,k,_=>k true ρ
|.D e,ρ,k,X=>tr e ρ k X
|_,_,_,_=>False
noncomputable def yJ:E→R→(Bool→R→Prop)→(Str→Prop)→Prop
|.nil,ρ,k,_=>k true ρ
|.cons e es,ρ,k,X=>tr e ρ (λc ρ=>match c with|true=>yJ es ρ k X|false=>k false ρ) X
|_,_,_,_=>False
noncomputable def Fx:E→R→(Bool→R→Prop)→(Str→Prop)→Prop
|.nil,ρ,k,_=>k false ρ
|.cons e es,ρ,k,X=>tr e ρ (λc ρ=>match c with|true=>k true ρ|false=>Fx es ρ k X) X
|_,_,_,_=>False
noncomputable def Cy:E→R→(List V→R→Prop)→(Str→Prop)→Prop
|.nil,ρ,k,_=>k [] ρ
|.cons e es,ρ,k,X=>ev e ρ (λr ρ=>Cy es ρ (λv ρ=>k (r.v::v) ρ) X) X
|_,_,_,_=>False
noncomputable def Om:E→R→(List S→R→Prop)→(Str→Prop)→Prop
|.nil,ρ,k,_=>k [] ρ
|.cons (.j6 e) es,ρ,k,X=>ev e ρ (λr ρ=>Cy es ρ (λv ρ=>k (r.s::v.map .j) ρ) X) X
|.cons e es,ρ,k,X=>ev e ρ (λr ρ=>Cy es ρ (λv ρ=>k (.j r.v::v.map .j) ρ) X) X
|_,_,_,_=>False
noncomputable def qY:E→R→(List V→R→Prop)→(Str→Prop)→Prop
|.eJ as,ρ,k,X=>Cy as ρ (λv ρ=>match dG v with|some l=>k l ρ|.none=>False) X
|.D e,ρ,k,X=>ev e ρ (λr ρ=>match sY r.v with|some l=>k l ρ|.none=>False) X
|_,_,_,_=>False
noncomputable def tr:E→R→(Bool→R→Prop)→(Str→Prop)→Prop
|.fO a,ρ,k,X=>tr a ρ (λc ρ=>k (!c) ρ) X
|.Q es,ρ,k,X=>yJ es ρ k X
|.cL es,ρ,k,X=>Fx es ρ k X
|.ite t a b,ρ,k,X=>tr t ρ (λc ρ=>match c with|true=>tr a ρ k X|false=>tr b ρ k X) X
|.D e,ρ,k,X=>ev e ρ (λx ρ=>match x.v with|.bool c=>k c ρ|_=>False) X
|_,_,_,_=>False
end
noncomputable def ex:T→R→(R→Prop)→(R→Prop)→(Rv→R→Prop)→(Str→Prop)→Prop
|.nil,ρ,Y,_,_,_=>Y ρ
|.cons s r,ρ,Y,C,f,X=>ex s ρ (λρ=>ex r ρ Y C f X) C f X
|.ex e,ρ,Y,_,_,X=>ev F e ρ (λ_=>Y) X
|.C i e,ρ,Y,_,_,X=>ev F e ρ (λr ρ=>bH ρ i r.s Y) X
|.jo is e,ρ,Y,_,_,X=>ev F e ρ (λr ρ=>match sY r.v with|some D=>jT is D ρ Y|.none=>False) X
|.F0 i j a b,ρ,Y,_,_,X=>ev F a ρ (λx ρ=>ev F b ρ (λy ρ=>bH ρ j (.j y.v) λρ=>bH ρ i (.j x.v) Y) X) X
|.vH i o e,ρ,Y,_,_,X=>DA ρ i λx ρ=>ev F e ρ (λy ρ=>match o,x,y.v with
 |.add,.int a,.int b=>bH ρ i (.j (.int (a+b))) Y
 |.sub,.int a,.int b=>bH ρ i (.j (.int (a-b))) Y
 |_,_,_=>False) X
|.dx p u e,ρ,Y,_,_,X=>ev F e ρ (λv ρ=>match wH u ρ with|some j=>Mq ρ p j v.v Y|.none=>False) X
|.lh i n e,ρ,Y,_,_,X=>ev F e ρ (λr ρ=>match N1 r with|some x=>rA ρ i n x Y|.none=>False) X
|.wN i n,ρ,Y,_,_,_=>rA ρ i n (.od []) Y
|.lK i e,ρ,Y,_,_,X=>(match(ρ[i]?).bind df with
 |some _=>ev F e ρ (λr ρ=>gW ρ i (λl=>match decide (l.length<aA)with|true=>some (l++[r.v])|false=>.none) Y) X
 |.none=>False)
|.ins i a b,ρ,Y,_,_,X=>(match(ρ[i]?).bind df with
 |some _=>ev F a ρ (λx ρ=>ev F b ρ (λy ρ=>match x.v with
  |.int j=>gW ρ i (λl=>match decide (0≤j),decide (j≤l.length),decide (l.length<aA)with|true,true,true=>some (l.take j.toNat++y.v::l.drop j.toNat)|_,_,_=>.none) Y
  |_=>False) X) X
 |.none=>False)
|.Hp i,ρ,Y,_,_,_=>gW ρ i (λl=>some l.reverse) Y
|.iff c a b,ρ,Y,C,f,X=>tr F c ρ (λt ρ=>match t with|true=>ex a ρ Y C f X|false=>ex b ρ Y C f X) X
|.tT c b,ρ,Y,_,f,X=>∃n,iter (λI ρ=>tr F c ρ (λt ρ=>match t with|true=>ex b ρ I I f X|false=>Y ρ) X) n ρ
|.bU i H b,ρ,Y,_,f,X=>qY F H ρ (λitems ρ=>(items.foldr (λv g ρ=>bH ρ i (.j v) λρ=>ex b ρ g g f X) Y) ρ) X
|.ret e,ρ,_,_,f,X=>ev F e ρ f X
|.gv e,ρ,_,_,_,X=>ev F e ρ (λr _=>match r.v with|.str m=>X m|_=>False) X
|.cont,ρ,_,C,_,_=>C ρ
|.K,_,_,_,_,_=>False
noncomputable def wb(n:Nat)(b:T):Spec:=λargs K X=>
 ex F b (args++replicate (n-args.length) .y) (λρ=>K (.j .none) (bf args ρ)) (λ_=>False) (λr ρ=>K r (bf args ρ)) X
end
noncomputable def Gh:T:=.l [.tT (.D (.ag .gt (.d 1) (.p 0))) (.l [.F0 0 1 (.d 1) (.w .fmod (.d 0) (.d 1))]),.ret (.d 0)]
noncomputable def De:T:=.l [.iff (.D (.ag .eq (.d 1) (.p 0))) .K .nil,.iff (.D (.ag .lt (.d 1) (.p 0))) .K .nil,.C 2 (.call 0 (.l [.b1 .abs (.d 0),.d 1])),.ret (.L (.l [.w .fdiv (.d 0) (.d 2),.w .fdiv (.d 1) (.d 2)]))]
noncomputable def o6:T:=.l [.iff (.D (.ag .is (.d 0) .X)) .K .nil,.ret (.L (.l [.d 0,.p 1]))]
noncomputable def yt:T:=.l [.ret (.cL (.l [.ag .is (.d 0) .X,.Q (.l [.ag .eq (.sub (.d 0) (.p 0)) (.p 0),.ag .eq (.sub (.d 0) (.p 1)) (.p 0)])]))]
noncomputable def ua:T:=.l [.ret (.Q (.l [.ag .dt (.d 0) .X,.ag .eq (.sub (.d 0) (.p 0)) (.p 0),.ag .eq (.sub (.d 0) (.p 1)) (.p 0)]))]
noncomputable def mG:T:=.l [.ret (.Q (.l [.ag .dt (.d 0) .X,.ag .gt (.sub (.d 0) (.p 1)) (.p 0)]))]
noncomputable def GA:T:=.l [.iff (.D (.ag .is (.d 0) .X)) .K .nil,.ret (.L (.l [.w .sub (.p 0) (.sub (.d 0) (.p 0)),.sub (.d 0) (.p 1)]))]
noncomputable def FZ:T:=.l [.iff (.cL (.l [.D (.call 3 (.l [.d 0])),.D (.call 3 (.l [.d 1]))])) .K .nil,.iff (.Q (.l [.D (.ag .eq (.sub (.d 0) (.p 1)) (.p 0)),.D (.ag .eq (.sub (.d 1) (.p 1)) (.p 0))])) .K .nil,.iff (.D (.ag .eq (.sub (.d 0) (.p 1)) (.p 0))) .K .nil,.iff (.D (.ag .eq (.sub (.d 1) (.p 1)) (.p 0))) .K .nil,.ret (.call 1 (.l [.w .add (.w .mul (.sub (.d 0) (.p 0)) (.sub (.d 1) (.p 1))) (.w .mul (.sub (.d 1) (.p 0)) (.sub (.d 0) (.p 1))),.w .mul (.sub (.d 0) (.p 1)) (.sub (.d 1) (.p 1))]))]
noncomputable def F4:T:=.l [.ret (.call 7 (.l [.d 0,.call 6 (.l [.d 1])]))]
noncomputable def GN:T:=.l [.iff (.cL (.l [.D (.call 3 (.l [.d 0])),.D (.call 3 (.l [.d 1]))])) .K .nil,.ret (.call 1 (.l [.w .mul (.sub (.d 0) (.p 0)) (.sub (.d 1) (.p 0)),.w .mul (.sub (.d 0) (.p 1)) (.sub (.d 1) (.p 1))]))]
noncomputable def Gv:T:=.l [.iff (.cL (.l [.D (.call 3 (.l [.d 0])),.D (.call 3 (.l [.d 1]))])) .K .nil,.iff (.Q (.l [.D (.ag .eq (.sub (.d 0) (.p 1)) (.p 0)),.D (.ag .eq (.sub (.d 1) (.p 1)) (.p 0))])) .K .nil,.iff (.D (.ag .eq (.sub (.d 0) (.p 1)) (.p 0))) .K .nil,.ret (.call 1 (.l [.w .mul (.sub (.d 0) (.p 0)) (.sub (.d 1) (.p 1)),.w .mul (.sub (.d 0) (.p 1)) (.sub (.d 1) (.p 0))]))]
noncomputable def oN:T:=.l [.iff (.fO (.D (.call 5 (.l [.d 0])))) .K .nil,.C 1 (.w .fdiv (.b1 .abs (.sub (.d 0) (.p 0))) (.sub (.d 0) (.p 1))),.ret (.ite (.D (.ag .ge (.sub (.d 0) (.p 0)) (.p 0))) (.d 1) (.w .sub (.p 0) (.d 1)))]
noncomputable def gY:T:=.l [.C 2 (.w .fdiv (.d 0) (.d 1)),.C 3 (.w .mul (.p 2) (.w .sub (.d 0) (.w .mul (.d 2) (.d 1)))),.iff (.cL (.l [.D (.ag .gt (.d 3) (.d 1)),.Q (.l [.D (.ag .eq (.d 3) (.d 1)),.D (.ag .eq (.w .fmod (.d 2) (.p 2)) (.p 1))])])) (.l [.ret (.w .add (.d 2) (.p 1))]) .nil,.ret (.d 2)]
noncomputable def oA:T:=.l [.C 1 (.b1 .abs (.sub (.d 0) (.p 0))),.C 2 (.sub (.d 0) (.p 1)),.C 3 (.p 0),.tT (.D (.ag .ge (.d 1) (.w .mul (.p 10) (.d 2)))) (.l [.C 2 (.w .mul (.d 2) (.p 10)),.vH 3 .add (.p 1)]),.tT (.D (.ag .lt (.d 1) (.d 2))) (.l [.C 1 (.w .mul (.d 1) (.p 10)),.vH 3 .sub (.p 1)]),.ret (.d 3)]
noncomputable def rb:T:=.l [.iff (.cL (.l [.D (.call 3 (.l [.d 0])),.D (.call 3 (.l [.d 1]))])) .K .nil,.iff (.Q (.l [.D (.ag .eq (.sub (.d 0) (.p 1)) (.p 0)),.D (.ag .eq (.sub (.d 1) (.p 1)) (.p 0))])) (.l [.C 2 (.sub (.d 0) (.p 0)),.C 3 (.sub (.d 1) (.p 0))]) (.l [.C 2 (.w .mul (.sub (.d 0) (.p 0)) (.sub (.d 1) (.p 1))),.C 3 (.w .mul (.sub (.d 1) (.p 0)) (.sub (.d 0) (.p 1))),.iff (.D (.ag .eq (.sub (.d 0) (.p 1)) (.p 0))) (.l [.C 2 (.sub (.d 0) (.p 0)),.C 3 (.p 0)]) (.l [.iff (.D (.ag .eq (.sub (.d 1) (.p 1)) (.p 0))) (.l [.C 2 (.p 0),.C 3 (.sub (.d 1) (.p 0))]) .nil])]),.iff (.D (.ag .eq (.d 2) (.d 3))) (.l [.ret (.p 0)]) .nil,.ret (.ite (.D (.ag .lt (.d 2) (.d 3))) (.neg (.p 1)) (.p 1))]
noncomputable def kN:T:=.l [.C 1 (.b1 .abs (.d 0)),.C 2 (.Z .nil),.tT (.D (.ag .ge (.d 1) (.w .pow (.p 10) (.p 18)))) (.l [.jo [1,3] (.b2 .sZ (.d 1) (.w .pow (.p 10) (.p 18))),.lK 2 (.jD (.b1 .str (.d 3)) (.p 18) (.M ⟨#[48]⟩))]),.lK 2 (.b1 .str (.d 1)),.iff (.D (.ag .lt (.d 0) (.p 0))) (.l [.lK 2 (.M ⟨#[45]⟩)]) .nil,.Hp 2,.ret (.join (.M ⟨#[]⟩) (.d 2))]
noncomputable def iH:T:=.l [.iff (.D (.ag .is (.d 0) .X)) .K .nil,.iff (.D (.ag .gt (.sub (.d 0) (.p 1)) (.p 0))) (.l [.ret .X]) .nil,.iff (.D (.ag .eq (.sub (.d 0) (.p 0)) (.p 0))) .K .nil,.ret (.ite (.D (.ag .gt (.sub (.d 0) (.p 0)) (.p 0))) (.M ⟨#[73,110,102]⟩) (.M ⟨#[45,73,110,102]⟩))]
noncomputable def uo:T:=.l [.C 3 (.w .sub (.w .sub (.d 2) (.p 1)) (.d 1)),.iff (.D (.ag .ge (.d 3) (.p 0))) (.l [.ret (.call 12 (.l [.w .mul (.b1 .abs (.sub (.d 0) (.p 0))) (.w .pow (.p 10) (.d 3)),.sub (.d 0) (.p 1)]))]) .nil,.ret (.call 12 (.l [.b1 .abs (.sub (.d 0) (.p 0)),.w .mul (.sub (.d 0) (.p 1)) (.w .pow (.p 10) (.w .sub (.p 0) (.d 3)))]))]
noncomputable def jE:T:=.l [.iff (.D (.ag .eq (.sub (.d 0) (.p 0)) (.p 0))) (.l [.ret (.L (.l [.p 0,.w .mul (.M ⟨#[48]⟩) (.d 1),.p 0]))]) .nil,.C 2 (.call 13 (.l [.d 0])),.C 3 (.call 17 (.l [.d 0,.d 2,.d 1])),.iff (.D (.ag .ge (.d 3) (.w .pow (.p 10) (.d 1)))) (.l [.vH 2 .add (.p 1),.C 3 (.call 17 (.l [.d 0,.d 2,.d 1]))]) .nil,.ret (.L (.l [.ite (.D (.ag .gt (.sub (.d 0) (.p 0)) (.p 0))) (.p 1) (.neg (.p 1)),.b1 .str (.d 3),.d 2]))]
noncomputable def iN:T:=.l [.C 1 (.b1 .len (.d 0)),.tT (.Q (.l [.D (.ag .gt (.d 1) (.p 1)),.D (.ag .eq (.sub (.d 0) (.w .sub (.d 1) (.p 1))) (.M ⟨#[48]⟩))])) (.l [.vH 1 .sub (.p 1)]),.ret (.Y (.sl (.d 0) .no (.D (.d 1))))]
noncomputable def fC:T:=.l [.jo [2,3,4] (.call 18 (.l [.d 0,.d 1])),.C 5 (.ite (.D (.ag .lt (.d 2) (.p 0))) (.M ⟨#[45]⟩) (.M ⟨#[]⟩)),.C 5 (.w .add (.d 5) (.sub (.d 3) (.p 0))),.iff (.D (.ag .gt (.d 1) (.p 1))) (.l [.C 5 (.Y (.w .add (.w .add (.d 5) (.M ⟨#[46]⟩)) (.sl (.d 3) (.D (.p 1)) .no)))]) .nil,.ret (.w .add (.w .add (.d 5) (.ite (.D (.ag .lt (.d 4) (.p 0))) (.M ⟨#[101,45]⟩) (.M ⟨#[101,43]⟩))) (.jD (.b1 .str (.b1 .abs (.d 4))) (.p 2) (.M ⟨#[48]⟩)))]
noncomputable def k6:T:=.l [.C 2 (.call 12 (.l [.w .mul (.b1 .abs (.sub (.d 0) (.p 0))) (.w .pow (.p 10) (.d 1)),.sub (.d 0) (.p 1)])),.C 3 (.jD (.call 15 (.l [.d 2])) (.w .add (.d 1) (.p 1)) (.M ⟨#[48]⟩)),.iff (.D (.ag .gt (.d 1) (.p 0))) (.l [.C 3 (.Y (.w .add (.w .add (.sl (.d 3) .no (.D (.w .sub (.b1 .len (.d 3)) (.d 1)))) (.M ⟨#[46]⟩)) (.sl (.d 3) (.D (.w .sub (.b1 .len (.d 3)) (.d 1))) .no)))]) .nil,.iff (.D (.ag .lt (.sub (.d 0) (.p 0)) (.p 0))) (.l [.ret (.w .add (.M ⟨#[45]⟩) (.d 3))]) .nil,.ret (.d 3)]
noncomputable def oO:T:=.l [.jo [2,3,4] (.call 18 (.l [.d 0,.d 1])),.C 5 (.b1 .len (.call 19 (.l [.d 3]))),.C 6 (.w .add (.b2 .max (.d 4) (.p 0)) (.p 1)),.iff (.D (.ag .lt (.sub (.d 0) (.p 0)) (.p 0))) (.l [.vH 6 .add (.p 1)]) .nil,.ret (.L (.l [.d 5,.d 6,.b2 .max (.w .sub (.w .sub (.d 5) (.p 1)) (.d 4)) (.p 0),.d 4]))]
noncomputable def jx:T:=.l [.C 2 (.p 1),.C 3 (.p 1),.C 4 (.p 0),.C 5 (.p 0),.C 6 (.p 0),.bU 7 (.D (.d 0)) (.l [.C 8 (.call 22 (.l [.d 7,.d 1])),.C 2 (.b2 .max (.d 2) (.sub (.d 8) (.p 0))),.C 3 (.b2 .max (.d 3) (.sub (.d 8) (.p 1))),.C 4 (.b2 .max (.d 4) (.sub (.d 8) (.p 2))),.iff (.D (.ag .ge (.b1 .abs (.sub (.d 8) (.p 3))) (.p 100))) (.l [.C 5 (.b2 .max (.d 5) (.w .sub (.b1 .len (.b1 .str (.b1 .abs (.sub (.d 8) (.p 3))))) (.p 2)))]) .nil,.iff (.D (.ag .lt (.sub (.d 7) (.p 0)) (.p 0))) (.l [.C 6 (.p 1)]) .nil]),.C 9 (.w .add (.d 3) (.ite (.D (.ag .gt (.d 4) (.p 0))) (.w .add (.d 4) (.p 1)) (.p 0))),.C 10 (.w .add (.w .add (.w .add (.d 6) (.ite (.D (.ag .gt (.d 2) (.p 1))) (.w .add (.d 2) (.p 1)) (.p 1))) (.p 4)) (.d 5)),.iff (.D (.ag .le (.d 9) (.d 10))) (.l [.ret (.L (.l [.M ⟨#[102,105,120,101,100]⟩,.d 4]))]) .nil,.ret (.L (.l [.M ⟨#[115,99,105,101,110,116,105,102,105,99]⟩,.d 2]))]
noncomputable def uG:T:=.l [.C 2 (.call 16 (.l [.d 0])),.iff (.D (.ag .dt (.d 2) .X)) (.l [.ret (.d 2)]) .nil,.iff (.D (.ag .eq (.sub (.d 1) (.p 0)) (.M ⟨#[102,105,120,101,100]⟩))) (.l [.ret (.call 21 (.l [.d 0,.sub (.d 1) (.p 1)]))]) .nil,.ret (.call 20 (.l [.d 0,.sub (.d 1) (.p 1)]))]
noncomputable def iS:T:=.l [.C 2 (.Y (.comp 4 (.D (.d 0)) (.D (.Q (.l [.D (.ag .dt (.d 4) .X),.D (.ag .gt (.sub (.d 4) (.p 1)) (.p 0))]))) (.d 4))),.C 3 (.call 23 (.l [.d 2,.d 1])),.ret (.Y (.comp 5 (.D (.d 0)) .no (.call 24 (.l [.d 5,.d 3]))))]
noncomputable def jQ:T:=.l [.ret (.sub (.call 25 (.l [.Z (.l [.d 0]),.d 1])) (.p 0))]
noncomputable def jL:T:=.l [.lh 0 0 (.d 1),.lh 0 1 (.d 2),.lh 0 2 (.d 3),.lh 0 3 (.cB false),.lh 0 4 (.cB false)]
noncomputable def Bx:T:=.l [.iff (.D (.ag .gt (.d 0) (.tQ 1000000))) .K .nil,.ret (.d 0)]
noncomputable def qR:T:=.l [.ret (.new 0 27 (.l [.M ⟨#[105,110,116,101,103,101,114]⟩,.b1 .list (.d 0),.dN]))]
noncomputable def uV:T:=.l [.ret (.Y (.new 0 27 (.l [.M ⟨#[100,111,117,98,108,101]⟩,.b1 .list (.d 0),.dN])))]
noncomputable def mQ:T:=.l [.ret (.Y (.new 0 27 (.l [.M ⟨#[99,104,97,114,97,99,116,101,114]⟩,.b1 .list (.d 0),.dN])))]
noncomputable def AE:T:=.l [.iff (.D (.ag .is (.d 0) .X)) .K .nil,.ret (.Y (.new 0 27 (.l [.M ⟨#[108,111,103,105,99,97,108]⟩,.Z (.l [.ite (.D (.d 0)) (.p 1) (.p 0)]),.dN])))]
noncomputable def u3:T:=.l [.C 1 (.J (.d 0) 0),.iff (.D (.ag .eq (.d 1) (.M ⟨#[78,85,76,76]⟩))) .K .nil,.iff (.cL (.l [.D (.tV (.d 0) 0),.D (.ag .eq (.d 1) (.M ⟨#[108,97,110,103,117,97,103,101]⟩))])) (.l [.ret (.b1 .len (.J (.d 0) 1))]) .nil,.iff (.D (.ag .eq (.d 1) (.M ⟨#[101,110,118,105,114,111,110,109,101,110,116]⟩))) .K .nil,.iff (.D (.ag .eq (.d 1) (.M ⟨#[100,111,116,115]⟩))) .K .nil,.ret (.p 1)]
noncomputable def mj:T:=.l [.ret (.ag .nh (.J (.d 0) 0) (.L (.l [.M ⟨#[108,111,103,105,99,97,108]⟩,.M ⟨#[105,110,116,101,103,101,114]⟩,.M ⟨#[100,111,117,98,108,101]⟩,.M ⟨#[99,104,97,114,97,99,116,101,114]⟩])))]
noncomputable def pD:T:=.l [.iff (.D (.ag .is (.J (.d 0) 2) .X)) (.l [.ret .X]) .nil,.ret (.wB (.J (.d 0) 2) (.d 1))]
noncomputable def lu:T:=.l [.iff (.cL (.l [.D (.ag .is (.d 1) .X),.D (.ag .eq (.d 0) (.M ⟨#[99,104,97,114,97,99,116,101,114]⟩))])) (.l [.ret (.d 1)]) .nil,.iff (.D (.ag .eq (.d 0) (.M ⟨#[108,111,103,105,99,97,108]⟩))) .K .nil,.iff (.D (.ag .eq (.d 0) (.M ⟨#[105,110,116,101,103,101,114]⟩))) .K .nil,.ret (.call 26 (.l [.d 1,.p 15]))]
noncomputable def jK:T:=.l [.C 1 (.call 35 (.l [.d 0,.M ⟨#[108,101,118,101,108,115]⟩])),.iff (.Q (.l [.D (.ag .dt (.d 1) .X),.D (.ag .eq (.J (.d 0) 0) (.M ⟨#[105,110,116,101,103,101,114]⟩)),.D (.ag .nh (.M ⟨#[102,97,99,116,111,114]⟩) .K)])) .K .nil,.ret (.Y (.comp 3 (.D (.J (.d 0) 1)) .no (.call 36 (.l [.J (.d 0) 0,.d 3]))))]
noncomputable def vf:T:=.l [.C 1 (.call 35 (.l [.d 0,.M ⟨#[100,105,109]⟩])),.iff (.D (.ag .is (.d 1) .X)) (.l [.ret .X]) .nil,.ret (.Y (.b1 .list (.J (.d 1) 1)))]
noncomputable def pH:T:=.l [.iff (.D (.ag .eq (.J (.d 0) 0) (.M ⟨#[108,97,110,103,117,97,103,101]⟩))) .K .nil,.iff (.D (.ag .eq (.J (.d 0) 0) (.M ⟨#[101,110,118,105,114,111,110,109,101,110,116]⟩))) .K .nil,.C 2 (.call 38 (.l [.d 0])),.iff (.Q (.l [.D (.ag .dt (.d 2) .X),.D (.ag .eq (.b1 .len (.d 2)) (.p 1))])) .K .nil,.C 4 (.call 35 (.l [.d 0,.M ⟨#[110,97,109,101,115]⟩])),.iff (.D (.ag .is (.d 4) .X)) (.l [.ret .X]) .nil,.ret (.Y (.b1 .list (.J (.d 4) 1)))]
noncomputable def kq:T:=.l [.iff (.D (.ag .eq (.d 0) (.M ⟨#[99,104,97,114,97,99,116,101,114]⟩))) .K .nil,.iff (.D (.ag .eq (.d 0) (.M ⟨#[100,111,117,98,108,101]⟩))) .K .nil,.iff (.D (.ag .is (.d 1) .X)) .K .nil,.ret (.ite (.D (.ag .eq (.d 1) (.p 0))) (.p 0) (.p 1))]
noncomputable def kh:T:=.l [.iff (.D (.ag .dt (.d 1) .X)) .K .nil,.ret (.d 0)]
noncomputable def rm:T:=.l [.iff (.fO (.D (.tV (.d 0) 0))) .K .nil,.C 3 (.J (.d 0) 1),.iff (.D (.ag .ne (.J (.d 0) 0) (.d 1))) .K .nil,.ret (.call 41 (.l [.new 0 27 (.l [.d 1,.b1 .list (.d 3),.dN]),.call 39 (.l [.d 0])]))]
noncomputable def mh:T:=.l [.C 1 (.call 33 (.l [.d 0])),.iff (.D (.ag .eq (.d 1) (.p 0))) .K .nil,.iff (.D (.ag .gt (.d 1) (.p 1))) .K .nil,.C 2 .X,.iff (.D (.call 34 (.l [.d 0]))) (.l [.C 2 (.call 40 (.l [.J (.d 0) 0,.sub (.J (.d 0) 1) (.p 0)]))]) .nil,.iff (.D (.ag .is (.d 2) .X)) .K .nil,.ret (.ag .eq (.d 2) (.p 1))]
noncomputable def pg:T:=.l [.iff (.D (.ag .is (.d 0) .X)) (.l [.ret (.d 1)]) .nil,.ret (.call 43 (.l [.d 0]))]
noncomputable def hK:T:=.l [.lh 0 5 (.d 1),.lh 0 6 (.d 2),.lh 0 7 (.w .mul (.Z (.l [.p 0])) (.b1 .len (.d 2))),.wN 0 8]
noncomputable def fT:T:=.l [.bU 1 (.D (.qz 0 5)) (.l [.iff (.D (.ag .ne (.d 1) (.M ⟨#[46,46,46]⟩))) (.l [.bU 2 (.eJ (.l [.jZ (.f 0 6)])) (.l [.iff (.Q (.l [.D (.ag .eq (.dZ (.f 0 6) (.d 2)) (.d 1)),.D (.ag .eq (.dZ (.f 0 7) (.d 2)) (.p 0))])) (.l [.iff (.D (.DD false (.d 1) (.f 0 8))) .K .nil,.dx (.f 0 8) (.d 1) (.d 2),.dx (.f 0 7) (.d 2) (.p 2)]) .nil])]) .nil])]
noncomputable def dr:T:=.l [.bU 2 (.eJ (.l [.jZ (.f 0 6)])) (.l [.C 3 (.dZ (.f 0 6) (.d 2)),.iff (.Q (.l [.D (.ag .ne (.dZ (.f 0 7) (.d 2)) (.p 2)),.D (.ag .dt (.d 3) .X),.D (.ag .ne (.d 3) (.M ⟨#[]⟩)),.D .K])) .K .nil])]
noncomputable def eM:T:=.l [.bU 1 (.D (.qz 0 5)) (.l [.iff (.D (.ag .eq (.d 1) (.M ⟨#[46,46,46]⟩))) (.l [.ret .X]) .nil,.iff (.D (.DD true (.d 1) (.f 0 8))) (.l [.ex (.gz 47 0 (.l [.d 1]))]) .nil])]
noncomputable def eU:T:=.l [.ret (.Q (.l [.ag .eq (.dZ (.f 0 7) (.d 1)) (.p 0),.cL (.l [.ag .is (.dZ (.f 0 6) (.d 1)) .X,.ag .eq (.dZ (.f 0 6) (.d 1)) (.M ⟨#[]⟩)])]))]
noncomputable def du:T:=.l [.C 1 (.p 0),.bU 2 (.D (.qz 0 5)) (.l [.iff (.D (.ag .eq (.d 2) (.M ⟨#[46,46,46]⟩))) (.l [.ret .X]) .nil,.iff (.D (.DD true (.d 2) (.f 0 8))) (.l [.tT (.Q (.l [.D (.ag .lt (.d 1) (.jZ (.f 0 6))),.fO (.D (.gz 49 0 (.l [.d 1])))])) (.l [.vH 1 .add (.p 1)]),.iff (.D (.ag .lt (.d 1) (.jZ (.f 0 6)))) (.l [.dx (.f 0 8) (.d 2) (.d 1),.dx (.f 0 7) (.d 1) (.p 2)]) .nil]) .nil])]
noncomputable def hH:T:=.l [.ret (.Y (.comp 1 (.eJ (.l [.jZ (.f 0 6)])) (.D (.D (.ag .eq (.dZ (.f 0 7) (.d 1)) (.p 0)))) (.d 1)))]
noncomputable def jH:T:=.l [.C 3 (.new 1 45 (.l [.d 0,.comp 5 (.D (.d 1)) .no (.sub (.d 5) (.p 0))])),.ex (.gz 46 3 .nil),.ex (.gz 48 3 .nil),.ex (.gz 50 3 .nil),.C 4 (.gz 51 3 .nil),.iff (.Q (.l [.D (.ag .gt (.b1 .len (.d 4)) (.p 0)),.D (.ag .eH (.M ⟨#[46,46,46]⟩) (.d 0))])) .K .nil,.ret (.L (.l [.qz 3 8,.d 4]))]
noncomputable def uJ:T:=.l [.iff (.D (.ag .is (.d 0) .X)) .K .nil,.ret (.d 0)]
noncomputable def A3:T:=.l [.jo [3,4] (.call 52 (.l [.b1 .list (.d 1),.d 0,.d 2])),.C 5 (.Z .nil),.bU 6 (.D (.d 1)) (.l [.iff (.D (.ag .eq (.d 6) (.M ⟨#[46,46,46]⟩))) (.l [.lK 5 (.comp 7 (.D (.d 4)) .no (.sub (.d 0) (.d 7)))]) (.l [.iff (.D (.ag .nh (.d 6) (.d 3))) (.l [.lK 5 (.sub (.sub (.d 0) (.sub (.d 3) (.d 6))) (.p 1))]) (.l [.lK 5 .X])])]),.ret (.d 5)]
noncomputable def dX:T:=.l [.ret (.cL (.l [.ag .is (.d 1) .X,.Q (.l [.ag .eq (.d 0) (.M ⟨#[100,111,117,98,108,101]⟩),.ag .eq (.d 1) (.L (.l [.p 0,.p 0]))])]))]
noncomputable def hZ:T:=.l [.iff (.D (.ag .eq (.d 0) (.M ⟨#[100,111,117,98,108,101]⟩))) (.l [.ret (.call 14 (.l [.d 1,.d 2]))]) .nil,.iff (.D (.ag .lt (.d 1) (.d 2))) .K .nil,.iff (.D (.ag .gt (.d 1) (.d 2))) .K .nil,.ret (.p 0)]
noncomputable def gj:T:=.l [.iff (.D (.ag .eH (.J (.d 0) 0) (.L (.l [.M ⟨#[108,111,103,105,99,97,108]⟩,.M ⟨#[105,110,116,101,103,101,114]⟩,.M ⟨#[100,111,117,98,108,101]⟩,.M ⟨#[99,104,97,114,97,99,116,101,114]⟩])))) .K .nil]
noncomputable def f9:T:=.l [.C 5 (.sub (.J (.d 0) 1) (.d 1)),.C 6 (.sub (.J (.d 0) 1) (.d 2)),.C 7 (.call 55 (.l [.J (.d 0) 0,.d 5])),.C 8 (.call 55 (.l [.J (.d 0) 0,.d 6])),.iff (.Q (.l [.D (.d 7),.D (.d 8)])) .K .nil,.iff (.D (.d 7)) .K .nil,.iff (.D (.d 8)) .K .nil,.C 9 (.call 56 (.l [.J (.d 0) 0,.d 5,.d 6])),.ret (.ite (.D (.d 3)) (.neg (.d 9)) (.d 9))]
noncomputable def iC:T:=.l [.bU 5 (.eJ (.l [.b1 .len (.d 0)])) (.l [.C 6 (.call 58 (.l [.sub (.d 0) (.d 5),.d 1,.d 2,.sub (.d 3) (.d 5),.d 4])),.iff (.D (.ag .ne (.d 6) (.p 0))) (.l [.ret (.d 6)]) .nil]),.ret (.p 0)]
noncomputable def km:T:=.l [.C 5 (.Z .nil),.C 6 (.p 0),.C 7 (.p 0),.tT (.Q (.l [.D (.ag .lt (.d 6) (.b1 .len (.d 0))),.D (.ag .lt (.d 7) (.b1 .len (.d 1)))])) (.l [.iff (.D (.ag .le (.call 59 (.l [.d 2,.sub (.d 0) (.d 6),.sub (.d 1) (.d 7),.d 3,.d 4])) (.p 0))) (.l [.lK 5 (.sub (.d 0) (.d 6)),.vH 6 .add (.p 1)]) (.l [.lK 5 (.sub (.d 1) (.d 7)),.vH 7 .add (.p 1)])]),.ret (.Y (.w .add (.w .add (.d 5) (.sl (.d 0) (.D (.d 6)) .no)) (.sl (.d 1) (.D (.d 7)) .no)))]
noncomputable def lA:T:=.l [.C 4 (.Y (.comp 7 (.D (.d 0)) .no (.Z (.l [.d 7])))),.iff (.D (.ag .eq (.b1 .len (.d 4)) (.p 0))) .K .nil,.tT (.D (.ag .gt (.b1 .len (.d 4)) (.p 1))) (.l [.C 5 (.Z .nil),.bU 6 (.eJ (.l [.p 0,.w .sub (.b1 .len (.d 4)) (.p 1),.p 2])) (.l [.lK 5 (.call 60 (.l [.sub (.d 4) (.d 6),.sub (.d 4) (.w .add (.d 6) (.p 1)),.d 1,.d 2,.d 3]))]),.iff (.D (.ag .eq (.w .fmod (.b1 .len (.d 4)) (.p 2)) (.p 1))) (.l [.lK 5 (.sub (.d 4) (.neg (.p 1)))]) .nil,.C 4 (.d 5)]),.ret (.sub (.d 4) (.p 0))]
noncomputable def pE:T:=.l [.iff (.D (.tV (.d 0) 2)) .K .nil,.ret (.Y (.w .mul (.Z (.l [.d 0])) (.d 1)))]
noncomputable def jI:T:=.l [.C 2 (.Z .nil),.bU 3 (.eJ (.l [.call 33 (.l [.sub (.d 0) (.p 0)])])) (.l [.C 4 (.cB true),.iff (.D (.ag .is (.d 1) .X)) .K .nil,.iff (.D (.d 4)) (.l [.lK 2 (.d 3)]) .nil]),.ret (.d 2)]
noncomputable def qe:T:=.l [.iff (.D (.ag .eq (.b1 .len (.d 0)) (.p 0))) .K .nil,.bU 3 (.D (.d 0)) (.l [.ex (.call 57 (.l [.d 3])),.iff (.D (.ag .ne (.call 33 (.l [.d 3])) (.call 33 (.l [.sub (.d 0) (.p 0)])))) .K .nil]),.C 4 (.call 62 (.l [.d 1,.b1 .len (.d 0)])),.ret (.call 61 (.l [.call 63 (.l [.d 0,.d 2]),.d 0,.d 4,.cL (.l [.ag .is (.d 2) .X,.d 2])]))]
noncomputable def fE:T:=.l [.ret (.cL (.l [.ag .is (.d 0) .X,.call 4 (.l [.d 0])]))]
noncomputable def qn:T:=.l [.C 1 .X,.C 2 .X,.bU 3 (.D (.d 0)) (.l [.iff (.cL (.l [.D (.call 65 (.l [.d 3])),.D (.ag .eq (.sub (.d 3) (.p 1)) (.p 0))])) (.l [.cont]) .nil,.iff (.cL (.l [.D (.ag .is (.d 1) .X),.D (.ag .lt (.call 14 (.l [.d 3,.d 1])) (.p 0))])) (.l [.C 1 (.d 3)]) .nil,.iff (.cL (.l [.D (.ag .is (.d 2) .X),.D (.ag .gt (.call 14 (.l [.d 3,.d 2])) (.p 0))])) (.l [.C 2 (.d 3)]) .nil]),.iff (.D (.ag .is (.d 1) .X)) (.l [.gv (.M ⟨#[39,120,39,32,104,97,115,32,110,111,32,102,105,110,105,116,101,32,118,97,108,117,101,115,32,116,111,32,99,117,116]⟩)]) .nil,.ret (.L (.l [.d 1,.d 2]))]
noncomputable def iI:T:=.l [.iff (.cL (.l [.D (.ag .is (.d 1) .X),.D (.ag .lt (.d 1) (.p 2))])) (.l [.gv (.M ⟨#[105,110,118,97,108,105,100,32,110,117,109,98,101,114,32,111,102,32,105,110,116,101,114,118,97,108,115]⟩)]) .nil,.ex (.call 28 (.l [.d 1])),.jo [2,3] (.call 66 (.l [.d 0])),.C 4 (.call 8 (.l [.d 3,.d 2])),.iff (.D (.ag .eq (.sub (.d 4) (.p 0)) (.p 0))) (.l [.C 4 (.d 2),.iff (.D (.ag .lt (.sub (.d 4) (.p 0)) (.p 0))) (.l [.C 4 (.call 6 (.l [.d 4]))]) (.l [.iff (.D (.ag .eq (.sub (.d 4) (.p 0)) (.p 0))) (.l [.C 4 (.call 2 (.l [.p 1]))]) .nil]),.C 5 (.call 10 (.l [.d 4,.call 2 (.l [.p 1000])])),.C 2 (.call 8 (.l [.d 2,.d 5])),.C 4 (.call 9 (.l [.d 5,.call 2 (.l [.p 2])])),.C 6 (.call 10 (.l [.d 4,.call 2 (.l [.d 1])])),.ret (.Y (.comp 8 (.eJ (.l [.w .add (.d 1) (.p 1)])) .no (.call 7 (.l [.d 2,.call 9 (.l [.d 6,.call 2 (.l [.d 8])])]))))]) .nil,.C 6 (.call 10 (.l [.d 4,.call 2 (.l [.d 1])])),.C 7 (.comp 9 (.eJ (.l [.w .add (.d 1) (.p 1)])) .no (.call 7 (.l [.d 2,.call 9 (.l [.d 6,.call 2 (.l [.d 9])])]))),.C 5 (.call 10 (.l [.d 4,.call 2 (.l [.p 1000])])),.dx (.v 7) (.p 0) (.call 8 (.l [.dZ (.v 7) (.p 0),.d 5])),.dx (.v 7) (.d 1) (.call 7 (.l [.dZ (.v 7) (.d 1),.d 5])),.ret (.d 7)]
noncomputable def iD:T:=.l [.bU 2 (.D (.d 1)) (.l [.iff (.D (.call 65 (.l [.d 2]))) (.l [.gv (.M ⟨#[105,110,118,97,108,105,100,32,115,112,101,99,105,102,105,99,97,116,105,111,110,32,111,102,32,39,98,114,101,97,107,115,39]⟩)]) .nil]),.iff (.D (.ag .eq (.b1 .len (.d 1)) (.p 0))) (.l [.gv (.M ⟨#[105,110,118,97,108,105,100,32,115,112,101,99,105,102,105,99,97,116,105,111,110,32,111,102,32,39,98,114,101,97,107,115,39]⟩)]) .nil,.iff (.D (.ag .eq (.b1 .len (.d 1)) (.p 1))) (.l [.ret (.call 67 (.l [.d 0,.call 11 (.l [.sub (.d 1) (.p 0)])]))]) .nil,.C 3 (.Y (.comp 5 (.D (.call 64 (.l [.Z (.l [.call 30 (.l [.d 1])]),.cB false,.cB true]))) .no (.sub (.d 1) (.d 5)))),.bU 4 (.eJ (.l [.w .sub (.b1 .len (.d 3)) (.p 1)])) (.l [.iff (.D (.ag .eq (.call 14 (.l [.sub (.d 3) (.d 4),.sub (.d 3) (.w .add (.d 4) (.p 1))])) (.p 0))) (.l [.gv (.M ⟨#[39,98,114,101,97,107,115,39,32,97,114,101,32,110,111,116,32,117,110,105,113,117,101]⟩)]) .nil]),.ret (.d 3)]
noncomputable def gZ:T:=.l [.iff (.D (.call 65 (.l [.d 0]))) (.l [.ret .X]) .nil,.C 4 (.w .sub (.b1 .len (.d 1)) (.p 1)),.bU 5 (.eJ (.l [.d 4])) (.l [.C 6 (.call 14 (.l [.d 0,.sub (.d 1) (.d 5)])),.C 7 (.call 14 (.l [.d 0,.sub (.d 1) (.w .add (.d 5) (.p 1))])),.iff (.Q (.l [.D (.d 2),.cL (.l [.D (.ag .gt (.d 6) (.p 0)),.Q (.l [.D (.d 3),.D (.ag .eq (.d 5) (.p 0)),.D (.ag .eq (.d 6) (.p 0))])]),.D (.ag .le (.d 7) (.p 0))])) (.l [.ret (.w .add (.d 5) (.p 1))]) .nil,.iff (.Q (.l [.fO (.D (.d 2)),.D (.ag .ge (.d 6) (.p 0)),.cL (.l [.D (.ag .lt (.d 7) (.p 0)),.Q (.l [.D (.d 3),.D (.ag .eq (.d 5) (.w .sub (.d 4) (.p 1))),.D (.ag .eq (.d 7) (.p 0))])])])) (.l [.ret (.w .add (.d 5) (.p 1))]) .nil]),.ret .X]
noncomputable def mi:T:=.l [.ret (.Y (.comp 4 (.D (.d 0)) .no (.call 69 (.l [.d 4,.d 1,.d 2,.d 3]))))]
noncomputable def ri:T:=.l [.bU 1 (.eJ (.l [.w .sub (.b1 .len (.d 0)) (.p 1)])) (.l [.iff (.D (.ag .eq (.sub (.d 0) (.d 1)) (.sub (.d 0) (.w .add (.d 1) (.p 1))))) (.l [.ret (.cB true)]) .nil]),.ret (.cB false)]
noncomputable def jv:T:=.l [.C 2 (.d 1),.C 3 (.Y (.comp 4 (.D (.d 0)) .no (.call 26 (.l [.d 4,.d 2])))),.tT (.Q (.l [.D (.ag .lt (.d 2) (.p 12)),.D (.call 71 (.l [.d 3]))])) (.l [.vH 2 .add (.p 1),.C 3 (.Y (.comp 5 (.D (.d 0)) .no (.call 26 (.l [.d 5,.d 2]))))]),.ret (.d 3)]
noncomputable def kC:T:=.l [.C 4 (.call 72 (.l [.d 0,.d 3])),.C 5 (.ite (.D (.d 1)) (.M ⟨#[40]⟩) (.M ⟨#[91]⟩)),.C 6 (.ite (.D (.d 1)) (.M ⟨#[93]⟩) (.M ⟨#[41]⟩)),.C 7 (.Z .nil),.bU 8 (.eJ (.l [.w .sub (.b1 .len (.d 4)) (.p 1)])) (.l [.lK 7 (.w .add (.w .add (.w .add (.w .add (.d 5) (.sub (.d 4) (.d 8))) (.M ⟨#[44]⟩)) (.sub (.d 4) (.w .add (.d 8) (.p 1)))) (.d 6))]),.iff (.Q (.l [.D (.d 2),.D (.d 1)])) (.l [.dx (.v 7) (.p 0) (.w .add (.M ⟨#[91]⟩) (.sl (.dZ (.v 7) (.p 0)) (.D (.p 1)) .no))]) (.l [.iff (.D (.d 2)) (.l [.dx (.v 7) (.neg (.p 1)) (.w .add (.sl (.dZ (.v 7) (.neg (.p 1))) .no (.D (.neg (.p 1)))) (.M ⟨#[93]⟩))]) .nil]),.ret (.d 7)]
noncomputable def fG:T:=.l [.bU 2 (.D (.d 1)) (.l [.iff (.D (.call 65 (.l [.d 2]))) .K .nil]),.bU 3 (.eJ (.l [.w .sub (.b1 .len (.d 1)) (.p 1)])) (.l [.iff (.D (.ag .gt (.call 14 (.l [.sub (.d 1) (.d 3),.sub (.d 1) (.w .add (.d 3) (.p 1))])) (.p 0))) (.l [.gv (.M ⟨#[39,118,101,99,39,32,109,117,115,116,32,98,101,32,115,111,114,116,101,100,32,110,111,110,45,100,101,99,114,101,97,115,105,110,103,108,121,32,97,110,100,32,110,111,116,32,99,111,110,116,97,105,110,32,78,65,115]⟩)]) .nil]),.C 4 (.Z .nil),.bU 5 (.D (.d 0)) (.l [.iff (.D (.call 65 (.l [.d 5]))) (.l [.lK 4 .X]) (.l [.lK 4 (.b1 .len (.comp 6 (.D (.d 1)) (.D (.D (.ag .le (.call 14 (.l [.d 6,.d 5])) (.p 0)))) (.d 6)))])]),.ret (.d 4)]
noncomputable def jr:T:=.l [.C 1 (.call 35 (.l [.d 0,.M ⟨#[108,101,118,101,108,115]⟩])),.iff (.cL (.l [.D (.ag .is (.d 1) .X),.fO (.D (.call 34 (.l [.d 1])))])) .K .nil,.ret (.Y (.comp 2 (.D (.call 37 (.l [.d 1]))) .no (.ite (.D (.ag .is (.d 2) .X)) (.M ⟨#[78,65]⟩) (.d 2))))]
noncomputable def iK:T:=.l [.iff (.D (.d 0)) (.l [.ret (.call 31 (.l [.Z (.l [.M ⟨#[111,114,100,101,114,101,100]⟩,.M ⟨#[102,97,99,116,111,114]⟩])]))]) .nil,.ret (.call 31 (.l [.Z (.l [.M ⟨#[102,97,99,116,111,114]⟩])]))]
noncomputable def jP:T:=.l [.iff (.D (.ag .is (.qz 0 2) .X)) (.l [.wN 0 2]) .nil,.dx (.f 0 2) (.M ⟨#[108,101,118,101,108,115]⟩) (.call 31 (.l [.d 1])),.dx (.f 0 2) (.M ⟨#[99,108,97,115,115]⟩) (.call 76 (.l [.d 2])),.ret (.d 0)]
noncomputable def ky:T:=.l [.iff (.D (.ag .eq (.J (.d 0) 0) (.M ⟨#[78,85,76,76]⟩))) .K .nil,.iff (.fO (.D (.call 34 (.l [.d 0])))) .K .nil,.ret (.call 37 (.l [.d 0]))]
noncomputable def yP:T:=.l [.C 3 (.Y (.Z (.l [.M ⟨#[120]⟩,.M ⟨#[98,114,101,97,107,115]⟩,.M ⟨#[108,97,98,101,108,115]⟩,.M ⟨#[105,110,99,108,117,100,101,46,108,111,119,101,115,116]⟩,.M ⟨#[114,105,103,104,116]⟩,.M ⟨#[100,105,103,46,108,97,98]⟩,.M ⟨#[111,114,100,101,114,101,100,95,114,101,115,117,108,116]⟩,.M ⟨#[46,46,46]⟩]))),.jo [4,5,6,7,8,9,10,11] (.call 54 (.l [.d 1,.d 3,.dN])),.iff (.D (.ag .eH (.J (.call 53 (.l [.d 4,.M ⟨#[120]⟩])) 0) (.L (.l [.M ⟨#[105,110,116,101,103,101,114]⟩,.M ⟨#[100,111,117,98,108,101]⟩,.M ⟨#[108,111,103,105,99,97,108]⟩])))) .K .nil,.ex (.call 53 (.l [.d 5,.M ⟨#[98,114,101,97,107,115]⟩])),.C 12 (.J (.call 42 (.l [.d 4,.M ⟨#[100,111,117,98,108,101]⟩,.Z .nil])) 1),.C 13 (.call 44 (.l [.d 7,.cB false])),.C 14 (.call 44 (.l [.d 8,.cB true])),.C 15 (.call 68 (.l [.d 12,.J (.call 42 (.l [.d 5,.M ⟨#[100,111,117,98,108,101]⟩,.Z .nil])) 1])),.C 16 (.call 70 (.l [.d 12,.d 15,.d 14,.d 13])),.iff (.Q (.l [.D (.ag .dt (.d 6) .X),.D (.ag .eq (.J (.d 6) 0) (.M ⟨#[108,111,103,105,99,97,108]⟩)),.D (.ag .eq (.J (.d 6) 1) (.Z (.l [.p 0])))])) (.l [.ret (.Y (.call 29 (.l [.d 16])))]) .nil,.iff (.cL (.l [.D (.ag .is (.d 6) .X),.D (.ag .nh (.J (.d 6) 0) (.L (.l [.M ⟨#[78,85,76,76]⟩,.M ⟨#[108,111,103,105,99,97,108]⟩])))])) (.l [.C 17 (.ite (.D (.ag .is (.d 9) .X)) (.p 3) .K),.C 18 (.call 73 (.l [.d 15,.d 14,.d 13,.b2 .max (.p 1) (.b2 .min (.d 17) (.p 15))]))]) (.l [.C 18 (.call 78 (.l [.d 6])),.iff (.D (.ag .ne (.b1 .len (.d 18)) (.w .sub (.b1 .len (.d 15)) (.p 1)))) (.l [.gv (.M ⟨#[110,117,109,98,101,114,32,111,102,32,105,110,116,101,114,118,97,108,115,32,97,110,100,32,108,101,110,103,116,104,32,111,102,32,39,108,97,98,101,108,115,39,32,100,105,102,102,101,114]⟩)]) .nil]),.ret (.call 77 (.l [.j6 (.call 29 (.l [.d 16])),.d 18,.call 44 (.l [.d 10,.cB false])]))]
noncomputable def fj:T:=.l [.jo [3,4,5] (.call 54 (.l [.d 1,.Z (.l [.M ⟨#[120]⟩,.M ⟨#[118,101,99]⟩,.M ⟨#[46,46,46]⟩]),.dN])),.iff (.cL (.l [.D (.ag .is (.d 3) .X),.D (.ag .is (.d 4) .X),.fO (.D (.call 34 (.l [.d 3]))),.fO (.D (.call 34 (.l [.d 4])))])) .K .nil,.ret (.Y (.call 29 (.l [.call 74 (.l [.J (.call 42 (.l [.d 3,.M ⟨#[100,111,117,98,108,101]⟩,.Z .nil])) 1,.J (.call 42 (.l [.d 4,.M ⟨#[100,111,117,98,108,101]⟩,.Z .nil])) 1])])))]
noncomputable def oh:T:=.l [.ret (.ite (.D (.HE (.v 0))) (.Jy 0) (.p 0))]
noncomputable def ra:T:=.l [.C 1 (.Z .nil),.bU 2 (.D (.sl (.d 0) .no (.D (.p 40)))) (.l [.C 3 (.ite (.D (.ag .ge (.d 2) (.p 0))) (.d 2) (.w .sub (.p 5) (.d 2))),.lK 1 (.w .fmod (.d 3) (.p 997)),.C 3 (.w .fdiv (.d 3) (.p 997)),.bU 4 (.eJ (.l [.p 30])) (.l [.iff (.D (.ag .gt (.d 3) (.p 0))) (.l [.lK 1 (.w .fmod (.d 3) (.p 997)),.C 3 (.w .fdiv (.d 3) (.p 997))]) .nil])]),.C 1 (.sl (.d 1) .no (.D (.p 150))),.Hp 1,.ret (.JF 1)]
noncomputable def jt:T:=.l [.C 2 (.b1 .abs (.d 0)),.C 3 (.d 1),.tT (.D (.ag .gt (.d 3) (.p 0))) (.l [.F0 2 3 (.d 3) (.w .fmod (.d 2) (.d 3))]),.ret (.L (.l [.w .fdiv (.d 0) (.d 2),.w .fdiv (.d 1) (.d 2)]))]
noncomputable def lB:T:=.l [.C 2 (.w .fmod (.P 81 0 .nil) (.p 9)),.iff (.Q (.l [.D (.ag .eq (.d 2) (.p 8)),.D (.d 1)])) (.l [.ret (.sub (.Z (.l [.X,.L (.l [.p 0,.p 0]),.L (.l [.p 1,.p 0]),.L (.l [.neg (.p 1),.p 0])])) (.w .fmod (.P 81 0 .nil) (.p 4)))]) .nil,.iff (.D (.ag .gt (.d 2) (.p 5))) (.l [.ret (.call 83 (.l [.w .sub (.w .fmod (.P 81 0 .nil) (.p 37)) (.p 12),.w .add (.p 2) (.w .fmod (.d 2) (.p 2))]))]) .nil,.ret (.L (.l [.w .sub (.w .fmod (.P 81 0 .nil) (.p 13)) (.p 4),.p 1]))]
noncomputable def my:T:=.l [.iff (.D (.ag .eq (.d 0) (.d 1))) (.l [.ret (.p 0)]) .nil,.iff (.cL (.l [.D (.ag .eq (.sub (.d 0) (.p 1)) (.p 0)),.D (.ag .eq (.sub (.d 1) (.p 1)) (.p 0))])) (.l [.C 2 (.ite (.D (.ag .gt (.sub (.d 0) (.p 1)) (.p 0))) (.p 0) (.sub (.d 0) (.p 0))),.C 3 (.ite (.D (.ag .gt (.sub (.d 1) (.p 1)) (.p 0))) (.p 0) (.sub (.d 1) (.p 0))),.ret (.ite (.D (.ag .lt (.d 2) (.d 3))) (.neg (.p 1)) (.p 1))]) .nil,.ret (.ite (.D (.ag .lt (.w .mul (.sub (.d 0) (.p 0)) (.sub (.d 1) (.p 1))) (.w .mul (.sub (.d 1) (.p 0)) (.sub (.d 0) (.p 1))))) (.neg (.p 1)) (.p 1))]
noncomputable def mD:T:=.l [.ret (.cL (.l [.ag .is (.d 0) .X,.ag .eq (.d 0) (.L (.l [.p 0,.p 0]))]))]
noncomputable def kD:T:=.l [.C 1 (.Z .nil),.bU 2 (.D (.d 0)) (.l [.C 3 (.p 0),.tT (.Q (.l [.D (.ag .lt (.d 3) (.jZ (.v 1))),.D (.ag .le (.call 85 (.l [.dZ (.v 1) (.d 3),.d 2])) (.p 0))])) (.l [.vH 3 .add (.p 1)]),.ins 1 (.d 3) (.d 2)]),.ret (.d 1)]
noncomputable def kJ:T:=.l [.iff (.D (.ag .lt (.d 1) (.p 2))) (.l [.ret (.M ⟨#[105,110,118,97,108,105,100,32,110,117,109,98,101,114,32,111,102,32,105,110,116,101,114,118,97,108,115]⟩)]) .nil,.C 2 (.call 87 (.l [.comp 9 (.D (.d 0)) (.D (.Q (.l [.fO (.D (.call 86 (.l [.d 9]))),.D (.ag .gt (.sub (.d 9) (.p 1)) (.p 0))]))) (.d 9)])),.iff (.D (.ag .eq (.d 2) (.Z .nil))) (.l [.ret (.M ⟨#[39,120,39,32,104,97,115,32,110,111,32,102,105,110,105,116,101,32,118,97,108,117,101,115,32,116,111,32,99,117,116]⟩)]) .nil,.C 3 (.sub (.d 2) (.p 0)),.C 4 (.sub (.d 2) (.neg (.p 1))),.C 5 (.w .sub (.w .mul (.sub (.d 4) (.p 0)) (.sub (.d 3) (.p 1))) (.w .mul (.sub (.d 3) (.p 0)) (.sub (.d 4) (.p 1)))),.C 6 (.w .mul (.sub (.d 4) (.p 1)) (.sub (.d 3) (.p 1))),.iff (.D (.ag .eq (.d 5) (.p 0))) (.l [.C 5 (.ite (.D (.ag .ne (.sub (.d 3) (.p 0)) (.p 0))) (.b1 .abs (.sub (.d 3) (.p 0))) (.p 1)),.C 6 (.sub (.d 3) (.p 1)),.C 7 (.call 83 (.l [.w .sub (.w .mul (.w .mul (.sub (.d 3) (.p 0)) (.d 6)) (.p 1000)) (.w .mul (.d 5) (.sub (.d 3) (.p 1))),.w .mul (.w .mul (.sub (.d 3) (.p 1)) (.d 6)) (.p 1000)])),.C 5 (.w .mul (.p 2) (.d 5)),.C 6 (.w .mul (.d 6) (.p 1000)),.ret (.Y (.comp 10 (.eJ (.l [.w .add (.d 1) (.p 1)])) .no (.call 83 (.l [.w .add (.w .mul (.w .mul (.sub (.d 7) (.p 0)) (.d 6)) (.d 1)) (.w .mul (.w .mul (.d 10) (.d 5)) (.sub (.d 7) (.p 1))),.w .mul (.w .mul (.sub (.d 7) (.p 1)) (.d 6)) (.d 1)]))))]) .nil,.C 8 (.comp 11 (.eJ (.l [.w .add (.d 1) (.p 1)])) .no (.call 83 (.l [.w .add (.w .mul (.w .mul (.sub (.d 3) (.p 0)) (.d 6)) (.d 1)) (.w .mul (.w .mul (.d 11) (.d 5)) (.sub (.d 3) (.p 1))),.w .mul (.w .mul (.sub (.d 3) (.p 1)) (.d 6)) (.d 1)]))),.dx (.v 8) (.p 0) (.call 83 (.l [.w .sub (.w .mul (.w .mul (.sub (.d 3) (.p 0)) (.d 6)) (.p 1000)) (.w .mul (.d 5) (.sub (.d 3) (.p 1))),.w .mul (.w .mul (.sub (.d 3) (.p 1)) (.d 6)) (.p 1000)])),.dx (.v 8) (.d 1) (.call 83 (.l [.w .add (.w .mul (.w .mul (.sub (.d 4) (.p 0)) (.d 6)) (.p 1000)) (.w .mul (.d 5) (.sub (.d 4) (.p 1))),.w .mul (.w .mul (.sub (.d 4) (.p 1)) (.d 6)) (.p 1000)])),.ret (.d 8)]
noncomputable def kH:T:=.l [.iff (.cL (.l [.D (.ag .eq (.d 1) (.Z .nil)),.D (.ag .nh (.cB true) (.comp 4 (.D (.d 1)) .no (.call 86 (.l [.d 4]))))])) (.l [.ret (.M ⟨#[105,110,118,97,108,105,100,32,115,112,101,99,105,102,105,99,97,116,105,111,110,32,111,102,32,39,98,114,101,97,107,115,39]⟩)]) .nil,.iff (.D (.ag .eq (.b1 .len (.d 1)) (.p 1))) (.l [.ret (.call 88 (.l [.d 0,.w .fdiv (.sub (.sub (.d 1) (.p 0)) (.p 0)) (.sub (.sub (.d 1) (.p 0)) (.p 1))]))]) .nil,.C 2 (.call 87 (.l [.d 1])),.bU 3 (.eJ (.l [.p 1,.b1 .len (.d 2)])) (.l [.iff (.D (.ag .eq (.sub (.d 2) (.d 3)) (.sub (.d 2) (.w .sub (.d 3) (.p 1))))) (.l [.ret (.M ⟨#[39,98,114,101,97,107,115,39,32,97,114,101,32,110,111,116,32,117,110,105,113,117,101]⟩)]) .nil]),.ret (.d 2)]
noncomputable def oQ:T:=.l [.iff (.D (.call 86 (.l [.d 0]))) (.l [.ret .X]) .nil,.iff (.Q (.l [.D (.d 3),.D (.d 2),.D (.ag .eq (.d 0) (.sub (.d 1) (.p 0)))])) (.l [.ret (.p 1)]) .nil,.iff (.Q (.l [.D (.d 3),.fO (.D (.d 2)),.D (.ag .eq (.d 0) (.sub (.d 1) (.neg (.p 1))))])) (.l [.ret (.w .sub (.b1 .len (.d 1)) (.p 1))]) .nil,.C 4 (.b1 .len (.comp 5 (.D (.d 1)) (.D (.D (.ag .lt (.call 85 (.l [.d 5,.d 0])) (.ite (.D (.d 2)) (.p 0) (.p 1))))) (.d 5))),.ret (.ite (.D (.mZ .le .lt (.p 1) (.d 4) (.b1 .len (.d 1)))) (.d 4) .X)]
noncomputable def mu:T:=.l [.iff (.D (.ag .eq (.sub (.d 0) (.p 1)) (.p 0))) (.l [.ret (.ite (.D (.ag .gt (.sub (.d 0) (.p 0)) (.p 0))) (.M ⟨#[73,110,102]⟩) (.M ⟨#[45,73,110,102]⟩))]) .nil,.ret (.b1 .str (.sub (.d 0) (.p 0)))]
noncomputable def kK:T:=.l [.C 3 (.Z .nil),.bU 4 (.eJ (.l [.w .sub (.b1 .len (.d 0)) (.p 1)])) (.l [.C 5 (.ite (.Q (.l [.D (.d 1),.fO (.Q (.l [.D (.d 2),.D (.ag .eq (.d 4) (.p 0))]))])) (.M ⟨#[40]⟩) (.M ⟨#[91]⟩)),.C 6 (.ite (.cL (.l [.D (.d 1),.Q (.l [.D (.d 2),.D (.ag .eq (.d 4) (.w .sub (.b1 .len (.d 0)) (.p 2)))])])) (.M ⟨#[93]⟩) (.M ⟨#[41]⟩)),.lK 3 (.w .add (.w .add (.w .add (.w .add (.d 5) (.call 91 (.l [.sub (.d 0) (.d 4)]))) (.M ⟨#[44]⟩)) (.call 91 (.l [.sub (.d 0) (.w .add (.d 4) (.p 1))]))) (.d 6))]),.ret (.d 3)]
noncomputable def yn:T:=.l [.C 1 (.call 82 (.l [.d 0])),.C 2 (.Y (.comp 15 (.eJ (.l [.w .fmod (.P 81 1 .nil) (.p 9)])) .no (.P 84 1 (.l [.cB true])))),.C 3 (.w .fmod (.P 81 1 .nil) (.p 8)),.iff (.D (.ag .eq (.d 3) (.p 0))) (.l [.C 4 (.Z (.l [.L (.l [.w .fmod (.P 81 1 .nil) (.p 6),.p 1])]))]) (.l [.iff (.D (.ag .eq (.d 3) (.p 1))) (.l [.C 4 (.comp 16 (.eJ (.l [.w .fmod (.P 81 1 .nil) (.p 4)])) .no (.P 84 1 (.l [.cB true]))),.iff (.Q (.l [.D (.ag .eq (.jZ (.v 4)) (.p 1)),.D (.ag .dt (.dZ (.v 4) (.p 0)) .X),.cL (.l [.D (.ag .ne (.sub (.dZ (.v 4) (.p 0)) (.p 1)) (.p 1)),.D (.ag .gt (.sub (.dZ (.v 4) (.p 0)) (.p 0)) (.p 40))])])) (.l [.C 4 (.Z .nil)]) .nil]) (.l [.C 4 (.comp 17 (.eJ (.l [.w .add (.p 2) (.w .fmod (.P 81 1 .nil) (.p 4))])) .no (.P 84 1 (.l [.cB false]))),.iff (.D (.ag .eq (.d 3) (.p 2))) (.l [.dx (.v 4) (.p 0) (.L (.l [.p 1,.p 0])),.dx (.v 4) (.p 1) (.L (.l [.neg (.p 1),.p 0]))]) .nil])]),.C 5 (.ag .eq (.w .fmod (.P 81 1 .nil) (.p 2)) (.p 1)),.C 6 (.ag .eq (.w .fmod (.P 81 1 .nil) (.p 2)) (.p 1)),.C 7 (.Y (.Z (.l [.L (.l [.X,.new 0 27 (.l [.M ⟨#[100,111,117,98,108,101]⟩,.d 2,.dN])]),.L (.l [.X,.new 0 27 (.l [.M ⟨#[100,111,117,98,108,101]⟩,.d 4,.dN])]),.L (.l [.M ⟨#[114,105,103,104,116]⟩,.call 32 (.l [.d 5])]),.L (.l [.M ⟨#[105,110,99,108,117,100,101,46,108,111,119,101,115,116]⟩,.call 32 (.l [.d 6])])]))),.C 8 (.call 89 (.l [.d 2,.d 4])),.C 9 (.dj 94 [7] (.call 79 (.l [.X,.w .add (.d 7) (.Z (.l [.L (.l [.M ⟨#[108,97,98,101,108,115]⟩,.call 32 (.l [.cB false])])])),.X]))),.iff (.cL (.l [.D (.tV (.d 8) 3),.D (.tV (.d 9) 3)])) (.l [.ret (.ag .eq (.d 9) (.d 8))]) .nil,.C 10 (.Y (.comp 18 (.D (.d 2)) .no (.call 90 (.l [.d 18,.d 8,.d 5,.d 6])))),.iff (.cL (.l [.D (.ag .ne (.J (.d 9) 0) (.M ⟨#[105,110,116,101,103,101,114]⟩)),.D (.ag .ne (.J (.d 9) 1) (.d 10)),.D (.ag .dt (.J (.d 9) 2) .X)])) (.l [.ret (.cB false)]) .nil,.C 9 (.call 79 (.l [.X,.d 7,.X])),.iff (.cL (.l [.D (.ag .ne (.J (.d 9) 1) (.d 10)),.D (.ag .ne (.J (.sub (.J (.d 9) 2) (.M ⟨#[99,108,97,115,115]⟩)) 1) (.Z (.l [.M ⟨#[102,97,99,116,111,114]⟩])))])) (.l [.ret (.cB false)]) .nil,.iff (.Q (.l [.D (.ag .eH (.cB false) (.comp 19 (.D (.d 8)) .no (.ag .lt (.sub (.d 19) (.p 1)) (.p 2)))),.D (.ag .ne (.call 75 (.l [.d 9])) (.call 92 (.l [.d 8,.d 5,.d 6])))])) (.l [.ret (.cB false)]) .nil,.C 11 (.Y (.comp 20 (.eJ (.l [.w .add (.p 1) (.w .fmod (.P 81 1 .nil) (.p 5))])) .no (.w .add (.M ⟨#[107]⟩) (.b1 .str (.d 20))))),.C 9 (.dj 94 [7,11] (.call 79 (.l [.X,.w .add (.d 7) (.Z (.l [.L (.l [.M ⟨#[108,97,98,101,108,115]⟩,.new 0 27 (.l [.M ⟨#[99,104,97,114,97,99,116,101,114]⟩,.d 11,.dN])]),.L (.l [.M ⟨#[111,114,100,101,114,101,100,95,114,101,115,117,108,116]⟩,.call 32 (.l [.cB true])])])),.X]))),.iff (.D (.ag .ne (.b1 .len (.d 11)) (.w .sub (.b1 .len (.d 8)) (.p 1)))) (.l [.iff (.D (.ag .ne (.d 9) (.M ⟨#[110,117,109,98,101,114,32,111,102,32,105,110,116,101,114,118,97,108,115,32,97,110,100,32,108,101,110,103,116,104,32,111,102,32,39,108,97,98,101,108,115,39,32,100,105,102,102,101,114]⟩))) (.l [.ret (.cB false)]) .nil]) (.l [.iff (.cL (.l [.D (.ag .ne (.call 75 (.l [.d 9])) (.d 11)),.D (.ag .ne (.J (.d 9) 1) (.d 10)),.D (.ag .ne (.J (.sub (.J (.d 9) 2) (.M ⟨#[99,108,97,115,115]⟩)) 1) (.Z (.l [.M ⟨#[111,114,100,101,114,101,100]⟩,.M ⟨#[102,97,99,116,111,114]⟩])))])) (.l [.ret (.cB false)]) .nil]),.C 12 (.Y (.sl (.d 4) .no .no)),.C 13 (.ite (.D (.ag .gt (.w .fmod (.P 81 1 .nil) (.p 3)) (.p 0))) (.d 8) (.d 12)),.C 14 (.Y (.Z (.l [.L (.l [.X,.new 0 27 (.l [.M ⟨#[100,111,117,98,108,101]⟩,.d 2,.dN])]),.L (.l [.X,.new 0 27 (.l [.M ⟨#[100,111,117,98,108,101]⟩,.d 13,.dN])])]))),.C 9 (.dj 94 [14] (.call 80 (.l [.X,.d 14,.X]))),.iff (.D (.ag .ne (.call 87 (.l [.d 13])) (.d 13))) (.l [.ret (.ag .eq (.d 9) (.M ⟨#[39,118,101,99,39,32,109,117,115,116,32,98,101,32,115,111,114,116,101,100,32,110,111,110,45,100,101,99,114,101,97,115,105,110,103,108,121,32,97,110,100,32,110,111,116,32,99,111,110,116,97,105,110,32,78,65,115]⟩))]) .nil,.ret (.ag .eq (.J (.d 9) 1) (.comp 21 (.D (.d 2)) .no (.ite (.D (.call 86 (.l [.d 21]))) .X (.b1 .len (.comp 22 (.D (.d 13)) (.D (.D (.ag .le (.call 85 (.l [.d 22,.d 21])) (.p 0)))) (.d 22))))))]
structure FT where
 I:Addr
 name:Str
 kd:Nat
 sf:Nat
 ar:Nat
 sl:List String
 fx:Bool
 code:T
noncomputable def Gj:List FT:=[
 ⟨31,ofString "gcd",0,2,2,["a","b"],false,Gh⟩,
 ⟨38,ofString "make",0,2,2,["n","d","common"],false,De⟩,
 ⟨45,ofString "from_int",0,1,1,["n"],false,o6⟩,
 ⟨52,ofString "is_na",0,1,1,["x"],false,yt⟩,
 ⟨59,ofString "is_nan",0,1,1,["x"],false,ua⟩,
 ⟨66,ofString "is_finite",0,1,1,["x"],false,mG⟩,
 ⟨80,ofString "neg",0,1,1,["x"],false,GA⟩,
 ⟨87,ofString "add",0,2,2,["x","y"],false,FZ⟩,
 ⟨94,ofString "sub",0,2,2,["x","y"],false,F4⟩,
 ⟨101,ofString "mul",0,2,2,["x","y"],false,GN⟩,
 ⟨108,ofString "div",0,2,2,["x","y"],false,Gv⟩,
 ⟨115,ofString "to_whole",0,1,1,["x","found"],false,oN⟩,
 ⟨122,ofString "nearest_whole",0,2,2,["n","d","low","rest"],false,gY⟩,
 ⟨129,ofString "exponent",0,1,1,["x","n","d","e"],false,oA⟩,
 ⟨136,ofString "compare",0,2,2,["x","y","left","right"],false,rb⟩,
 ⟨143,ofString "whole_text",0,1,1,["n","rest","row","part"],false,kN⟩,
 ⟨150,ofString "special_text",0,1,1,["x"],false,iH⟩,
 ⟨157,ofString "scaled",0,3,3,["x","e","digits","shift"],false,uo⟩,
 ⟨164,ofString "significant",0,2,2,["x","digits","e","n"],false,jE⟩,
 ⟨171,ofString "without_tail",0,1,1,["text","end"],false,iN⟩,
 ⟨178,ofString "scientific_text",0,2,2,["x","digits","side","text","e","row"],false,fC⟩,
 ⟨185,ofString "fixed_text",0,2,2,["x","places","n","text"],false,k6⟩,
 ⟨192,ofString "measures",0,2,2,["x","digits","side","text","e","count","left"],false,oO⟩,
 ⟨199,ofString "chosen_form",0,2,2,["xs","digits","count","left","places","wide","minus","x","row","fixed_width","scientific_width"],false,jx⟩,
 ⟨206,ofString "formed",0,2,2,["x","form","text"],false,uG⟩,
 ⟨211,ofString "common_texts",0,2,2,["xs","digits","fractions","form","@4","@5"],false,iS⟩,
 ⟨219,ofString "number_text",0,2,2,["x","digits"],false,jQ⟩,
 ⟨308,ofString "__init__",2,3,4,["self","kind","items","attrs"],true,jL⟩,
 ⟨329,ofString "room",0,1,1,["n"],false,Bx⟩,
 ⟨336,ofString "integer",0,1,1,["items"],false,qR⟩,
 ⟨343,ofString "double",0,1,1,["items"],false,uV⟩,
 ⟨350,ofString "character",0,1,1,["items"],false,mQ⟩,
 ⟨357,ofString "flag",0,1,1,["b"],false,AE⟩,
 ⟨364,ofString "length",0,1,1,["v","kind"],false,u3⟩,
 ⟨371,ofString "is_atomic",0,1,1,["v"],false,mj⟩,
 ⟨385,ofString "get_attr",0,2,2,["v","name"],false,pD⟩,
 ⟨392,ofString "label_text",0,2,2,["kind","item"],false,lu⟩,
 ⟨404,ofString "label_texts",0,1,1,["value","levels","texts","@3"],false,jK⟩,
 ⟨416,ofString "dim_of",0,1,1,["v","dims"],false,vf⟩,
 ⟨409,ofString "names_of",0,1,1,["v","tag","dims","rows","names"],false,pH⟩,
 ⟨463,ofString "to_logical",0,2,2,["kind","item"],false,kq⟩,
 ⟨524,ofString "with_names",0,2,2,["v","names"],false,kh⟩,
 ⟨529,ofString "as_kind",0,3,3,["v","kind","notes","items"],false,rm⟩,
 ⟨536,ofString "condition",0,1,1,["v","count","found"],false,mh⟩,
 ⟨557,ofString "truth_of",0,2,2,["value","default"],false,pg⟩,
 ⟨571,ofString "__init__",3,3,3,["self","formals","tags"],true,hK⟩,
 ⟨578,ofString "exact",1,1,1,["self","name","place"],true,fT⟩,
 ⟨592,ofString "partial_of",1,2,2,["self","name","place","tag"],true,dr⟩,
 ⟨585,ofString "partial",1,1,1,["self","name"],true,eM⟩,
 ⟨606,ofString "is_free",1,2,2,["self","place"],true,eU⟩,
 ⟨599,ofString "positional",1,1,1,["self","place","name"],true,du⟩,
 ⟨611,ofString "rest",1,1,1,["self","@1"],true,hH⟩,
 ⟨643,ofString "match_names",0,3,3,["formals","args","show","matching","rest","@5"],false,jH⟩,
 ⟨650,ofString "needed",0,2,2,["value","name"],false,uJ⟩,
 ⟨656,ofString "take",0,2,3,["args","formals","show","places","rest","values","name","@7"],false,A3⟩,
 ⟨663,ofString "is_lacking_sorting",0,2,2,["kind","item"],false,dX⟩,
 ⟨670,ofString "compare_items",0,3,3,["kind","a","b"],false,hZ⟩,
 ⟨677,ofString "check_sortable",0,1,1,["v"],false,gj⟩,
 ⟨684,ofString "compare_places",0,5,5,["v","i","j","decreasing","na_last","left","right","left_lacking","right_lacking","result"],false,f9⟩,
 ⟨691,ofString "compare_keys",0,5,5,["vs","i","j","decreasing","na_last","number","result"],false,iC⟩,
 ⟨698,ofString "merge_runs",0,5,5,["left","right","vs","decreasing","na_last","merged","i","j"],false,km⟩,
 ⟨703,ofString "merge_sort",0,4,4,["places","vs","decreasing","na_last","runs","longer","at","@7"],false,lA⟩,
 ⟨708,ofString "each_key",0,2,2,["decreasing","count"],false,pE⟩,
 ⟨715,ofString "kept_places",0,2,2,["vs","na_last","places","place","keep","v"],false,jI⟩,
 ⟨723,ofString "order_by",0,3,3,["vs","decreasing","na_last","v","flags"],false,qe⟩,
 ⟨730,ofString "is_lacking_cuts",0,1,1,["x"],false,fE⟩,
 ⟨737,ofString "range_of",0,1,1,["xs","least","most","x"],false,qn⟩,
 ⟨742,ofString "equal_breaks",0,2,2,["xs","count","least","most","width","margin","step","bounds","@8","@9"],false,iI⟩,
 ⟨747,ofString "break_values",0,2,2,["xs","breaks","one","bounds","i","@5"],false,iD⟩,
 ⟨754,ofString "interval_code",0,4,4,["x","bounds","right","lowest","last","i","low","high"],false,gZ⟩,
 ⟨759,ofString "cut_codes",0,4,4,["xs","bounds","right","lowest","@4"],false,mi⟩,
 ⟨771,ofString "repeats",0,1,1,["texts","i"],false,ri⟩,
 ⟨764,ofString "break_texts",0,2,2,["bounds","least","digits","texts","@4","@5"],false,jv⟩,
 ⟨778,ofString "cut_labels",0,4,4,["bounds","right","lowest","least","texts","opening","closing","labels","i"],false,kC⟩,
 ⟨783,ofString "interval_places",0,2,2,["xs","bounds","one","i","found","x","@6"],false,fG⟩,
 ⟨788,ofString "level_texts",0,1,1,["f","found","@2"],false,jr⟩,
 ⟨795,ofString "factor_class",0,1,1,["ordered"],false,iK⟩,
 ⟨802,ofString "with_levels",0,3,3,["v","texts","ordered"],false,jP⟩,
 ⟨809,ofString "item_texts",0,1,1,["v"],false,ky⟩,
 ⟨816,ofString "b_cut",0,3,3,["interp","args","env","formals","v","breaks","labels","lowest","right","digits","ordered","rest","xs","closed","to_right","bounds","codes","least","names"],false,yP⟩,
 ⟨823,ofString "b_find_interval",0,3,3,["interp","args","env","v","bounds","rest"],false,fj⟩,
 ⟨837,ofString "_law_next",0,1,1,["row"],true,oh⟩,
 ⟨830,ofString "_law_row",0,1,1,["script","row","cell","figure","lap"],false,ra⟩,
 ⟨844,ofString "_law_reduced",0,2,2,["n","d","a","b"],false,jt⟩,
 ⟨851,ofString "_law_number",0,2,2,["row","wild","way"],true,lB⟩,
 ⟨858,ofString "_law_order",0,2,2,["x","y","left","right"],false,my⟩,
 ⟨865,ofString "_law_lacks",0,1,1,["x"],false,mD⟩,
 ⟨872,ofString "_law_sorted",0,1,1,["xs","found","x","at"],false,kD⟩,
 ⟨877,ofString "_law_spread",0,2,2,["xs","many","there","low","top","n","d","start","found","@9","@10","@11"],false,kJ⟩,
 ⟨882,ofString "_law_breaks",0,2,2,["xs","cutting","found","spot","@4"],false,kH⟩,
 ⟨887,ofString "_law_code",0,4,4,["x","bounds","right","closed","under","@5"],false,oQ⟩,
 ⟨901,ofString "_law_shown",0,1,1,["x"],false,mu⟩,
 ⟨894,ofString "_law_labels",0,3,3,["bounds","right","closed","found","spot","head","tail"],false,kK⟩,
 ⟨913,ofString "law",0,1,1,["script","row","xs","way","cutting","right","closed","args","due","told","codes","badges","falls","bounds","asked","@15","@16","@17","@18","@19","@20","@21","@22"],false,yn⟩
 ]
noncomputable def ft(k:Nat):FT:=(Gj[k]?).getD ⟨0,ofString "",0,0,0,[],false,.K⟩
noncomputable def pQ:List Mine.Internal.S→List Value→Option Value
|.bl _::_,x::_=>some x
|.bi _ _::_,x::_=>some x
|_,_=>none
noncomputable def vY:List Mine.Internal.S→Prop
|.bl _::_=>False
|.bi _ _::_=>False
|_=>True
theorem Ab(h:vY args)(xs):pQ args xs=none:=by
 cases args with
 |nil=>rfl
 |cons a as=>cases a<;>first|rfl|exact h.elim
noncomputable def MN(G:Nat→Spec)(t:FT):Spec:=λargs K X=>args.length=t.ar∧(t.fx=false→vY args)∧wb G t.sl.length t.code args K X
noncomputable def Ly:Nat→Nat→Spec
|0,_=>λ_ _ _=>False
|n+1,g=>match blt g n with
 |true=>Ly n g
 |false=>match beq g n with
  |true=>MN (Ly n) (ft n)
  |false=>λ_ _ _=>False
noncomputable def FF(g:Nat):Spec:=Ly (g+1) g
theorem CC{n}(h:g<n):Ly n g=FF g:=by
 induction n with
 |zero=>exact absurd h (not_lt_zero _)
 |succ n I=>
  by_cases q:g=n
  ·subst q;rfl
  ·have lt:=Nat.lt_of_le_of_ne (le_of_lt_succ h) q
   have e:Nat.blt g n=true:=Nat.ble_eq_true_of_le lt;show(match Nat.blt g n with|true=>Ly n g|false=>_)=_;rw[e];exact I lt
theorem yv(n):FF n=MN (Ly n) (ft n):=by
 have e:blt n n=false:=by
  cases q:blt n n with
  |false=>rfl
  |true=>exact absurd (le_of_ble_eq_true q) (not_succ_le_self n)
 show(match Nat.blt n n with|true=>Ly n n|false=>match Nat.beq n n with|true=>MN (Ly n) (ft n)|false=>λ_ _ _=>False)=_;rw[e,(Nat.beq_refl n)]
theorem j9:(ao lo n st).length=n:=by simp[ao]
structure Sub(n:Nat)(G:Nat→Spec):Prop where
 c:∀g,Nat.blt g n=true→∀args K X,FF g args K X→G g args K X
theorem A6(h:∀k,k b ρ'→tr G c ρ k X)(h1:b=true→k true ρ')(h2:b=false→k false ρ'):tr G c ρ k X:=by
 apply h k;cases b
 ·exact h2 rfl
 ·exact h1 rfl
theorem ai(h:∀k,k b ρ'→tr G c ρ k X)(h1:b=true→ex G A ρ' (λρ=>ex G r ρ x C t X) C t X)(h2:b=false→ex G B ρ' (λρ=>ex G r ρ x C t X) C t X):ex G (.cons (.iff c A B) r) ρ x C t X:=
 A6 h h1 h2
theorem ae(h:x ρ):ex G .nil ρ x C t X:=h
theorem ip(h:tr G c ρ (λt ρ=>match t with|true=>ex G A ρ (λρ=>ex G r ρ x C Y X) C Y X|false=>ex G B ρ (λρ=>ex G r ρ x C Y X) C Y X) X):ex G (.cons (.iff c A B) r) ρ x C Y X:=h
theorem aT(h:∀k,k b ρ'→tr G e ρ k X)(h1:b=true→tr G (.Q es) ρ' k X)(h2:b=false→k false ρ'):tr G (.Q (.cons e es)) ρ k X:=A6 (k:=λc ρ=>match c with|true=>yJ G es ρ k X|false=>k false ρ) h h1 h2
theorem bK(h:∀k,k b ρ'→tr G e ρ k X)(h1:b=true→k true ρ')(h2:b=false→k false ρ'):tr G (.Q (.cons e .nil)) ρ k X:=aT h h1 h2
theorem d8(h:∀k,k b ρ'→tr G e ρ k X)(h1:b=true→k true ρ')(h2:b=false→tr G (.cL es) ρ' k X):tr G (.cL (.cons e es)) ρ k X:=A6 (k:=λc ρ=>match c with|true=>k true ρ|false=>Fx G es ρ k X) h h1 h2
theorem gh(h:∀k,k b ρ'→tr G e ρ k X)(h1:b=true→k true ρ')(h2:b=false→k false ρ'):tr G (.cL (.cons e .nil)) ρ k X:=d8 h h1 h2
theorem yU(h:∀k,k (.j (.bool b)) ρ'→ev G e ρ k X)(h1:b=true→ev G (.Q (.cons j es)) ρ' k X)(h2:b=false→k (.j (.bool false)) ρ'):ev G (.Q (.cons e (.cons j es))) ρ k X:=by
 apply h _;cases b
 ·exact h2 rfl
 ·exact h1 rfl
theorem OH(h:∀k,k (.j (.bool b)) ρ'→ev G e ρ k X)(h1:b=true→k (.j (.bool true)) ρ')(h2:b=false→ev G (.cL (.cons j es)) ρ' k X):ev G (.cL (.cons e (.cons j es))) ρ k X:=by
 apply h _;cases b
 ·exact h2 rfl
 ·exact h1 rfl
theorem bx(h:∀k,k c ρ'→tr G t ρ k X)(h1:c=true→ev G a ρ' k X)(h2:c=false→ev G b ρ' k X):ev G (.ite t a b) ρ k X:=A6 h h1 h2
theorem bN(h:∀x,x ρ'→ex G s ρ x C t X)(h1:ex G r ρ' x C t X):ex G (.cons s r) ρ x C t X:=h _ h1
theorem vt{step:(R→Prop)→R→Prop}(Inv:R→Prop)(g:R→Nat)(H:∀ρ,Inv ρ→∀I,(∀ρ',Inv ρ'→g ρ'<g ρ→I ρ')→step I ρ)(h:Inv ρ):∃n,iter step n ρ:=by
 have K:∀n ρ,Inv ρ→g ρ<n→iter step n ρ:=by
  intro n;induction n with
  |zero=>intro ρ _ h;exact absurd h (not_lt_zero _)
  |succ n I=>intro ρ i m;exact H ρ i _ λρ' h1 h2=>I ρ' h1 (zl 575773193223674 rfl m h2)
 exact⟨_,K _ ρ h (lt_succ_self _)⟩
noncomputable abbrev vi(i:Int):Mine.Internal.S:=.j (.int i)
noncomputable abbrev nv(n d:Int):V:=.L [.int n,.int d]
theorem af{n:Nat}(h:Nat.ble n 100000=true):n≤aA:=Nat.le_trans (le_of_ble_eq_true h) (by decide)
theorem EJ(a b):PyData.eqv (.int a) (.int b)=decide (a=b):=rfl
theorem x7(a b):PyData.eqv (.str a) (.str b)=decide (a=b):=rfl
theorem se(h:PyData.eqv (.int a) (.int b)=true):a=b:=of_decide_eq_true h
theorem Aa(h:PyData.eqv (.int a) (.int b)=false):a≠b:=of_decide_eq_false h
noncomputable abbrev fq(a m:Nat)(c:T):Nat×Nat×Bool×T:=(a,m,false,c)
noncomputable abbrev xI(a m:Nat)(c:T):Nat×Nat×Bool×T:=(a,m,true,c)
noncomputable def OM:List (Nat×Nat×Bool×T):=[fq 2 2 Gh,fq 2 3 De,fq 1 1 o6,fq 1 1 yt,fq 1 1 ua,fq 1 1 mG,fq 1 1 GA,fq 2 2 FZ,fq 2 2 F4,fq 2 2 GN,fq 2 2 Gv,fq 1 2 oN,fq 2 4 gY,fq 1 4 oA,fq 2 4 rb,fq 1 4 kN,fq 1 1 iH,fq 3 4 uo,fq 2 4 jE,fq 1 2 iN,fq 2 6 fC,fq 2 4 k6,fq 2 7 oO,fq 2 11 jx,fq 2 3 uG,fq 2 6 iS,fq 2 2 jQ,xI 4 4 jL,fq 1 1 Bx,fq 1 1 qR,fq 1 1 uV,fq 1 1 mQ,fq 1 1 AE,fq 1 2 u3,fq 1 1 mj,fq 2 2 pD,fq 2 2 lu,fq 1 4 jK,fq 1 2 vf,fq 1 5 pH,fq 2 2 kq,fq 2 2 kh,fq 3 4 rm,fq 1 3 mh,fq 2 2 pg,xI 3 3 hK,xI 1 3 fT,xI 2 4 dr,xI 1 2 eM,xI 2 2 eU,xI 1 3 du,xI 1 2 hH,fq 3 6 jH,fq 2 2 uJ,fq 3 8 A3,fq 2 2 dX,fq 3 3 hZ,fq 1 1 gj,fq 5 10 f9,fq 5 7 iC,fq 5 8 km,fq 4 8 lA,fq 2 2 pE,fq 2 6 jI,fq 3 5 qe,fq 1 1 fE,fq 1 4 qn,fq 2 10 iI,fq 2 6 iD,fq 4 8 gZ,fq 4 5 mi,fq 1 2 ri,fq 2 6 jv,fq 4 9 kC,fq 2 7 fG,fq 1 3 jr,fq 1 1 iK,fq 3 3 jP,fq 1 1 ky,fq 3 19 yP,fq 3 6 fj,xI 1 1 oh,fq 1 5 ra,fq 2 4 jt,xI 2 3 lB,fq 2 4 my,fq 1 1 mD,fq 1 4 kD,fq 2 12 kJ,fq 2 5 kH,fq 4 6 oQ,fq 1 1 mu,fq 3 7 kK,fq 1 23 yn]
theorem Iv:Gj.map (λt=>(t.ar,t.sl.length,t.fx,t.code))=OM:=by kernel_rfl
noncomputable def Oi:List Mine.Internal.S→Bool
|.bl _::_=>false
|.bi _ _::_=>false
|_=>true
theorem HU(h:Oi l=true):vY l:=by
 cases l with
 |nil=>trivial
 |cons a l=>cases a<;>first|trivial|cases h
theorem fw(n:Nat)(h:OM[n]? =some (a,m,x,c))(h2:(Nat.beq args.length a&&(x||Oi args))=true)(H:∀G,Sub n G→wb G m c args K X):FF n args K X:=by
 rw[←Iv,getElem?_map]at h;obtain⟨t,e,h⟩:=Option.map_eq_some_iff.mp h;cases h;have e:ft n=t:=by unfold ft;rw[e];rfl
 obtain⟨h3,h4⟩:=(Bool.and_eq_true ..).mp h2;rw[yv,e];refine⟨eq_of_beq_eq_true h3,λq=> ?_,H _ ⟨λg Z args K X c=>(CC (Nat.le_of_ble_eq_true Z))▸c⟩⟩;rw[q]at h4;exact HU h4
noncomputable def QP:Mine.Internal.S→Bool
|.bl _=>false
|.bi _ _=>false
|_=>true
theorem EB{l:List Mine.Internal.S}(h:l.all QP=true)(ρ):bf l ρ=[]:=by
 induction l generalizing ρ with
 |nil=>rfl
 |cons a l I=>
  cases ρ with
  |nil=>cases a<;>rfl
  |cons s ρ=>cases a<;>first|exact I h ρ|cases h
theorem de(n:Nat)(h:OM[n]? =some (a,m,x,c))(h2:(Nat.beq args.length a&&(x||Oi args))=true)(h3:args.all QP=true)(H:∀G,Sub n G→ex G c (args++replicate (m-args.length) .y) (λ_=>K (.j .none) []) (λ_=>False) (λr _=>K r []) X):FF n args K X:=
 fw n h h2 λG g=>by
  show ex G c _ (λρ=>K (.j .none) (bf args ρ)) _ (λr ρ=>K r (bf args ρ)) X;rw[show bf args=λ_=>[]from funext (EB h3)];exact H G g
theorem JQ(H:0≤a)(hb:0≤b)(h:K (.j (.int (Int.gcd a b:Int))) []):FF 0 [vi a,vi b] K X:=by
 refine de 0 rfl rfl rfl λG O=> ?_;refine vt (λρ=>∃x y,ρ=[vi x,vi y]∧0≤x∧0≤y∧Int.gcd x y=Int.gcd a b) (λρ=>match ρ with|[_,.j (.int y)]=>y.toNat|_=>0) ?_ ⟨a,b,rfl,H,hb,rfl⟩;rintro ρ ⟨x,y,rfl,Q,Y,e⟩ I i;refine A6 (λ_ h=>h) (λq=> ?_) λq=> ?_
 ·have S:=of_decide_eq_true q
  have E:Int.gcd y (x.fmod y)=Int.gcd x y:=by
   rw[Int.fmod_eq_emod_of_nonneg _ Y];obtain⟨m,rfl⟩:=Int.eq_ofNat_of_zero_le Q;obtain⟨k,rfl⟩:=Int.eq_ofNat_of_zero_le Y;show Nat.gcd k (m%k)=Nat.gcd m k;rw[gcd_comm k,←gcd_rec,gcd_comm]
  exact⟨zl 31155043112 rfl S,i _ ⟨y,x.fmod y,rfl,zl 179569693 rfl Y,Int.fmod_nonneg_of_pos _ S,E.trans e⟩ (by
   have:=Int.fmod_lt_of_pos x S;have:=Int.fmod_nonneg_of_pos x S;exact zl 0x515d9263774e1 rfl ‹_› this)⟩
 ·have S:y=0:=by have:=of_decide_eq_false q;exact zl 807472675673373 rfl Y this
  subst S;have g:x=(Int.gcd a b):=by rw[←e,Int.gcd_zero_right];exact zl 45465149725 rfl Q
  rw[←g]at h;exact h
noncomputable def rT(n d:Int):Int:=n/(Int.gcd n d)
noncomputable def mC(n d:Int):Int:=d/(Int.gcd n d)
noncomputable abbrev Lk(n d:Int):V:=nv (rT n d) (mC n d)
theorem kQ(hd:0<d):0<(Int.gcd n d:Int):=by
 have:Int.gcd n d≠0:=λq=>by rw[Int.gcd_eq_zero_iff]at q;exact zl 31155043112 rfl hd q.2
 exact zl 347609486989 rfl this
theorem rp(hd:0<d):(Int.gcd n d)≤d:=Int.le_of_dvd hd (Int.gcd_dvd_right ..)
theorem vU{n d:Int}(hd:0<d)(H:d<lH)(h:K (.j (Lk n d)) []):FF 1 [vi n,vi d] K X:=by
 refine de 1 rfl rfl rfl λG g=> ?_;refine ai (λ_ h=>h) (λq=>absurd (se q) (zl 31155043112 rfl hd)) λ_=> ?_;refine ai (λ_ h=>h) (λq=>absurd (of_decide_eq_true q) (zl 31154702376 rfl hd)) λ_=> ?_;refine g.c 0 rfl _ _ _ (JQ (zm 5871173 rfl _) (by rename_i Z;exact zl 21731279785 rfl (dF Z:)) ?_);have e:Int.gcd n.natAbs d=Int.gcd n d:=by rw[Int.gcd,Int.gcd,Int.natAbs_natCast]
 have g0:=kQ (n:=n) hd;have g1:=rp (n:=n) hd;rw[e];refine⟨zl 21094791827720 rfl g0,zl 0x8cb93fb871e7489 rfl H g1,zl 21094791827720 rfl g0,zl 0x8cb93fb871e7489 rfl H g1,af rfl,?_⟩;rw[Int.fdiv_eq_ediv_of_nonneg _ (by exact zm 92741 rfl _),Int.fdiv_eq_ediv_of_nonneg _ (by exact zm 92741 rfl _)];exact h
theorem wt(h:K (.j (nv n 1)) []):FF 2 [vi n] K X:=by
 refine fw 2 rfl rfl λG H=> ?_;exact⟨af rfl,h⟩
theorem fy(h:K (.j (.bool (decide (n=0∧d=0)))) []):FF 3 [.j (nv n d)] K X:=by
 refine fw 3 rfl rfl λG H=> ?_;refine yU (λ_ h=>h) (λq=> ?_) λq=> ?_
 ·have e:=se q
  subst e;simp only[true_and]at h;exact h
 ·have e:=Aa q
  simp only[e]at h;exact h
theorem Ar(h:K (.j (.bool (decide (n=0∧d=0)))) []):FF 4 [.j (nv n d)] K X:=by
 refine de 4 rfl rfl rfl λG H=> ?_;refine yU (b:=true) (λ_ h=>h) (λ_=> ?_) (λq=>by cases q);refine yU (λ_ h=>h) (λq=> ?_) λq=> ?_
 ·have e:=se q
  subst e;simp only[true_and]at h;exact h
 ·have e:=Aa q
  simp only[e]at h;exact h
theorem uY(h:K (.j (.bool (decide (0<d)))) []):FF 5 [.j (nv n d)] K X:=by
 refine fw 5 rfl rfl λG H=> ?_;exact h
theorem GL(h:K (.j (nv (0-n) d)) []):FF 6 [.j (nv n d)] K X:=by
 refine fw 6 rfl rfl λG H=> ?_;exact⟨af rfl,h⟩
noncomputable def qT:Nat:=2^40
noncomputable def Jz:Nat:=2^64
theorem sd{a b:Int}(h1:a.natAbs<p)(h2:b.natAbs<q)(h:p*q≤r):(a*b).natAbs<r:=by
 rw[Int.natAbs_mul];exact Nat.lt_of_lt_of_le (Nat.mul_lt_mul'' h1 h2) h
theorem Gk(hd:0<d)(H:0<c)(h1:n.natAbs<qT)(h2:d.natAbs<qT)(h3:m.natAbs<qT)(h4:c.natAbs<qT)(h:K (.j (Lk (n*c+m*d) (d*c))) []):FF 7 [.j (nv n d),.j (nv m c)] K X:=by
 refine de 7 rfl rfl rfl λG g=> ?_;have l:qT≤lH:=by decide
 have na:∀{a b:Int},0<b→decide (a=0∧b=0)=false:=λhb=>decide_eq_false λq=>zl 31155043112 rfl hb q.2;refine g.c 3 rfl _ _ _ (fy ?_);rw[na hd];refine g.c 3 rfl _ _ _ (fy ?_);rw[na H];refine ip (aT (λ_ h=>h) (λq=>absurd (se q) (zl 31155043112 rfl hd)) λ_=> ?_);refine ai (λ_ h=>h) (λq=>absurd (se q) (Int.ne_of_gt hd)) λ_=> ?_;refine ai (λ_ h=>h) (λq=>absurd (se q) (zl 31155043112 rfl H)) λ_=> ?_;refine⟨Nat.lt_of_lt_of_le h1 l,Nat.lt_of_lt_of_le h4 l,Nat.lt_of_lt_of_le h3 l,Nat.lt_of_lt_of_le h2 l,Nat.lt_of_lt_of_le h2 l,Nat.lt_of_lt_of_le h4 l,?_⟩;refine g.c 1 rfl _ _ _ (vU (Int.mul_pos hd H) ?_ h);have:=sd (r:=2^199) h2 h4 (by decide);exact zl 0x39d7a6c27f884c773 rfl this
theorem Kz(hd:0<d)(H:0<c)(h1:n.natAbs<qT)(h2:d.natAbs<qT)(h3:m.natAbs<qT)(h4:c.natAbs<qT)(h:K (.j (Lk (n*c+(0-m)*d) (d*c))) []):FF 8 [.j (nv n d),.j (nv m c)] K X:=by
 refine de 8 rfl rfl rfl λG g=> ?_;refine g.c 6 rfl _ _ _ (GL ?_);exact g.c 7 rfl _ _ _ (Gk hd H h1 h2 (zl 30054314634867 rfl h3) h4 h)
theorem Mh(hd:0<d)(H:0<c)(h1:n.natAbs<qT)(h2:d.natAbs<qT)(h3:m.natAbs<qT)(h4:c.natAbs<qT)(h:K (.j (Lk (n*m) (d*c))) []):FF 9 [.j (nv n d),.j (nv m c)] K X:=by
 refine de 9 rfl rfl rfl λG g=> ?_;have l:qT≤lH:=by decide
 have na:∀{a b:Int},0<b→decide (a=0∧b=0)=false:=λhb=>decide_eq_false λq=>zl 31155043112 rfl hb q.2;refine g.c 3 rfl _ _ _ (fy ?_);rw[na hd];refine g.c 3 rfl _ _ _ (fy ?_);rw[na H];refine⟨Nat.lt_of_lt_of_le h1 l,Nat.lt_of_lt_of_le h3 l,Nat.lt_of_lt_of_le h2 l,Nat.lt_of_lt_of_le h4 l,?_⟩;refine g.c 1 rfl _ _ _ (vU (Int.mul_pos hd H) ?_ h);have:=sd (r:=2^199) h2 h4 (by decide);exact zl 0x39d7a6c27f884c773 rfl this
theorem KO(hd:0<d)(H:0<c)(M:0<m)(h1:n.natAbs<qT)(h2:d.natAbs<qT)(h3:m.natAbs<qT)(h4:c.natAbs<qT)(h:K (.j (Lk (n*c) (d*m))) []):FF 10 [.j (nv n d),.j (nv m c)] K X:=by
 refine de 10 rfl rfl rfl λG g=> ?_;have l:qT≤lH:=by decide
 have na:∀{a b:Int},0<b→decide (a=0∧b=0)=false:=λhb=>decide_eq_false λq=>zl 31155043112 rfl hb q.2;refine g.c 3 rfl _ _ _ (fy ?_);rw[na hd];refine g.c 3 rfl _ _ _ (fy ?_);rw[na H];refine ip (aT (λ_ h=>h) (λq=>absurd (se q) (zl 31155043112 rfl hd)) λ_=> ?_);refine ai (λ_ h=>h) (λq=>absurd (se q) (Int.ne_of_gt hd)) λ_=> ?_;refine⟨Nat.lt_of_lt_of_le h1 l,Nat.lt_of_lt_of_le h4 l,Nat.lt_of_lt_of_le h2 l,Nat.lt_of_lt_of_le h3 l,?_⟩;refine g.c 1 rfl _ _ _ (vU (Int.mul_pos hd M) ?_ h);have:=sd (r:=2^199) h2 h3 (by decide);exact zl 0x39d7a6c27f884c773 rfl this
theorem xi(h:K (.j (.int n)) []):FF 11 [.j (nv n 1)] K X:=by
 refine de 11 rfl rfl rfl λG H=> ?_;refine H.c 5 rfl _ _ _ (uY ?_);refine⟨by decide,by decide,?_⟩;refine bx (λ_ h=>h) (λq=> ?_) λq=> ?_
 ·have e:((n.natAbs:Int)).fdiv 1=n:=by rw[Int.fdiv_one];have:=of_decide_eq_true q;exact zl 44761529885 rfl (dT q:)
  rw[e];exact h
 ·have e:0-((n.natAbs:Int)).fdiv 1=n:=by rw[Int.fdiv_one];have:=of_decide_eq_false q;exact zl 5546144621698885 rfl (dF q:)
  show K (.j (.int _)) _;rw[e];exact h
noncomputable def sg(x y:Int):Int:=if x=y then 0 else if x<y then-1 else 1
noncomputable def ag(a b c d:Int):Int:=if b=0∧d=0 then sg a c else sg (a*d) (c*b)
structure Num(a b:Int):Prop where
 ext:(0<b∧Int.gcd a b=1)∨(b=0∧(a=1∨a= -1))
 h1:a.natAbs<Jz
 h2:b.natAbs<Jz
theorem a4(x y):(x=y∧sg x y=0)∨(x<y∧sg x y= -1)∨(y<x∧sg x y=1):=by
 unfold sg;split
 ·exact .inl ⟨‹_›,rfl⟩
 ·split
  ·exact .inr (.inl ⟨‹_›,rfl⟩)
  ·exact .inr (.inr ⟨zl 4965987368643626 rfl ‹_› ‹_›,rfl⟩)
theorem Num.na(h:Num a b):decide (a=0∧b=0)=false:=decide_eq_false λq=>by
 rcases h.ext with⟨h,_⟩|⟨h,h'⟩<;>(first|exact zl 30761165012 rfl q.2 h|exact zl 0x6df3cf3d9360d4 rfl q.1 h')
theorem Num.nn(h:Num a b):0≤b:=by rcases h.ext with⟨h,_⟩|⟨h,h'⟩<;>(first|exact zl 179569704 rfl h|exact zl 179582420 rfl h)
theorem yG(g:Int.gcd a b=1)(h:b∣a*d):b∣d:=by
 have h':b.natAbs∣a.natAbs*d.natAbs:=by rw[←Int.natAbs_mul];exact Int.natAbs_dvd_natAbs.mpr h
 have G:Coprime b.natAbs a.natAbs:=by show gcd _ _=1;rw[gcd_comm];exact g
 exact Int.natAbs_dvd_natAbs.mp (G.dvd_of_dvd_mul_left h')
theorem yW(hb:0<b)(hd:0<d)(g1:Int.gcd a b=1)(g2:Int.gcd c d=1)(e:a*d=c*b):a=c∧b=d:=by
 have E:b=d:=by
  have:=Int.le_of_dvd hd (yG g1 ⟨c,by rw[e,Int.mul_comm]⟩);have:=Int.le_of_dvd hb (yG g2 ⟨a,by rw[←e,Int.mul_comm]⟩);exact zl 348424926614 rfl ‹_› this
 subst E;exact⟨Int.eq_of_mul_eq_mul_right (zl 31155043112 rfl hb) e,rfl⟩
theorem iE(x:Num a b)(y:Num c d):ag a b c d=0↔a=c∧b=d:=by
 unfold ag;split
 ·rename_i q
  have h:=a4 a c;exact zl 0xbda45842ad184644b4f8bf38264405242789026e865ced4 rfl q.2 q.1 h
 ·rename_i q
  constructor
  ·intro z
   have e:a*d=c*b:=by
    rcases a4 (a*d) (c*b)with⟨h,e⟩|⟨h,e⟩|⟨h,e⟩<;>(first|exact zl 44994604 rfl h|exact zl 573574819888340 rfl z e|exact zl 17924205542612 rfl z e)
   rcases x.ext with⟨hb,g1⟩|⟨hb,g1⟩<;>rcases y.ext with⟨hd,g2⟩|⟨hd,g2⟩
   ·exact yW hb hd g1 g2 e
   ·subst hd;rw[Int.mul_zero]at e
    have:=Int.mul_eq_zero.mp e.symm;exact zl 0x1737304094cde33ea8b4e609329143f268 rfl g2 q this
   ·subst hb;rw[Int.mul_zero]at e
    have:=Int.mul_eq_zero.mp e;exact zl 0x1711853f088c174c4bb3d4e5ea3be3f268 rfl g1 q this
   ·exact zl 0x4ebe8b2107c34d5547f5e1cf5 rfl q hb hd
  ·rintro⟨rfl,rfl⟩
   rcases a4 (a*b) (a*b)with⟨h,e⟩|⟨h,e⟩|⟨h,e⟩<;>(first|exact zl 215421652 rfl e|exact zl 184864785 rfl h)
theorem cT(x:Num a b)(y:Num c d)(h:K (.j (.int (ag a b c d))) []):FF 14 [.j (nv a b),.j (nv c d)] K X:=by
 refine fw 14 rfl rfl λG H=> ?_;have l:Jz≤lH:=by decide
 refine H.c 3 rfl _ _ _ (fy ?_);rw[x.na];refine H.c 3 rfl _ _ _ (fy ?_);rw[y.na];have S:∀{l r:Int},PyData.eqv (.int l) (.int r)=true→sg l r=0:=λq=>by have:=se q;subst this;simp[sg]
 have L:∀{l r:Int},PyData.eqv (.int l) (.int r)=false→decide (l<r)=true→sg l r= -1:=λq p=>by have:=Aa q;have:=of_decide_eq_true p;unfold sg;rw[if_neg ‹_›,if_pos ‹_›]
 have s:∀{l r:Int},PyData.eqv (.int l) (.int r)=false→decide (l<r)=false→sg l r=1:=λq p=>by have:=Aa q;have:=of_decide_eq_false p;unfold sg;rw[if_neg ‹_›,if_neg ‹_›]
 have N:∀{B D},b=B→d=D→¬(b=0∧d=0)→ag a b c d=(if b=0 then sg a 0 else if d=0 then sg 0 c else sg (a*d) (c*b)):=by
  intro B D _ _ n;unfold ag;rw[if_neg n];split
  ·rename_i e;subst e
   have hd:0<d:=by have:=y.nn;exact zl 0x4858233e6b096cbbc rfl n this
   rw[Int.mul_zero];have:∀a:Int,(a*d=0↔a=0)∧(a*d<0↔a<0):=λa=>⟨⟨λz=>by rcases Int.mul_eq_zero.mp z with z|z<;>(first|exact zl 215421652 rfl z|exact zl 22905934854952 rfl hd z),λz=>by rw[z,Int.zero_mul]⟩,⟨λz=>by
    refine Int.not_le.mp λw=> ?_;have:=Int.mul_nonneg w (Int.le_of_lt hd);exact zl 30760824265 rfl z this,λz=>Int.mul_neg_of_neg_of_pos z hd⟩⟩
   unfold sg;simp only[(this a).1,(this a).2]
  ·split
   ·rename_i E e;subst e
    have hb:0<b:=by have:=x.nn;exact zl 673160552643618 rfl E this
    rw[Int.mul_zero];have:∀a:Int,(0=a*b↔0=a)∧(0<a*b↔0<a):=λa=>⟨⟨λz=>by rcases Int.mul_eq_zero.mp z.symm with z|z<;>(first|exact zl 179644372 rfl z|exact zl 22452085406504 rfl hb z),λz=>by rw[←z,Int.zero_mul]⟩,⟨λz=>by
     refine Int.not_le.mp λw=> ?_;have:=Int.mul_nonpos_of_nonpos_of_nonneg w (Int.le_of_lt hb);exact zl 31154361640 rfl z this,λz=>Int.mul_pos z hb⟩⟩
    unfold sg;simp only[(this c).1,(this c).2]
   ·rfl
 have T:¬(b=0∧d=0)→ex G (.cons (.C 2 (.w .mul (.sub (.d 0) (.p 0)) (.sub (.d 1) (.p 1)))) (.cons (.C 3 (.w .mul (.sub (.d 1) (.p 0)) (.sub (.d 0) (.p 1)))) (.cons (.iff (.D (.ag .eq (.sub (.d 0) (.p 1)) (.p 0))) (.cons (.C 2 (.sub (.d 0) (.p 0))) (.cons (.C 3 (.p 0)) .nil)) (.cons (.iff (.D (.ag .eq (.sub (.d 1) (.p 1)) (.p 0))) (.cons (.C 2 (.p 0)) (.cons (.C 3 (.sub (.d 1) (.p 0))) .nil)) .nil) .nil)) .nil)))
  [.j (nv a b),.j (nv c d),.y,.y] (λρ=>ex G (.cons (.iff (.D (.ag .eq (.d 2) (.d 3))) (.cons (.ret (.p 0)) .nil) .nil) (.cons (.ret (.ite (.D (.ag .lt (.d 2) (.d 3))) (.neg (.p 1)) (.p 1))) .nil)) ρ (λρ=>K (Rv.j V.none) (bf [.j (nv a b),.j (nv c d)] ρ)) (λ_=>False) (λr ρ=>K r (bf [.j (nv a b),.j (nv c d)] ρ)) X) (λ_=>False) (λr ρ=>K r (bf [.j (nv a b),.j (nv c d)] ρ)) X:=by
  intro n;rw[N rfl rfl n]at h;refine⟨Nat.lt_of_lt_of_le x.h1 l,Nat.lt_of_lt_of_le y.h2 l,Nat.lt_of_lt_of_le y.h1 l,Nat.lt_of_lt_of_le x.h2 l,?_⟩;refine ai (λ_ h=>h) (λQ=> ?_) λQ=> ?_
  ·rw[if_pos (se Q)]at h
   refine bN (λ_ h=>h) (bN (λ_ h=>h) (ae (ae (ai (λ_ h=>h) (λq=> ?_) λq=> ?_))))
   ·rw[S q]at h;exact h
   ·refine bx (λ_ h=>h) (λp=> ?_) λp=> ?_
    ·rw[L q p]at h;exact h
    ·rw[s q p]at h;exact h
  ·rw[if_neg (Aa Q)]at h
   refine ai (λ_ h=>h) (λR=> ?_) λR=> ?_
   ·rw[if_pos (se R)]at h
    refine bN (λ_ h=>h) (bN (λ_ h=>h) (ae (ae (ae (ai (λ_ h=>h) (λq=> ?_) λq=> ?_)))))
    ·rw[S q]at h;exact h
    ·refine bx (λ_ h=>h) (λp=> ?_) λp=> ?_
     ·rw[L q p]at h;exact h
     ·rw[s q p]at h;exact h
   ·rw[if_neg (Aa R)]at h
    refine ae (ae (ae (ai (λ_ h=>h) (λq=> ?_) λq=> ?_)))
    ·rw[S q]at h;exact h
    ·refine bx (λ_ h=>h) (λp=> ?_) λp=> ?_
     ·rw[L q p]at h;exact h
     ·rw[s q p]at h;exact h
 refine ip (aT (λ_ h=>h) (λQ=> ?_) λQ=> ?_)
 ·have g:=se Q
  refine bK (λ_ h=>h) (λR=> ?_) λR=> ?_
  ·have j:=se R
   have C:ag a b c d=sg a c:=by unfold ag;rw[if_pos ⟨g,j⟩]
   rw[C]at h;refine bN (λ_ h=>h) (bN (λ_ h=>h) (ae (ai (λ_ h=>h) (λq=> ?_) λq=> ?_)))
   ·rw[S q]at h;exact h
   ·refine bx (λ_ h=>h) (λp=> ?_) λp=> ?_
    ·rw[L q p]at h;exact h
    ·rw[s q p]at h;exact h
  ·exact T λz=>Aa R z.2
 ·exact T λz=>Aa Q z.1
theorem n8(a b c d):PyData.eqv (.tuple [.int a,.int b]) (.tuple [.int c,.int d])=decide (a=c∧b=d):=by
 show(decide (a=c)&&(decide (b=d)&&true))=_
 by_cases h1:a=c<;>by_cases h2:b=d<;>simp[h2]
theorem Nz(h:PyData.eqv (.tuple [.int a,.int b]) (.tuple [.int c,.int d])=true):a=c∧b=d:=by rw[n8]at h;exact of_decide_eq_true h
theorem P4(h:PyData.eqv (.tuple [.int a,.int b]) (.tuple [.int c,.int d])=false):¬(a=c∧b=d):=by rw[n8]at h;exact of_decide_eq_false h
theorem mc(h:K (.j (.bool (decide (a=0∧b=0)))) []):FF 86 [.j (nv a b)] K X:=by
 refine fw 86 rfl rfl λG H=> ?_;rw[←n8]at h;exact⟨af rfl,h⟩
theorem o7(h:K (.j (.bool true)) []):FF 86 [.j .none] K X:=by
 refine fw 86 rfl rfl λG H=> ?_;exact h
theorem sE(h:K (.j (.bool (decide (a=0∧b=0)))) []):FF 65 [.j (nv a b)] K X:=by
 refine fw 65 rfl rfl λG H=> ?_;exact H.c 4 rfl _ _ _ (Ar h)
theorem w9(h:K (.j (.bool true)) []):FF 65 [.j .none] K X:=by
 refine fw 65 rfl rfl λG H=> ?_;exact h
theorem iP(x:Num a b)(y:Num c d)(h:K (.j (.int (ag a b c d))) []):FF 85 [.j (nv a b),.j (nv c d)] K X:=by
 refine fw 85 rfl rfl λG O=> ?_;have l:Jz≤lH:=by decide
 refine ai (λ_ h=>h) (λq=> ?_) λq=> ?_
 ·rw[(iE x y).mpr (Nz q)]at h;exact h
 have N:=mt (iE x y).mp (P4 q);have g:b=0∨d=0→∀l r,l=(if 0<b then 0 else a)→r=(if 0<d then 0 else c)→(l<r→ag a b c d= -1)∧(¬l<r→ag a b c d=1):=by
  intro z l r E R;have Y:(l<r→ag a b c d<0)∧(¬l<r→0≤ag a b c d):=by
   unfold ag;rcases x.ext with⟨hb,_⟩|⟨hb,H⟩<;>rcases y.ext with⟨hd,_⟩|⟨hd,C⟩
   ·exact zl 0x6a5b8e78c48d71b3ed39064bf7509f63138 rfl z hb hd
   ·subst hd
    rw[if_pos hb]at E;rw[if_neg (by exact zm 1298952 rfl)]at R;rw[if_neg (by exact zl 0xdb85f58fb4c28 rfl hb),Int.mul_zero];have:=Int.mul_pos hb hb;rcases C with rfl|rfl
    ·rcases a4 0 (1*b)with h|h|h<;>(first|exact zl 0x9dece9f9218894bb97fc7829c228 rfl hb h.1|exact zl 0x3144c8a7f74b9be012e07c569ded4 rfl E R h.2|exact zl 0x9dece9f9218894bb9858d68e2528 rfl hb h.1)
    ·rcases a4 0 (-1*b)with h|h|h<;>(first|exact zl 0x13bd9d3f2431129772ff925289c228 rfl hb h.1|exact zl 0x13bd9d3f2431129772ff9252848f28 rfl hb h.1|exact zl 0x3144c8a7f74b9be01344b15d69ed4 rfl E R h.2)
   ·subst hb
    rw[if_pos hd]at R;rw[if_neg (by exact zm 1298952 rfl)]at E;rw[if_neg (by exact zl 0xdb6dc36c0d928 rfl hd),Int.mul_zero];rcases H with rfl|rfl
    ·rcases a4 (1*d) 0 with h|h|h<;>(first|exact zl 0x9dece9f9218894bb9858d6935828 rfl hd h.1|exact zl 0x9dece9f9218894bb9858d68e2528 rfl hd h.1|exact zl 0x18a263e616d6cb9b9b29fea9ded4 rfl R E h.2)
    ·rcases a4 (-1*d) 0 with h|h|h<;>(first|exact zl 0x13bd9d3f24311297730b1aee865828 rfl hd h.1|exact zl 0x62898f985b5b2e6e6bdf90add69ed4 rfl R E h.2|exact zl 0x13bd9d3f2431129772ff9252848f28 rfl hd h.1)
   ·subst hb;subst hd
    rw[if_neg (by exact zm 1298952 rfl)]at E R;rw[if_pos ⟨rfl,rfl⟩];rcases a4 a c with h|h|h<;>(first|exact zl 0xd4b71cf30b7b5a0af2d6bc76dcce3d03ac rfl E R h.2 h.1|exact zl 0x1a96e39e616f6b415e5ad6fae6ce5b7d03ac rfl E R h.2 h.1|exact zl 0xd4b71cf30b7b5a0af2c5f2d8487c7d03ac rfl E R h.2 h.1)
  have T:ag a b c d= -1∨ag a b c d=0∨ag a b c d=1:=by
   unfold ag;split
   ·rcases a4 a c with h|h|h<;>(first|exact zl 0x5e1dbf11fb252ed4 rfl h.2|exact zl 0xbc3b7e23f64a6eb24 rfl h.2|exact zl 0x5e1dbf11fb253664 rfl h.2)
   ·rcases a4 (a*d) (c*b)with h|h|h<;>(first|exact zl 0x5e1dbf11fb252ed4 rfl h.2|exact zl 0xbc3b7e23f64a6eb24 rfl h.2|exact zl 0x5e1dbf11fb253664 rfl h.2)
  exact⟨λz=>by have:=Y.1 z;exact zl 0xd054e07d186ac4dc611f613b8fb1 rfl Y.1 T z,λz=>by have:=Y.2 z;exact zl 0x5327d6a333b840bd9a2988312322da9a1222 rfl N Y.2 T z⟩
 have f:b=0∨d=0→ex G (.cons (.C 2 (.ite (.D (.ag .gt (.sub (.d 0) (.p 1)) (.p 0))) (.p 0) (.sub (.d 0) (.p 0)))) (.cons (.C 3 (.ite (.D (.ag .gt (.sub (.d 1) (.p 1)) (.p 0))) (.p 0) (.sub (.d 1) (.p 0)))) (.cons (.ret (.ite (.D (.ag .lt (.d 2) (.d 3))) (.neg (.p 1)) (.p 1))) .nil)))
  [.j (nv a b),.j (nv c d),.y,.y] (λρ=>ex G (.cons (.ret (.ite (.D (.ag .lt (.w .mul (.sub (.d 0) (.p 0)) (.sub (.d 1) (.p 1))) (.w .mul (.sub (.d 1) (.p 0)) (.sub (.d 0) (.p 1))))) (.neg (.p 1)) (.p 1))) .nil) ρ (λρ=>K (Rv.j V.none) (bf [.j (nv a b),.j (nv c d)] ρ)) (λ_=>False) (λr ρ=>K r (bf [.j (nv a b),.j (nv c d)] ρ)) X) (λ_=>False) (λr ρ=>K r (bf [.j (nv a b),.j (nv c d)] ρ)) X:=by
  intro z;have F:∀l r,l=(if 0<b then 0 else a)→r=(if 0<d then 0 else c)→ev G (.ite (.D (.ag .lt (.d 2) (.d 3))) (.neg (.p 1)) (.p 1)) [.j (nv a b),.j (nv c d),vi l,vi r] (λr ρ=>K r (bf [.j (nv a b),.j (nv c d)] ρ)) X:=by
   intro l r E R;have t:=g z l r E R;refine bx (λ_ h=>h) (λp=> ?_) λp=> ?_
   ·rw[t.1 (of_decide_eq_true p)]at h;exact h
   ·rw[t.2 (of_decide_eq_false p)]at h;exact h
  refine bx (λ_ h=>h) (λp1=> ?_) λp1=> ?_
  ·refine bx (λ_ h=>h) (λp2=> ?_) λp2=> ?_
   ·exact F 0 0 (by rw[if_pos (of_decide_eq_true p1)]) (by rw[if_pos (of_decide_eq_true p2)])
   ·exact F 0 c (by rw[if_pos (of_decide_eq_true p1)]) (by rw[if_neg (of_decide_eq_false p2)])
  ·refine bx (λ_ h=>h) (λp2=> ?_) λp2=> ?_
   ·exact F a 0 (by rw[if_neg (of_decide_eq_false p1)]) (by rw[if_pos (of_decide_eq_true p2)])
   ·exact F a c (by rw[if_neg (of_decide_eq_false p1)]) (by rw[if_neg (of_decide_eq_false p2)])
 refine ip (d8 (λ_ h=>h) (λQ=>f (.inl (se Q))) λQ=>gh (λ_ h=>h) (λB=>f (.inr (se B))) λB=> ?_);have U:ag a b c d=sg (a*d) (c*b):=by unfold ag;rw[if_neg (by exact zl 0x4ea399e0ca50c22 rfl (Aa Q))]
 rw[U]at h N;refine bx (λ_ h=>⟨Nat.lt_of_lt_of_le x.h1 l,Nat.lt_of_lt_of_le y.h2 l,Nat.lt_of_lt_of_le y.h1 l,Nat.lt_of_lt_of_le x.h2 l,h⟩) (λp=> ?_) λp=> ?_
 ·have p:=of_decide_eq_true p
  rcases a4 (a*d) (c*b)with z|z|z
  ·exact(zl 3769763562274 rfl N z.2).elim
  ·rw[z.2]at h;exact h
  ·rename_i Z;exact(zl 5879022177 rfl (dT Z:) z.1).elim
 ·have p:=of_decide_eq_false p
  rcases a4 (a*d) (c*b)with z|z|z
  ·exact absurd z.2 N
  ·rename_i Z;exact(zl 712949639089 rfl (dF Z:) z.1).elim
  ·rw[z.2]at h;exact h
theorem xp:∀{items:List V}(Inv:Nat→R→Prop)(step:∀j v ρ,items[j]? =some v→Inv j ρ→∀t:R→Prop,(∀ρ',Inv (j+1) ρ'→t ρ')→f v t ρ)(a9:∀ρ,Inv items.length ρ→x ρ){ρ},Inv 0 ρ→items.foldr f x ρ
|[],Inv,step,a9,ρ,h=>a9 ρ h
|v::l,Inv,step,a9,ρ,h=>step 0 v ρ rfl h _ λρ' h'=>xp (λj=>Inv (j+1)) (λj v ρ e=>step (j+1) v ρ (by rw[List.getElem?_cons_succ];exact e)) a9 h'
noncomputable def bp(ρ:R)(j:Nat):Prop:=∃s,ρ[j]? =some s∧(∀l,s≠.bl l)∧∀c l,s≠.bi c l
theorem aU(h:bp ρ j)(H:k (ρ.set j s)):bH ρ j s k:=by
 obtain⟨S,e,h1,h2⟩:=h;unfold bH;rw[e];cases S<;>first|exact H|exact absurd rfl (h1 _)|exact absurd rfl (h2 _ _)
theorem Aj(h:bp ρ j):bp (ρ.set j (.j v)) j:=by
 obtain⟨S,e,_⟩:=h;exact⟨.j v,by simp[((List.getElem?_eq_some_iff.mp e).1)],λ_ q=>(by cases q),λ_ _ q=>by cases q⟩
theorem aa(h:ρ[j]? =some .y):bp ρ j:=⟨_,h,λ_ q=>(by cases q),λ_ _ q=>by cases q⟩
theorem Au{Y J:Type}{step:Y→(J→Prop)→J→Prop}{a9:J→Prop}(I:List Y→J→Prop)(H:∀s,I [] s→a9 s){xs:List Y}:(∀a∈xs,∀l s,I (a::l) s→∀m,(∀t,I l t→m t)→step a m s)→∀s,I xs s→xs.foldr step a9 s:=by
 induction xs with
 |nil=>exactλ_ s h=>H s h
 |cons a l i=>exactλS s h=>S a (.head _) l s h _ λt h'=>i (λb hb=>S b (.tail _ hb)) t h'
theorem lV{Y J:Type}{step:Y→(J→R→Prop)→J→R→Prop}{a9:J→R→Prop}(I:List Y→J→R→Prop)(H:∀s ρ,I [] s ρ→a9 s ρ){xs:List Y}:(∀a∈xs,∀l s ρ,I (a::l) s ρ→∀m,(∀t ρ',I l t ρ'→m t ρ')→step a m s ρ)→∀s ρ,I xs s ρ→xs.foldr step a9 s ρ:=by
 induction xs with
 |nil=>exactλ_ s ρ h=>H s ρ h
 |cons a l i=>exactλS s ρ h=>S a (.head _) l s ρ h _ λt ρ' h'=>i (λb hb=>S b (.tail _ hb)) t ρ' h'
noncomputable abbrev AL(ρ:R)(j:Nat)(ρ1:R):Prop:=ρ1=ρ∨∃v,ρ1=ρ.set j (.j v)
theorem k7(H:bp ρ j)(h1:AL ρ j ρ1)(h:k (ρ.set j x)):bH ρ1 j x k:=by
 rcases h1 with rfl|⟨v,rfl⟩
 ·exact aU H h
 ·exact aU (Aj H) (by rw[List.set_set];exact h)
theorem yK{cond J:E}{k:Rv→R→Prop}(p)(f)(H:bp ρ j){items:List V}(O:∀v∈items,∀k,k (p v) (ρ.set j (.j v))→Gb G cond (ρ.set j (.j v)) k (λ_=>False))(d:∀v∈items,p v=true→∀k:Rv→R→Prop,(∀r,r.v=f v→k r (ρ.set j (.j v)))→ev G J (ρ.set j (.j v)) k (λ_=>False))(C)(ρ1)(h1:AL ρ j ρ1)(h:k (.U (C++(items.filter p).map f)) (ρ.set j .y)):
 (items.foldr (λv t C ρ=>bH ρ j (.j v) λρ=>Gb G cond ρ (λc ρ=>match c with
  |true=>ev G J ρ (λr ρ=>t (C++[r.v]) ρ) (λ_=>False)
  |false=>t C ρ) (λ_=>False)) (λC ρ=>bH ρ j .y λρ=>k (.U C) ρ)) C ρ1:=by
 refine lV (λl C ρ1=>AL ρ j ρ1∧k (.U (C++(l.filter p).map f)) (ρ.set j .y)) (λC ρ1 h=>k7 H h.1 (append_nil C▸h.2)) (λv u l C ρ1 h t y=>k7 H h.1 (O v u _ ?_)) C ρ1 ⟨h1,h⟩;have h2:=h.2;rw[filter_cons]at h2;cases q:p v with
 |false=>rw[q]at h2;exact y C _ ⟨.inr ⟨v,rfl⟩,h2⟩
 |true=>rw[q]at h2;exact d v u q _ λr e=>y _ _ ⟨.inr ⟨v,rfl⟩,by rw[e,List.append_assoc];exact h2⟩
theorem jW{I cond t:E}(H:∀k,k items ρ→qY G I ρ k X)(L:items.length≤aA)(J:bp ρ j)(p)(f)
 (c:∀v∈items,∀k,k (p v) (ρ.set j (.j v))→Gb G cond (ρ.set j (.j v)) k (λ_=>False))(O:∀v∈items,p v=true→∀k:Rv→R→Prop,(∀r,r.v=f v→k r (ρ.set j (.j v)))→ev G t (ρ.set j (.j v)) k (λ_=>False))
 (h:k (.U ((items.filter p).map f)) (ρ.set j .y)):ev G (.comp j I cond t) ρ k X:=H _ ⟨L,yK p f J c O [] ρ (.inl rfl) (by simpa using h)⟩
theorem fA(H:∀k,k items ρ→qY G I ρ k X)(L:items.length≤aA)(J:bp ρ j)(f)
 (O:∀v∈items,∀k:Rv→R→Prop,(∀r,r.v=f v→k r (ρ.set j (.j v)))→ev G t (ρ.set j (.j v)) k (λ_=>False))(h:k (.U (items.map f)) (ρ.set j .y)):ev G (.comp j I .no t) ρ k X:=
 jW H L J (λ_=>true) f (λv _ k K=>K) (λv V _=>O v V) ((List.filter_eq_self.mpr (λ_ _=>rfl))▸h)
noncomputable abbrev PR:=Int×Int
noncomputable abbrev ah(p:PR):V:=nv p.1 p.2
noncomputable abbrev aK(p:PR):Prop:=Num p.1 p.2
noncomputable abbrev aM(p q:PR):Int:=ag p.1 p.2 q.1 q.2
noncomputable def cA:List PR→PR→List PR
|[],x=>[x]
|y::l,x=>if aM y x≤0 then y::cA l x else x::y::l
noncomputable def aI(xs:List PR):List PR:=xs.foldl cA []
theorem EL{l}{j}(h1:∀i y,i<j→l[i]? =some y→aM y x≤0)(H:j≤l.length)(h2:∀y,l[j]? =some y→¬aM y x≤0):cA l x=l.take j++x::l.drop j:=by
 induction l generalizing j with
 |nil=>cases eq_zero_of_le_zero H;rfl
 |cons y l I=>
  cases j with
  |zero=>exact if_neg (h2 y rfl)
  |succ j=>exact(if_pos (h1 0 y (zm 4416009 rfl _) rfl)).trans (congrArg (y:: ·) (I (λi z M e=>h1 (i+1) z (zl 25949080030594 rfl M) (by rw[List.getElem?_cons_succ];exact e)) (le_of_succ_le_succ H) (λz e=>h2 z (by rw[List.getElem?_cons_succ];exact e))))
theorem aC{j:Nat}(h:l[j]? =some v):cy l j=some v:=by
 have e:bX l.length j=j:=by unfold bX;rw[decide_eq_true (by exact zm 92741 rfl _)]
 unfold cy;rw[e,decide_eq_true (by exact zm 92741 rfl _)];exact h
theorem cm(H:0≤i)(h:l[i.toNat]? =some v):cy l i=some v:=by
 obtain⟨j,rfl⟩:=Int.eq_ofNat_of_zero_le H;exact aC (by simpa using h)
theorem az(h:cy l j=some v)(H:k v):rM (.o l) (.int j) k:=by
 show(match cy l j with|some v=>k v|.none=>False);rw[h];exact H
theorem Ox{j:Int}(e:ρ[i]? =some (.U l))(H:0≤j)(h1:j≤l.length)(h2:l.length<aA)(d:k (ρ.set i (.U (l.take j.toNat++v::l.drop j.toNat)))):
 gW ρ i (λl=>match decide (0≤j),decide (j≤l.length),decide (l.length<aA)with|true,true,true=>some (l.take j.toNat++v::l.drop j.toNat)|_,_,_=>.none) k:=by
 unfold gW;rw[e];show(match(match decide (0≤j),decide (j≤l.length),decide (l.length<aA)with|true,true,true=>some (l.take j.toNat++v::l.drop j.toNat)|_,_,_=>.none)with|some l=>k (ρ.set i (fV (.U _) l))|.none=>False);rw[decide_eq_true H,decide_eq_true h1,decide_eq_true h2];exact d
theorem aw(h:∀k,k v ρ1→ev G e ρ k X)(H:bp ρ1 i)(h1:ex G r (ρ1.set i v.s) x C t X):ex G (.cons (.C i e) r) ρ x C t X:=h _ (aU H h1)
theorem cQ(H:∀k,k items ρ→qY G I ρ k X)(Inv:Nat→R→Prop)(g:Inv 0 ρ)(step:∀j v ρ,items[j]? =some v→Inv j ρ→bp ρ i∧∀t:R→Prop,(∀ρ',Inv (j+1) ρ'→t ρ')→ex G b (ρ.set i (.j v)) t t Y X)
 (a9:∀ρ,Inv items.length ρ→ex G r ρ x C Y X):ex G (.cons (.bU i I b) r) ρ x C Y X:=H _ (xp Inv (λj v ρ e h t y=>aU (step j v ρ e h).1 ((step j v ρ e h).2 t y)) a9 g)
theorem jJ(Inv:R→Prop)(g:R→Nat)(H:Inv ρ)(D:∀ρ,Inv ρ→∀I:R→Prop,(∀ρ',Inv ρ'→g ρ'<g ρ→I ρ')→tr G c ρ (λt ρ=>match t with|true=>ex G b ρ I I Y X|false=>ex G r ρ x C Y X) X):ex G (.cons (.tT c b) r) ρ x C Y X:=vt Inv g D H
noncomputable def fu(s:Mine.Internal.S):Prop:=s=.y∨∃v,s=.j v
theorem aq(e:ρ[j]? =some s)(h:fu s):bp ρ j:=by
 rcases h with rfl|⟨v,rfl⟩
 ·exact aa e
 ·exact⟨_,e,λ_ q=>(by cases q),λ_ _ q=>by cases q⟩
theorem BA(l):(cA l x).length=l.length+1:=by
 induction l with
 |nil=>rfl
 |cons y l I=>
  show(if aM y x≤0 then y::cA l x else x::y::l).length=_
  by_cases q:aM y x≤0
  ·rw[if_pos q];exact congrArg succ I
  ·rw[if_neg q];rfl
theorem Dj(xs l:List PR):(xs.foldl cA l).length=l.length+xs.length:=by
 induction xs generalizing l with
 |nil=>rfl
 |cons x xs I=>rw[foldl_cons,I,BA,length_cons];exact zm 0xc7b961cf6170 rfl ..
theorem pG{l}(h:y∈cA l x):y=x∨y∈l:=by
 induction l with
 |nil=>exact .inl (mem_singleton.mp h)
 |cons z l I=>
  have h:y∈(if aM z x≤0 then z::cA l x else x::z::l):=h
  by_cases q:aM z x≤0
  ·rw[if_pos q]at h
   rcases mem_cons.mp h with rfl|h
   ·exact .inr (.head _)
   ·exact(I h).imp id (.tail _)
  ·rw[if_neg q]at h
   exact mem_cons.mp h
theorem BH{xs l:List PR}(h:y∈xs.foldl cA l):y∈xs∨y∈l:=by
 induction xs generalizing l with
 |nil=>exact .inr h
 |cons x xs I=>
  rcases I h with h|h
  ·exact .inl (.tail _ h)
  ·rcases pG h with rfl|h
   ·exact .inl (.head _)
   ·exact .inr h
theorem gO(H:∀p∈xs,aK p)(L:xs.length≤1000)(h:K (.j (.o ((aI xs).map ah))) []):FF 87 [.j (.o (xs.map ah))] K X:=by
 refine de 87 rfl rfl rfl λG g=> ?_;refine aw (λ_ h=>⟨af rfl,h⟩) (aa rfl) ?_;refine cQ (λ_ h=>h) (λj ρ=>∃S s,fu S∧fu s∧ρ=[.j (.o (xs.map ah)),.U ((aI (xs.take j)).map ah),S,s]) ⟨.y,.y,.inl rfl,.inl rfl,rfl⟩ ?_ ?_
 ·rintro j v ρ e ⟨S,s,h2,h3,rfl⟩
  refine⟨aq rfl h2,λR F=> ?_⟩;rw[getElem?_map]at e;obtain⟨x,Y,rfl⟩:=Option.map_eq_some_iff.mp e;have T:aI (xs.take (j+1))=cA (aI (xs.take j)) x:=by
   unfold aI;rw[take_add_one,Y,Option.toList_some,foldl_append];rfl
  have m:∀y∈aI (xs.take j),aK y:=λy B=>by
   rcases BH B with h|h
   ·exact H y (mem_of_mem_take h)
   ·cases h
  have n:(aI (xs.take j)).length≤1000:=by unfold aI;rw[Dj,length_take,length_nil];exact zl 0x6783efcac8ad115cf rfl L
  generalize aI (xs.take j)=l at T m n;refine aw (λ_ h=>h) (aq rfl h3) ?_;refine jJ (λρ=>∃i,i≤l.length∧(∀a y,a<i→l[a]? =some y→aM y x≤0)∧ρ=[.j (.o (xs.map ah)),.U (l.map ah),.j (ah x),vi i]) (λρ=>match ρ with|[_,_,_,.j (.int i)]=>l.length-i.toNat|_=>0) ⟨0,zm 2984 rfl _,λa y h=>(zl 665066 rfl h).elim,rfl⟩ ?_;rintro ρ ⟨i,I,c,rfl⟩ Q Z;have done:(∀y,l[i]? =some y→¬aM y x≤0)→ex G (.cons (.ins 1 (.d 3) (.d 2)) .nil) [.j (.o (xs.map ah)),.U (l.map ah),.j (ah x),vi i] R R (λr ρ=>K r (bf [.j (.o (xs.map ah))] ρ)) X:=by
   intro N;refine Ox (ρ:=[.j (.o (xs.map ah)),.U (l.map ah),.j (ah x),vi i]) (i:=1) rfl (zm 92741 rfl _) (by rw[List.length_map];exact zl 23879377143 rfl I) (by rw[List.length_map];exact Nat.lt_of_le_of_lt n (by decide)) ?_;refine F _ ⟨.j (ah x),vi i,.inr ⟨_,rfl⟩,.inr ⟨_,rfl⟩,?_⟩;rw[T,EL (x:=x) c I N,map_append,map_cons,map_take,map_drop];rfl
  refine aT (λ_ h=>h) (λq=> ?_) λq=> ?_
  ·have t:i<l.length:=by have:=of_decide_eq_true q;rw[length_map]at this;exact zl 23760048736 rfl this
   have E:l[i]? =some l[i]:=by simp[t]
   refine bK (b:=decide (aM l[i] x≤0)) (λk d=>az (aC (by rw[getElem?_map,E];rfl)) (g.c 85 rfl _ _ _ (iP (m l[i] (getElem_mem t)) (H x (List.mem_of_getElem? Y)) d))) (λp=> ?_) λp=> ?_
   ·refine Z _ ⟨i+1,t,λa y A e=> ?_,rfl⟩ ?_
    ·by_cases q:a=i
     ·subst q;rw[E]at e;cases e;exact of_decide_eq_true p
     ·exact c a y (zl 0x4f1d2d4a6e3dfa rfl A q) e
    ·show l.length-((i:Int)+1).toNat<l.length-(i:Int).toNat
     exact zl 0x53c64c83a79808d702 rfl t
   ·exact done λy e=>by rw[E]at e;cases e;exact of_decide_eq_false p
  ·have u:l.length≤i:=by have:=of_decide_eq_false q;rw[length_map]at this;exact zl 2726871714342 rfl this
   exact done λy e=>by rw[getElem?_eq_none u]at e;cases e
 ·rintro ρ ⟨S,s,h2,h3,rfl⟩
  rw[length_map,take_length];exact h
theorem xX(x y):sg y x= -sg x y:=by
 exact zl 0x3863de6be04c435b6e404ca6eb6fd834edaebac8ebf11f120fea3 rfl (a4 x y) (a4 y x)
theorem bQ(p q):aM q p= -aM p q:=by
 show ag q.1 q.2 p.1 p.2= -ag p.1 p.2 q.1 q.2;unfold ag
 by_cases h:p.2=0∧q.2=0
 ·rw[if_pos h,if_pos ⟨h.2,h.1⟩,xX]
 ·rw[if_neg h,if_neg λz=>h ⟨z.2,z.1⟩,xX]
theorem cJ(p):aM p p=0:=by have:=bQ p p;exact zl 1723265572 rfl this
theorem uR:sg x y≤0↔x≤y:=by have h:=a4 x y;exact zl 0x30b2672a67695f5da6bf11f120fea3 rfl h
theorem LM:sg x y<0↔x<y:=by have h:=a4 x y;exact zl 0x30b313eacd59f3de443f11f120fea3 rfl h
theorem wu(x:Num a b)(y:Num c d):ag a b c d≤0↔(b=0∧a= -1)∨(d=0∧c=1)∨(0<b∧0<d∧a*d≤c*b):=by
 unfold ag;rcases x.ext with⟨hb,_⟩|⟨hb,H⟩<;>rcases y.ext with⟨hd,_⟩|⟨hd,C⟩
 ·rw[if_neg λz=>Int.ne_of_gt hb z.1,uR]
  generalize a*d=X;generalize c*b=Y;exact zl 0x12de7140f313bd052e026950a0339a2748ee97b2f28 rfl hb hd
 ·subst hd
  rw[if_neg λz=>Int.ne_of_gt hb z.1,uR];rcases C with rfl|rfl
  ·exact zl 0x1c4b0ec76e150f923778e7fb94fac9dee6d3542bed7d28 rfl hb
  ·exact zl 0xe25bb3659ddddeff2ede50d6962fa373bdcda6dd28bed7d28 rfl hb
 ·subst hb
  rw[if_neg λz=>Int.ne_of_gt hd z.2,uR];rcases H with rfl|rfl
  ·exact zl 0x1dbb45f88530aba8790bf91523c01fb25853b9a14a5d28 rfl hd
  ·exact zl 0xedda2fe14792f49b0e19064548f00b1e916fa7734467d5d28 rfl hd
 ·subst hb;subst hd
  rw[if_pos ⟨rfl,rfl⟩,uR];exact zl 0x323b42f8e33ecf4973d83fa06e7f488a7eb847e5773e8844a23f268 rfl H C
theorem cU(H:aK p)(Q:aK q)(m:aK r)(h1:aM p q≤0)(h2:aM q r≤0):aM p r≤0:=by
 replace h1:=(wu H Q).mp h1;replace h2:=(wu Q m).mp h2;apply (wu H m).mpr;rcases h1 with h|h|⟨B,D,x⟩
 ·exact .inl h
 ·rcases h2 with h'|h'|⟨D,_⟩
  ·exact absurd (h.2.symm.trans h'.2) (by decide)
  ·exact .inr (.inl h')
  ·exact absurd h.1 (Int.ne_of_gt D)
 ·rcases h2 with h'|h'|⟨_,F,y⟩
  ·exact absurd h'.1 (Int.ne_of_gt D)
  ·exact .inr (.inl h')
  ·refine .inr (.inr ⟨B,F,Int.le_of_mul_le_mul_right ?_ D⟩)
   rw[Int.mul_right_comm p.1 r.2 q.2,Int.mul_right_comm r.1 p.2 q.2];apply Int.le_trans (Int.mul_le_mul_of_nonneg_right x (Int.le_of_lt F));rw[Int.mul_right_comm q.1 p.2 r.2];exact Int.mul_le_mul_of_nonneg_right y (Int.le_of_lt B)
theorem oZ(H:aK p)(Q:aK q)(h1:aM p q≤0)(h2:aM q p≤0):p=q:=by
 rw[bQ]at h2;have:=(iE H Q).mp (by change ag p.1 p.2 q.1 q.2≤0 at h1;change-ag p.1 p.2 q.1 q.2≤0 at h2;exact zl 0xc234fd24c7be rfl h1 h2:ag p.1 p.2 q.1 q.2=0);exact Prod.ext this.1 this.2
noncomputable abbrev dJ(l:List PR):Prop:=l.Pairwise λp q=>aM p q≤0
theorem zJ(l):(cA l x).Perm (x::l):=by
 induction l with
 |nil=>exact .refl _
 |cons y l I=>
  show(if aM y x≤0 then y::cA l x else x::y::l).Perm _
  by_cases q:aM y x≤0
  ·rw[if_pos q];exact(I.cons y).trans (.swap ..)
  ·rw[if_neg q]
theorem zo(xs l:List PR):(xs.foldl cA l).Perm (l++xs):=by
 induction xs generalizing l with
 |nil=>simp
 |cons x xs I=>
  rw[foldl_cons];refine(I _).trans (((zJ l).append_right xs).trans ?_);exact perm_middle.symm
theorem aZ(xs):(aI xs).Perm xs:=zo xs []
theorem uX(Q:aK x){l}(H:∀p∈l,aK p)(D:dJ l):dJ (cA l x):=by
 induction l with
 |nil=>exact .cons (λ_ h=>by cases h) .nil
 |cons y l I=>
  obtain⟨h1,h2⟩:=pairwise_cons.mp D;show dJ (if aM y x≤0 then y::cA l x else x::y::l)
  by_cases q:aM y x≤0
  ·rw[if_pos q]
   refine .cons (λz Z=> ?_) (I (λp P=>H p (.tail _ P)) h2);rcases pG Z with rfl|Z
   ·exact q
   ·exact h1 z Z
  ·rw[if_neg q]
   have g:aM x y≤0:=by rw[bQ];exact zl 834191057200 rfl q
   refine .cons (λz Z=> ?_) D;rcases mem_cons.mp Z with rfl|Z
   ·exact g
   ·exact cU Q (H y (.head _)) (H z (.tail _ Z)) g (h1 z Z)
theorem uZ{xs l:List PR}(H:∀p∈xs,aK p)(L:∀p∈l,aK p)(h:dJ l):dJ (xs.foldl cA l):=by
 induction xs generalizing l with
 |nil=>exact h
 |cons x xs I=>exact I (λp P=>H p (.tail _ P)) (λp P=>by
  rcases pG P with rfl|P
  ·exact H _ (.head _)
  ·exact L p P) (uX (H x (.head _)) L h)
theorem dm(H:∀p∈xs,aK p):dJ (aI xs):=uZ H (λ_ h=>by cases h) .nil
theorem qQ(H:∀p∈xs,aK p)(u:Y.Perm xs)(D:dJ Y):Y=aI xs:=
 Perm.eq_of_pairwise (λa b A hb=>oZ (H _ (u.mem_iff.mp A)) (H _ ((aZ xs).mem_iff.mp hb))) D (dm H) (u.trans (aZ xs).symm)
set_option genCtorIdx true in
inductive It where
 |na|lI|nu(p:PR)
noncomputable def wv:It→V
|.na=>.none
|.lI=>nv 0 0
|.nu p=>ah p
noncomputable def Sm(p:PR):Prop:=(0<p.2∧Int.gcd p.1 p.2=1∧p.2≤3∧p.1.natAbs≤24)∨(p.2=0∧(p.1=1∨p.1= -1))
theorem Sm.num(h:Sm p):aK p:=by
 rcases h with⟨h1,h2,h3,h4⟩|⟨h1,h2⟩
 ·exact⟨.inl ⟨h1,h2⟩,zl 0x2ecb4648ef1ab68 rfl h4,zl 0x2c3c287101420528 rfl h1 h3⟩
 ·exact⟨.inr ⟨h1,h2⟩,zl 0x587850e1f5343f268 rfl h2,zl 0x5d968c91e7d4 rfl h1⟩
noncomputable def ik(w:Bool):It→Prop
|.nu p=>Sm p∧(w=false→0<p.2)
|_=>w=true
noncomputable abbrev rd(n d:Int):PR:=(rT n d,mC n d)
theorem pN(hd:0<d):Int.gcd (rT n d) (mC n d)=1:=Int.gcd_ediv_gcd_ediv_gcd (by have:=kQ (n:=n) hd;exact zl 2958856456 rfl this)
theorem cn(hd:0<d):0<mC n d:=Int.ediv_pos_of_pos_of_dvd hd (Int.le_of_lt (kQ hd)) (Int.gcd_dvd_right ..)
theorem oy(hd:0<d):mC n d≤d:=Int.ediv_le_self _ (Int.le_of_lt hd)
theorem Lx:rT n d*(Int.gcd n d)=n:=Int.ediv_mul_cancel (Int.gcd_dvd_left ..)
theorem L7:mC n d*(Int.gcd n d)=d:=Int.ediv_mul_cancel (Int.gcd_dvd_right ..)
theorem pB(hd:0<d):(rT n d).natAbs≤n.natAbs:=by
 have e:(rT n d).natAbs*Int.gcd n d=n.natAbs:=by
  have:=congrArg Int.natAbs (Lx (n:=n) (d:=d));rw[Int.natAbs_mul,Int.natAbs_natCast]at this;exact this
 exact Nat.le_trans (Nat.le_mul_of_pos_right _ (zl 2958856456 rfl (kQ (n:=n) hd))) (Nat.le_of_eq e)
theorem eY(J:ρ[i]? =some (.U L))(h:∀k,k v ρ1→ev G e ρ k X)(g:ρ1[i]? =some (.U l))(H:l.length<aA)(h1:ex G r (ρ1.set i (.U (l++[v.v]))) x C t X):ex G (.cons (.lK i e) r) ρ x C t X:=by
 show(match(ρ[i]?).bind df with|some _=>_|.none=>False);rw[J];apply h _;show(match ρ1[i]? with|some s=>_|.none=>False);rw[g];show(match(match decide (l.length<aA)with|true=>some (l++[v.v])|false=>.none)with|some l=>_|.none=>False);rw[decide_eq_true H];exact h1
noncomputable def iV(l:List Int):List V:=l.map V.int
theorem xO:∀l,bM fh (iV l)=some (l.map PyData.int)
|[]=>rfl
|i::l=>by
 show(match fh (.int i),bM fh (iV l)with|some d,some D=>some (d::D)|_,_=>.none)=_;rw[xO l];rfl
theorem ba(h:∀(i:Int)(l':List Int),K (.j (.int i)) [.bl (iV l')]):FF 81 [.bl (iV l)] K X:=by
 refine fw 81 rfl rfl λG g=> ?_;refine bx (c:=decide (l≠[])) (ρ':=[.bl (iV l)]) (λk H=> ?_) (λq=> ?_) λq=> ?_
 ·show(match vz (.o (iV l)) (.o [])with|some b=>k (!b) [.bl (iV l)]|.none=>False)
  have e:vz (.o (iV l)) (.o [])=some (!decide (l≠[])):=by
   show(match(bM fh (iV l)).map PyData.list,Ak (.o [])with|some a,some b=>some (PyData.eqv a b)|_,_=>none)=_;rw[xO];cases l<;>rfl
  rw[e];show k (!!decide (l≠[])) _;rw[Bool.not_not];exact H
 ·obtain⟨l',i,rfl⟩:∃l' i,l=l'++[i]:=by
   rcases eq_nil_or_concat l with rfl|⟨l',i,e⟩
   ·exact absurd rfl (of_decide_eq_true q)
   ·exact⟨l',i,by simpa using e⟩
  have e:iV (l'++[i])=iV l'++[.int i]:=by simp[iV]
  rw[e];show(match(iV l'++[V.int i]).getLast? with|some v=>K (.j v) [.bl (iV l'++[V.int i]).dropLast]|.none=>False);rw[getLast?_concat,dropLast_concat];exact h i l'
 ·exact h 0 l
theorem bS{n d:Int}(hd:0<d)(H:d<lH)(h:K (.j (ah (rd n d))) []):FF 83 [vi n,vi d] K X:=by
 refine de 83 rfl rfl rfl λG g=> ?_;refine aw (λ_ h=>h) (aa rfl) (aw (λ_ h=>h) (aa rfl) ?_);refine jJ (λρ=>∃x y,ρ=[vi n,vi d,vi x,vi y]∧0≤x∧0≤y∧Int.gcd x y=Int.gcd n d) (λρ=>match ρ with|[_,_,_,.j (.int y)]=>y.toNat|_=>0) ⟨n.natAbs,d,rfl,zm 5871173 rfl _,zl 179569704 rfl hd,by rw[Int.gcd,Int.gcd,Int.natAbs_natCast]⟩ ?_;rintro ρ ⟨x,y,rfl,Q,Y,e⟩ I i;refine A6 (λ_ h=>h) (λq=> ?_) λq=> ?_
 ·have S:=of_decide_eq_true q
  have j:Int.gcd y (x.fmod y)=Int.gcd x y:=by
   rw[Int.fmod_eq_emod_of_nonneg _ Y];obtain⟨m,rfl⟩:=Int.eq_ofNat_of_zero_le Q;obtain⟨k,rfl⟩:=Int.eq_ofNat_of_zero_le Y;show Nat.gcd k (m%k)=Nat.gcd m k;rw[gcd_comm k,←gcd_rec,gcd_comm]
  exact⟨zl 31155043112 rfl S,i _ ⟨y,x.fmod y,rfl,zl 179569693 rfl Y,Int.fmod_nonneg_of_pos _ S,j.trans e⟩ (by
   have:=Int.fmod_lt_of_pos x S;have:=Int.fmod_nonneg_of_pos x S;exact zl 0x515d9263774e1 rfl ‹_› this)⟩
 ·have S:y=0:=by have:=of_decide_eq_false q;exact zl 807472675673373 rfl Y this
  subst S;have E:x=(Int.gcd n d):=by rw[←e,Int.gcd_zero_right];exact zl 45465149725 rfl Q
  have g0:=kQ (n:=n) hd;have g1:=rp (n:=n) hd;refine⟨zl 0x6e9c48d8ba74c94 rfl E g0,zl 0xe9c7417c3a0a1396cc89 rfl H E g1,zl 0x6e9c48d8ba74c94 rfl E g0,zl 0xe9c7417c3a0a1396cc89 rfl H E g1,af rfl,?_⟩;subst E;rw[Int.fdiv_eq_ediv_of_nonneg _ (by exact zm 92741 rfl _),Int.fdiv_eq_ediv_of_nonneg _ (by exact zm 92741 rfl _)];exact h
theorem fm(h:0<m)(i:Int):0≤i.fmod m∧i.fmod m<m:=⟨Int.fmod_nonneg_of_pos _ h,Int.fmod_lt_of_pos _ h⟩
theorem tw(h:∀(I:It)(l':List Int),ik w I→K (.j (wv I)) [.bl (iV l')]):FF 84 [.bl (iV l),.j (.bool w)] K X:=by
 refine fw 84 rfl rfl λG H=> ?_;refine H.c 81 rfl _ _ _ (ba λi E=> ?_);refine⟨by decide,?_⟩;have f:=fm (m:=9) (by decide) i;generalize i.fmod 9=y at f;have R:(y=8→w=false)→ex G (.cons (.iff (.D (.ag .gt (.d 2) (.p 5))) (.cons (.ret (.call 83 (.cons (.w .sub (.w .fmod (.P 81 0 .nil) (.p 37)) (.p 12)) (.cons (.w .add (.p 2) (.w .fmod (.d 2) (.p 2))) .nil)))) .nil) .nil) (.cons (.ret (.L (.cons (.w .sub (.w .fmod (.P 81 0 .nil) (.p 13)) (.p 4)) (.cons (.p 1) .nil)))) .nil)) [.bl (iV E),.j (.bool w),vi y]
  (λρ=>K (.j .none) (bf [.bl (iV l),.j (.bool w)] ρ)) (λ_=>False) (λr ρ=>K r (bf [.bl (iV l),.j (.bool w)] ρ)) X:=by
  intro _;refine ai (λ_ h=>h) (λq=> ?_) λq=> ?_
  ·refine H.c 81 rfl _ _ _ (ba λj L=> ?_)
   refine⟨by decide,by decide,?_⟩;have f1:=fm (m:=37) (by decide) j;have F:=fm (m:=2) (by decide) y;have e:(lH:Int)=2^200:=rfl;have hd:0<2+y.fmod 2:=zl 185289202973 rfl F.1;refine H.c 83 rfl _ _ _ (bS hd (zl 0x1cebd361cff13e9 rfl F.2) ?_);refine h (.nu (rd _ _)) L ⟨.inl ⟨cn hd,pN hd,?_,?_⟩,λ_=>cn hd⟩
   ·have:=oy (n:=j.fmod 37-12) hd
    exact zl 5993026352711657 rfl F.2 this
   ·have:=pB (n:=j.fmod 37-12) hd
    exact zl 0x137db542321a1b3db7a13f3249 rfl f1.2 f1.1 this
  ·refine H.c 81 rfl _ _ _ (ba λj L=> ?_)
   refine⟨by decide,af rfl,?_⟩;have f1:=fm (m:=13) (by decide) j;refine h (.nu (j.fmod 13-4,1)) L ⟨.inl ⟨(by decide:(0:Int)<1),Int.gcd_one_right _,(by decide:(1:Int)≤3),?_⟩,λ_=>(by decide:(0:Int)<1)⟩;exact zl 0x2efef3b115c0b3da49 rfl f1.2 f1.1
 refine ip (aT (λ_ h=>h) (λq=>bK (λ_ h=>h) (λQ=> ?_) λQ=> ?_) λq=> ?_)
 ·subst Q
  refine⟨af rfl,af rfl,af rfl,af rfl,?_⟩;refine H.c 81 rfl _ _ _ (ba λj L=> ?_);refine⟨by decide,?_⟩;have f1:=fm (m:=4) (by decide) j;generalize j.fmod 4=z at f1;obtain rfl|rfl|rfl|rfl:z=0∨z=1∨z=2∨z=3:=zl 0xb08397f761bc68e0530c09 rfl f1.2 f1.1
  ·exact h .na L rfl
  ·exact h .lI L rfl
  ·exact h (.nu (1,0)) L ⟨.inr ⟨rfl,.inl rfl⟩,λq=>by cases q⟩
  ·exact h (.nu (-1,0)) L ⟨.inr ⟨rfl,.inr rfl⟩,λq=>by cases q⟩
 ·exact ae (R λ_=>Q)
 ·exact ae (R λz=>absurd z (Aa q))
theorem Ae(h:∀l':List Int,K (.U (iV l')) []):FF 82 [.j (.o (iV l))] K X:=by
 refine de 82 rfl rfl rfl λG g=> ?_;have B:997<lH:=by decide
 have L:aA=1000000:=rfl;have F:∃m:Nat,m≤40∧((iV l).take (ay (iV l).length 40)).drop 0=iV (l.take m):=⟨ay (iV l).length 40,by
  unfold ay bX;rw[decide_eq_true (by decide)];exact zm 0x482e05551a2370 rfl _,by rw[drop_zero];unfold iV;rw[map_take]⟩
 obtain⟨m,M,E⟩:=F;refine aw (λ_ h=>⟨af rfl,h⟩) (aa rfl) ?_;refine cQ (items:=iV (l.take m)) (λ_ h=>by rw[←E]at h;exact h) (λj ρ=>∃is Q s S,fu Q∧fu s∧fu S∧is.length≤31*j∧ρ=[.j (.o (iV l)),.U (iV is),Q,s,S]) ⟨[],.y,.y,.y,.inl rfl,.inl rfl,.inl rfl,by simp,rfl⟩ ?_ ?_
 ·rintro j v ρ e ⟨is,Q,s,S,h2,h3,h4,H,rfl⟩
  refine⟨aq rfl h2,λt R=> ?_⟩;unfold iV at e;rw[getElem?_map]at e;obtain⟨x,Y,rfl⟩:=Option.map_eq_some_iff.mp e;have J:j<40:=by have:=(List.getElem?_eq_some_iff.mp Y).1;rw[length_take]at this;exact zl 0x8614b561998e5d5f rfl M this
  have o:∀y,ex G (.cons (.lK 1 (.w .fmod (.d 3) (.p 997))) (.cons (.C 3 (.w .fdiv (.d 3) (.p 997))) (.cons (.bU 4 (.eJ (.cons (.p 30) .nil)) (.cons (.iff (.D (.ag .gt (.d 3) (.p 0))) (.cons (.lK 1 (.w .fmod (.d 3) (.p 997))) (.cons (.C 3 (.w .fdiv (.d 3) (.p 997))) .nil)) .nil) .nil)) .nil)))
   [.j (.o (iV l)),.U (iV is),vi x,vi y,S] t t (λr ρ=>K r (bf [.j (.o (iV l))] ρ)) X:=by
   intro y;have I:∀(is:List Int)(z:Int),iV is++[V.int z]=iV (is++[z]):=λis z=>by simp[iV]
   refine eY rfl (λ_ h=>⟨by decide,h⟩) rfl (by unfold iV;rw[length_map];exact zl 0xf24cf7683c18d10fb19419da55 rfl L H J) ?_;show ex G _ [.j (.o (iV l)),.U (iV is++[V.int (y.fmod 997)]),vi x,vi y,S] _ _ _ _;rw[I];refine aw (λ_ h=>⟨by decide,B,h⟩) (aq rfl (.inr ⟨_,rfl⟩)) ?_;refine cQ (λ_ h=>h) (λi ρ=>∃is y S,fu S∧is.length≤31*j+1+i∧ρ=[.j (.o (iV l)),.U (iV is),vi x,vi y,S]) ⟨_,_,S,h4,by simp;exact zl 0x166bde7a2339a0f rfl H,rfl⟩ ?_ ?_
   ·rintro i v ρ e ⟨is,y,S,h4,H,rfl⟩
    refine⟨aq rfl h4,λt R=> ?_⟩;have N:i<30:=by have:=(List.getElem?_eq_some_iff.mp e).1;simpa[ao]using this
    refine ai (λ_ h=>h) (λq=> ?_) λq=> ?_
    ·refine eY rfl (λ_ h=>⟨by decide,h⟩) rfl (by unfold iV;rw[length_map];exact zl 0x57fddbc4be8a9b96aab0cb060167bd9419da55 rfl L J H N) ?_
     show ex G _ [.j (.o (iV l)),.U (iV is++[V.int (y.fmod 997)]),vi x,vi y,.j v] _ _ _ _;rw[I];refine aw (λ_ h=>⟨by decide,B,h⟩) (aq rfl (.inr ⟨_,rfl⟩)) ?_;exact R _ ⟨_,_,.j v,.inr ⟨_,rfl⟩,by simp;exact zl 0x466f2418b79e54ac9e2aece681cef rfl H,rfl⟩
    ·exact R _ ⟨is,y,.j v,.inr ⟨_,rfl⟩,zl 0x119bc9062de793e47aece681cef rfl H,rfl⟩
   ·rintro ρ ⟨is,y,S,h4,H,rfl⟩
    exact R _ ⟨is,_,_,_,.inr ⟨_,rfl⟩,.inr ⟨_,rfl⟩,h4,by simp[ao]at H;exact zl 0x1799bc5f9e9d950ece681cef rfl H,rfl⟩
  refine aw (v:=.j (.int (if 0≤x then x else 5-x))) (ρ1:=[.j (.o (iV l)),.U (iV is),vi x,s,S]) (λk d=>bx (λ_ h=>h) (λq=> ?_) λq=> ?_) (aq rfl h3) (o _)
  ·rw[if_pos (of_decide_eq_true q)]at d;exact d
  ·rw[if_neg (of_decide_eq_false q)]at d;exact d
 ·rintro ρ ⟨is,Q,s,S,h2,h3,h4,H,rfl⟩
  refine aw (λ_ h=>h) (aq rfl (.inr ⟨_,rfl⟩)) ?_;show K (.U (List.reverse _)) [];have e:(drop 0 ((iV is).take (ay (iV is).length 150))).reverse=iV ((is.take (ay (iV is).length 150)).reverse):=by
   rw[drop_zero];unfold iV;rw[map_reverse,map_take]
  rw[e];exact h _
theorem sH{Y:Type}{f:V→Option PyData}{g:Y→V}{h:Y→PyData}{l:List Y}(H:∀x∈l,f (g x)=some (h x)):bM f (l.map g)=some (l.map h):=by
 induction l with
 |nil=>rfl
 |cons a l I=>
  show(match f (g a),bM f (l.map g)with|some d,some D=>some (d::D)|_,_=>.none)=_;rw[H a (.head _),I λx X=>H x (.tail _ X)];rfl
noncomputable def pd(p:PR):PyData:=.tuple [.int p.1,.int p.2]
theorem Cz(l:List PR):bM fh (l.map ah)=some (l.map pd):=sH λ_ _=>rfl
theorem wK(p q):PyData.eqv (pd p) (pd q)=decide (p=q):=by
 unfold pd;rw[n8];obtain⟨a,b⟩:=p;obtain⟨c,d⟩:=q;simp
theorem qS:∀(l r:List PR),PyData.eqvAll (l.map pd) (r.map pd)=decide (l=r)
|[],[]=>rfl
|[],b::r=>rfl
|a::l,[]=>rfl
|a::l,b::r=>by
 show(PyData.eqv (pd a) (pd b)&&PyData.eqvAll (l.map pd) (r.map pd))=_;rw[wK,qS l r];simp
theorem tH(h1:bM fh a=some D)(h2:bM fh b=some d):vz (.o a) (.o b)=some (PyData.eqvAll D d):=by
 show(match(bM fh a).map PyData.list,(bM fh b).map PyData.list with|some a,some b=>some (PyData.eqv a b)|_,_=>.none)=_;rw[h1,h2];rfl
theorem A4(l r:List PR):vz (.o (l.map ah)) (.o (r.map ah))=some (decide (l=r)):=by
 rw[tH (Cz l) (Cz r),qS]
noncomputable def Sc(v:V):Prop:=v=.none∨(∃i,v=.int i)∨∃s,v=.str s∧PyData.strOk s=true
theorem u0{l}(h:∀v∈l,Sc v):∃D,bM fh l=some D∧PyData.eqvAll D D=true:=by
 induction l with
 |nil=>exact⟨[],rfl,rfl⟩
 |cons v l I=>
  obtain⟨D,h1,h2⟩:=I λv H=>h v (.tail _ H);have:∃d,fh v=some d∧PyData.eqv d d=true:=by
   rcases h v (.head _)with rfl|⟨i,rfl⟩|⟨s,rfl,S⟩
   ·exact⟨_,rfl,rfl⟩
   ·exact⟨_,rfl,by rw[EJ];exact decide_eq_true rfl⟩
   ·refine⟨PyData.str s,?_,by rw[x7];exact decide_eq_true rfl⟩
    show(match PyData.strOk s with|true=>some (PyData.str s)|false=>.none)=_;rw[S]
  obtain⟨d,h3,h4⟩:=this;refine⟨d::D,?_,?_⟩
  ·show(match fh v,bM fh l with|some d,some D=>some (d::D)|_,_=>.none)=_
   rw[h3,h1]
  ·show(PyData.eqv d d&&PyData.eqvAll D D)=true
   rw[h4,h2];rfl
theorem dW(h:∀v∈l,Sc v):vz (.o l) (.o l)=some true:=by
 obtain⟨D,h1,h2⟩:=u0 h;rw[tH h1 h1,h2]
noncomputable def mS:Str:=⟨#[105,110,118,97,108,105,100,32,115,112,101,99,105,102,105,99,97,116,105,111,110,32,111,102,32,39,98,114,101,97,107,115,39]⟩
noncomputable def mI:Str:=⟨#[105,110,118,97,108,105,100,32,110,117,109,98,101,114,32,111,102,32,105,110,116,101,114,118,97,108,115]⟩
noncomputable def mF:Str:=⟨#[39,120,39,32,104,97,115,32,110,111,32,102,105,110,105,116,101,32,118,97,108,117,101,115,32,116,111,32,99,117,116]⟩
noncomputable def mU:Str:=⟨#[39,98,114,101,97,107,115,39,32,97,114,101,32,110,111,116,32,117,110,105,113,117,101]⟩
noncomputable def oY:It→Option PR
|.nu p=>if 0<p.2 then some p else none
|_=>none
noncomputable def dq(xs:List It):List PR:=xs.filterMap oY
noncomputable def PM(low:PR)(n m:Int):List PR:=
 let st:=rd (low.1*low.2*1000-n*low.2) (low.2*low.2*1000)
 (range (m+1).toNat).map λ(i:Nat)=>rd (st.1*(low.2*1000)*m+(0+1*i)*(2*n)*st.2) (st.2*(low.2*1000)*m)
noncomputable def BN(low top:PR)(n d m:Int):List PR:=
 (((range (m+1).toNat).map λ(i:Nat)=>rd (low.1*d*m+(0+1*i)*n*low.2) (low.2*d*m)).set 0 (rd (low.1*d*1000-n*low.2) (low.2*d*1000))).set m.toNat (rd (top.1*d*1000+n*top.2) (top.2*d*1000))
noncomputable def eF(low top:PR)(m:Int):List PR:=
 if top.1*low.2-low.1*top.2=0 then PM low (if low.1≠0 then low.1.natAbs else 1) m else BN low top (top.1*low.2-low.1*top.2) (top.2*low.2) m
theorem ml{a b:Int}(h1:a.natAbs<2^i)(h2:b.natAbs<2^j):(a*b).natAbs<2^(i+j):=sd h1 h2 (by rw[Nat.pow_add];exact Nat.le_refl _)
theorem zU{a b:Int}(h1:a.natAbs<2^i)(h2:b.natAbs<2^i):(a+b).natAbs<2^(i+1):=by rw[Nat.pow_succ];exact zl 0x1d0025b0e8e0e67ce73 rfl h1 h2
theorem xK{a b:Int}(h1:a.natAbs<2^i)(h2:b.natAbs<2^i):(a-b).natAbs<2^(i+1):=by rw[Nat.pow_succ];exact zl 0x1d0025b35dfbe67ce73 rfl h1 h2
theorem iQ{a:Int}(h1:a.natAbs<2^i)(h:i≤j):a.natAbs<2^j:=Nat.lt_of_lt_of_le h1 (Nat.pow_le_pow_right (by decide) h)
theorem bg{a:Int}(h1:a.natAbs<2^i)(h:i≤200):a.natAbs<lH:=iQ h1 h
theorem cX(h:vz x y=some b)(H:k b):oM .eq x y k:=by
 show(match vz x y with|some b=>k b|.none=>False);rw[h];exact H
theorem gV(h:vz x y=some b)(H:k (!b)):oM .ne x y k:=by
 show(match vz x y with|some b=>k (!b)|.none=>False);rw[h];exact H
theorem gM(h:l.getLast? =some v):cy l (-1)=some v:=by
 have H:l.length≠0:=by cases l<;>simp at h⊢
 have e:bX l.length (-1)=l.length-1:=by
  unfold bX;rw[decide_eq_false (by decide)];exact zm 37060747032685 rfl _
 unfold cy;rw[e,decide_eq_true (by exact zl 529889643013517 rfl H)];rw[getLast?_eq_getElem?]at h;have:((l.length:Int)-1).toNat=l.length-1:=zm 1157819611250 rfl _;rw[this];exact h
theorem eB{j:Nat}(h:j<l.length):eZ l j v=some (l.set j v):=by
 have e:bX l.length j=j:=by unfold bX;rw[decide_eq_true (by exact zm 92741 rfl _)]
 unfold eZ;rw[e,decide_eq_true (by exact zm 92741 rfl _),decide_eq_true (by exact zl 23879384898 rfl h)];rfl
theorem NH(e:ρ[i]? =some (.U l))(h:eZ l j v=some l')(H:k (ρ.set i (.U l'))):gW ρ i (λl=>eZ l j v) k:=by
 unfold gW;rw[e];show(match eZ l j v with|some l=>k (ρ.set i (fV (.U _) l))|.none=>False);rw[h];exact H
theorem iB(h:ev G e ρ t X):ex G (.cons (.ret e) r) ρ x C t X:=h
theorem fR(h:ev G e ρ (λr ρ=>k (.j r.v) ρ) X):ev G (.Y e) ρ k X:=h
theorem iy(h:∀k,k v ρ1→ev G e ρ k X)(H:wH I ρ1=some (.int j))(g:ρ1[i]? =some (.U l))(h2:eZ l j v.v=some l')(h1:ex G r (ρ1.set i (.U l')) x C t X):ex G (.cons (.dx (.v i) I e) r) ρ x C t X:=by
 apply h _;show(match wH I ρ1 with|some j=>_|.none=>False);rw[H];exact NH (k:=λρ=>ex G r ρ x C t X) g h2 h1
noncomputable def GO(xs:List It)(m:Int):Str⊕List PR:=if m<2 then .inl mI else match aI (dq xs)with
 |[]=>.inl mF
 |low::r=>.inr (eF low ((low::r).getLast (cons_ne_nil _ _)) m)
noncomputable def EG(K:Rv→List Mine.Internal.S→Prop):Str⊕List PR→Prop
|.inl s=>K (.j (.str s)) []
|.inr l=>K (.j (.o (l.map ah))) []
theorem cH(h:p∈dq xs):.nu p∈xs∧0<p.2:=by
 obtain⟨I,h1,h2⟩:=mem_filterMap.mp h;cases I with
 |nu p=>
  by_cases q:0<p.2
  ·have:=Option.some.inj ((if_pos q).symm.trans h2);subst this;exact⟨h1,q⟩
  ·cases(if_neg q).symm.trans h2
 |na=>cases h2
 |lI=>cases h2
noncomputable def t7:V→Bool
|.L [_,.int b]=>decide (0<b)
|_=>false
theorem E8(xs):(((xs.map wv).filter t7).map λv=>v)=(dq xs).map ah:=by
 induction xs with
 |nil=>rfl
 |cons t xs I=>
  rw[map_cons,filter_cons];unfold dq;rw[filterMap_cons];cases t with
  |na=>exact I
  |lI=>exact I
  |nu p=>
   by_cases q:0<p.2
   ·rw[show oY (.nu p)=some p from if_pos q,if_pos (show t7 (wv (.nu p))=true from decide_eq_true q)];exact congrArg _ I
   ·rw[show oY (.nu p)=none from if_neg q,if_neg (show¬t7 (wv (.nu p))=true fromλz=>q (of_decide_eq_true z))];exact I
theorem H4{l:List PR}:(l.map ah).set j (ah p)=(l.set j p).map ah:=by rw[map_set]
theorem kI{l:List PR}(H:0≤m)(h:m.toNat<l.length):eZ (l.map ah) m (ah p)=some ((l.set m.toNat p).map ah):=by
 obtain⟨j,rfl⟩:=Int.eq_ofNat_of_zero_le H;rw[eB (by rw[List.length_map];exact h),H4];rfl
theorem iR(H:0≤m)(h1:m≤100):dG [.int m]=some (ao 0 m.toNat 1):=by
 show(match va 0 m with|true=>some (ao 0 m.toNat 1)|false=>.none)=_;have e:va 0 m=true:=by
  unfold va;rw[decide_eq_true (by decide)];exact decide_eq_true (zl 0xafb614438566fb451d rfl H h1)
 rw[e]
theorem hI(h:∀k,k (.j (.int m)) ρ1→ev G e ρ k X)(H:0≤m)(h1:m≤100)(d:k (ao 0 m.toNat 1) ρ1):qY G (.eJ (.cons e .nil)) ρ k X:=by
 apply h _;show(match dG [.int m]with|some l=>k l ρ1|.none=>False);rw[iR H h1];exact d
theorem Cd(g:Sub 88 G)(L:Sm low)(t:Sm top)(C:0<low.2)(u:0<top.2)(m2:2≤m)(M:m≤40)(h:∀a b ρ,Y (.j (.o ((eF low top m).map ah))) (a::b::ρ)):
 ex G (.cons (.C 5 (.w .sub (.w .mul (.sub (.d 4) (.p 0)) (.sub (.d 3) (.p 1))) (.w .mul (.sub (.d 3) (.p 0)) (.sub (.d 4) (.p 1))))) (.cons (.C 6 (.w .mul (.sub (.d 4) (.p 1)) (.sub (.d 3) (.p 1)))) (.cons (.iff (.D (.ag .eq (.d 5) (.p 0))) (.cons (.C 5 (.ite (.D (.ag .ne (.sub (.d 3) (.p 0)) (.p 0))) (.b1 .abs (.sub (.d 3) (.p 0))) (.p 1))) (.cons (.C 6 (.sub (.d 3) (.p 1))) (.cons (.C 7 (.call 83 (.cons (.w .sub (.w .mul (.w .mul (.sub (.d 3) (.p 0)) (.d 6)) (.p 1000)) (.w .mul (.d 5) (.sub (.d 3) (.p 1)))) (.cons (.w .mul (.w .mul (.sub (.d 3) (.p 1)) (.d 6)) (.p 1000)) .nil)))) (.cons (.C 5 (.w .mul (.p 2) (.d 5))) (.cons (.C 6 (.w .mul (.d 6) (.p 1000))) (.cons (.ret (.Y (.comp 10 (.eJ (.cons (.w .add (.d 1) (.p 1)) .nil)) .no (.call 83 (.cons (.w .add (.w .mul (.w .mul (.sub (.d 7) (.p 0)) (.d 6)) (.d 1)) (.w .mul (.w .mul (.d 10) (.d 5)) (.sub (.d 7) (.p 1)))) (.cons (.w .mul (.w .mul (.sub (.d 7) (.p 1)) (.d 6)) (.d 1)) .nil)))))) .nil)))))) .nil) (.cons (.C 8 (.comp 11 (.eJ (.cons (.w .add (.d 1) (.p 1)) .nil)) .no (.call 83 (.cons (.w .add (.w .mul (.w .mul (.sub (.d 3) (.p 0)) (.d 6)) (.d 1)) (.w .mul (.w .mul (.d 11) (.d 5)) (.sub (.d 3) (.p 1)))) (.cons (.w .mul (.w .mul (.sub (.d 3) (.p 1)) (.d 6)) (.d 1)) .nil))))) (.cons (.dx (.v 8) (.p 0) (.call 83 (.cons (.w .sub (.w .mul (.w .mul (.sub (.d 3) (.p 0)) (.d 6)) (.p 1000)) (.w .mul (.d 5) (.sub (.d 3) (.p 1)))) (.cons (.w .mul (.w .mul (.sub (.d 3) (.p 1)) (.d 6)) (.p 1000)) .nil)))) (.cons (.dx (.v 8) (.d 1) (.call 83 (.cons (.w .add (.w .mul (.w .mul (.sub (.d 4) (.p 0)) (.d 6)) (.p 1000)) (.w .mul (.d 5) (.sub (.d 4) (.p 1)))) (.cons (.w .mul (.w .mul (.sub (.d 4) (.p 1)) (.d 6)) (.p 1000)) .nil)))) (.cons (.ret (.d 8)) .nil)))))))
  [.j J,vi m,.j H,.j (ah low),.j (ah top),.y,.y,.y,.y,.y,.y,.y] D c Y X:=by
 have b1:low.1.natAbs<2^5:=by rcases L with h|h<;>(first|exact zl 920200751983464 rfl h.2.2.2|exact zl 379053015251752 rfl C h.1)
 have b2:low.2.natAbs<2^2:=by rcases L with h|h<;>(first|exact zl 0xd5e355420528 rfl h.1 h.2.2.1|exact zl 0x674d8b933b28 rfl C h.1)
 have P:top.1.natAbs<2^5:=by rcases t with h|h<;>(first|exact zl 920200751983464 rfl h.2.2.2|exact zl 379053015251752 rfl u h.1)
 have N:top.2.natAbs<2^2:=by rcases t with h|h<;>(first|exact zl 0xd5e355420528 rfl h.1 h.2.2.1|exact zl 0x674d8b933b28 rfl u h.1)
 have y:m.natAbs<2^6:=zl 0xa242cccd94d25701 rfl m2 M;have B:(1000:Int).natAbs<2^10:=by decide
 have o:(2:Int).natAbs<2^2:=by decide
 have e:(lH:Int)=2^200:=rfl;have W:∀{x:Int}{i:Nat},x.natAbs<2^i→i≤100→x<lH:=λ{x i}h1 h2=>by
  have:=iQ h1 h2;exact zl 0x39d7a6c26822cc773 rfl this
 repeat(refine And.intro (by first|decide|exact bg (by repeat' first|assumption|apply ml|apply zU|apply xK) (by decide)) ?_)
 unfold eF at h;refine ai (ρ:=[.j J,vi m,.j H,.j (ah low),.j (ah top),vi (top.1*low.2-low.1*top.2),vi (top.2*low.2),.y,.y,.y,.y,.y]) (λ_ h=>h) (λq=> ?_) λq=> ?_
 ·rw[if_pos (se q)]at h
  generalize E:(if low.1≠0 then(low.1.natAbs:Int)else 1)=n at h;have Z:n.natAbs<2^5:=by subst E;split<;>(first|exact zl 30037915692659 rfl b1|exact zm 11889607 rfl)
  refine aw (v:=.j (.int n)) (ρ1:=[.j J,vi m,.j H,.j (ah low),.j (ah top),vi (top.1*low.2-low.1*top.2),vi (top.2*low.2),.y,.y,.y,.y,.y]) (λk K=>bx (λ_ h=>h) (λq=> ?_) λq=> ?_) (aq rfl (.inr ⟨_,rfl⟩)) ?_
  ·rw[if_pos (by intro z;rw[z]at q;cases q)]at E;subst E;exact K
  ·rw[if_neg (by intro z;exact z (se (by simpa using q)))]at E;subst E;exact K
  refine aw (λ_ h=>h) (aq rfl (.inr ⟨_,rfl⟩)) ?_;repeat(refine And.intro (by first|decide|exact bg (by repeat' first|assumption|apply ml|apply zU|apply xK) (by decide)) ?_)
  have S:0<low.2*low.2*1000:=by have:=Int.mul_pos C C;exact zl 0xf7afbc6e5d28 rfl this
  refine g.c 83 rfl _ _ _ (bS S (W (ml (ml b2 b2) B) (by decide)) ?_);have T:=Nat.lt_of_le_of_lt (pB S) (xK (ml (ml b1 b2) B) (iQ (ml Z b2) (by decide)));have c2:(rd (low.1*low.2*1000-n*low.2) (low.2*low.2*1000)).2.natAbs<2^14:=by
   have h1:=oy (n:=low.1*low.2*1000-n*low.2) S;have h2:=cn (n:=low.1*low.2*1000-n*low.2) S;have h3:(low.2*low.2*1000).natAbs<2^14:=ml (ml b2 b2) B;exact zl 0x145500f7c30a165e8157916acee rfl h1 h2 h3
  have c3:=cn (n:=low.1*low.2*1000-n*low.2) S;change∀a b ρ,Y (.j (.o ((List.map (λ(i:Nat)=>rd (rT (low.1*low.2*1000-n*low.2) (low.2*low.2*1000)*(low.2*1000)*m+(0+1*(i:Int))*(2*n)*mC (low.1*low.2*1000-n*low.2) (low.2*low.2*1000)) (mC (low.1*low.2*1000-n*low.2) (low.2*low.2*1000)*(low.2*1000)*m)) _).map ah))) (a::b::ρ)at h;change(rT _ _).natAbs<_ at T;change(mC _ _).natAbs<_ at c2;show bH [.j J,vi m,.j H,.j (ah low),.j (ah top),vi n,vi low.2,.y,.y,.y,.y,.y] 7 (.j (ah (rT (low.1*low.2*1000-n*low.2) (low.2*low.2*1000),mC (low.1*low.2*1000-n*low.2) (low.2*low.2*1000)))) _;generalize rT (low.1*low.2*1000-n*low.2) (low.2*low.2*1000)=V at T h;generalize mC (low.1*low.2*1000-n*low.2) (low.2*low.2*1000)=s at c2 c3 h;refine aU (aa rfl) ?_;repeat(refine And.intro (by first|decide|exact bg (by repeat' first|assumption|apply ml|apply zU|apply xK) (by decide)) ?_)
  refine fR ?_;refine fA (ρ:=[.j J,vi m,.j H,.j (ah low),.j (ah top),vi (2*n),vi (low.2*1000),.j (ah (V,s)),.y,.y,.y,.y]) (items:=ao 0 (m+1).toNat 1) (f:=λv=>match v with|.int i=>ah (rd (V*(low.2*1000)*m+i*(2*n)*s) (s*(low.2*1000)*m))|v=>v) ?_ (by have:aA=1000000:=rfl;simp[ao];exact zl 0x19f29f916a5c00e29371d3e rfl M this) (aa rfl) ?_ ?_
  ·intro k K
   refine hI (G:=G) (X:=X) (e:=.w .add (.d 1) (.p 1)) (m:=m+1) ?_ (zl 226112071169 rfl m2) (zl 0x2ba4b852201d3e rfl M) K;exactλ_ h=>h
  ·intro v R k K
   obtain⟨i,I,rfl⟩:=List.mem_map.mp R;have I:=List.mem_range.mp I;have F:(0+1*(i:Int)).natAbs<2^6:=zl 0x638b44bdb0fa5cc3d9cf825d3e rfl M I;generalize(0+1*(i:Int))=U at F K;have Q:=Int.mul_pos (Int.mul_pos c3 (zl 0xf7afbc6e5d28 rfl C)) (zl 179601153 rfl m2);repeat(refine And.intro (by first|decide|exact bg (by repeat' first|assumption|apply ml|apply zU|apply xK) (by decide)) ?_)
   exact g.c 83 rfl _ _ _ (bS Q (W (ml (ml c2 (ml b2 B)) y) (by decide)) (K _ rfl))
  ·have:=h (.j J) (vi m) [.j H,.j (ah low),.j (ah top),vi (2*n),vi (low.2*1000),.j (ah (V,s)),.y,.y,.y,.y]
   rw[List.map_map]at this;unfold ao;rw[List.map_map];exact this
 ·rw[if_neg (Aa q)]at h
  generalize O:top.1*low.2-low.1*top.2=n at h;generalize hd:top.2*low.2=d at h;have Z:n.natAbs<2^8:=by subst O;exact xK (ml P b2) (ml b1 N)
  have F:d.natAbs<2^4:=by subst hd;exact ml N b2
  have A:0<d:=by subst hd;exact Int.mul_pos u C
  refine ae ?_;refine aw (v:=.U (((List.range (m+1).toNat).map λ(i:Nat)=>rd (low.1*d*m+(0+1*(i:Int))*n*low.2) (low.2*d*m)).map ah)) (ρ1:=[.j J,vi m,.j H,.j (ah low),.j (ah top),vi n,vi d,.y,.y,.y,.y,.y]) (λk K=> ?_) (aa rfl) ?_
  ·refine fA (ρ:=[.j J,vi m,.j H,.j (ah low),.j (ah top),vi n,vi d,.y,.y,.y,.y,.y]) (items:=ao 0 (m+1).toNat 1) (f:=λv=>match v with|.int i=>ah (rd (low.1*d*m+i*n*low.2) (low.2*d*m))|v=>v) ?_ (by have:aA=1000000:=rfl;simp[ao];exact zl 0x19f29f916a5c00e29371d3e rfl M this) (aa rfl) ?_ ?_
   ·intro k K
    refine hI (G:=G) (X:=X) (e:=.w .add (.d 1) (.p 1)) (m:=m+1) ?_ (zl 226112071169 rfl m2) (zl 0x2ba4b852201d3e rfl M) K;exactλ_ h=>h
   ·intro v R k K
    obtain⟨i,I,rfl⟩:=List.mem_map.mp R;have I:=List.mem_range.mp I;have r:(0+1*(i:Int)).natAbs<2^6:=zl 0x638b44bdb0fa5cc3d9cf825d3e rfl M I;generalize(0+1*(i:Int))=U at r K;have Q:0<low.2*d*m:=Int.mul_pos (Int.mul_pos C A) (zl 179601153 rfl m2);repeat(refine And.intro (by first|decide|exact bg (by repeat' first|assumption|apply ml|apply zU|apply xK) (by decide)) ?_)
    exact g.c 83 rfl _ _ _ (bS Q (W (ml (ml b2 F) y) (by decide)) (K _ rfl))
   ·rw[List.map_map]at K
    unfold ao;rw[List.map_map];exact K
  have w:0<low.2*d*1000:=Int.mul_pos (Int.mul_pos C A) (zm 11274374 rfl);have p:0<top.2*d*1000:=Int.mul_pos (Int.mul_pos u A) (zm 11274374 rfl);unfold BN at h;have len:((List.range (m+1).toNat).map λ(i:Nat)=>rd (low.1*d*m+(0+1*(i:Int))*n*low.2) (low.2*d*m)).length=(m+1).toNat:=by simp
  generalize((List.range (m+1).toNat).map λ(i:Nat)=>rd (low.1*d*m+(0+1*(i:Int))*n*low.2) (low.2*d*m))=l at h len;refine iy (ρ1:=[.j J,vi m,.j H,.j (ah low),.j (ah top),vi n,vi d,.y,.U (l.map ah),.y,.y,.y]) (l:=l.map ah) (v:=.j (ah (rd (low.1*d*1000-n*low.2) (low.2*d*1000)))) (j:=0) (l':=(l.set 0 (rd (low.1*d*1000-n*low.2) (low.2*d*1000))).map ah) (λk K=> ?_) rfl rfl (kI (m:=0) (by decide) (by rw[len];exact zl 7235504212481 rfl m2)) ?_
  ·repeat(refine And.intro (by first|decide|exact bg (by repeat' first|assumption|apply ml|apply zU|apply xK) (by decide)) ?_)
   exact g.c 83 rfl _ _ _ (bS w (W (ml (ml b2 F) B) (by decide)) K)
  refine iy (ρ1:=[.j J,vi m,.j H,.j (ah low),.j (ah top),vi n,vi d,.y,.U ((l.set 0 (rd (low.1*d*1000-n*low.2) (low.2*d*1000))).map ah),.y,.y,.y]) (l:=(l.set 0 (rd (low.1*d*1000-n*low.2) (low.2*d*1000))).map ah) (v:=.j (ah (rd (top.1*d*1000+n*top.2) (top.2*d*1000)))) (j:=m) (λk K=> ?_) rfl rfl (kI (zl 179570177 rfl m2) (by rw[List.length_set,len];exact zl 57883994313217 rfl m2)) ?_
  ·repeat(refine And.intro (by first|decide|exact bg (by repeat' first|assumption|apply ml|apply zU|apply xK) (by decide)) ?_)
   exact g.c 83 rfl _ _ _ (bS p (W (ml (ml N F) B) (by decide)) K)
  exact h _ _ _
theorem Bj(b)(bs:List Bool):0≤Spec.countIn (.bool b) (bs.map PyData.bool)∧(Spec.countIn (.bool b) (bs.map PyData.bool)≠0↔b∈bs):=by
 induction bs with
 |nil=>exact⟨Int.le_refl _,⟨λh=>absurd rfl h,λh=>by cases h⟩⟩
 |cons c bs I=>
  have e:Spec.countIn (.bool b) ((c::bs).map PyData.bool)=(if Spec.same (.bool c) (.bool b)then 1 else 0)+Spec.countIn (.bool b) (bs.map PyData.bool):=rfl;rw[e];cases b<;>cases c
  ·have:Spec.same (.bool false) (.bool false)=true:=by simp[Spec.same]
   rw[this];simp;exact zl 0x36dbf57e11cf87551d rfl I.1
  ·have:Spec.same (.bool true) (.bool false)=false:=by simp[Spec.same]
   rw[this];simp;simpa using I
  ·have:Spec.same (.bool false) (.bool true)=false:=by simp[Spec.same]
   rw[this];simp;simpa using I
  ·have:Spec.same (.bool true) (.bool true)=true:=by simp[Spec.same]
   rw[this];simp;exact zl 0x36dbf57e11cf87551d rfl I.1
theorem um(b)(bs:List Bool):yc (.bool b) (bs.map V.bool)=some (decide (b∈bs)):=by
 show(match fh (.bool b),bM fh (bs.map V.bool)with|some d,some D=>(match D.all (λy=>SeqAt.noMix y d)with|true=>some (decide (Spec.countIn d D≠0))|false=>.none)|_,_=>.none)=_;rw[(sH λ_ _=>rfl)];show(match(bs.map PyData.bool).all (λy=>SeqAt.noMix y (.bool b))with|true=>some (decide (Spec.countIn (.bool b) (bs.map PyData.bool)≠0))|false=>.none)=_;have E:(bs.map PyData.bool).all (λy=>SeqAt.noMix y (.bool b))=true:=by
  rw[all_eq_true];intro y H;obtain⟨c,_,rfl⟩:=mem_map.mp H;simp[SeqAt.noMix]
 rw[E];rw[decide_eq_decide.mpr (Bj b bs).2]
theorem IK(h:yc x l=some b)(H:k b):oM .nh x (.o l) k:=by
 show(match yc x l with|some b=>k b|.none=>False);rw[h];exact H
theorem Ej(h:yc x l=some b)(H:k (!b)):oM .eH x (.o l) k:=by
 show(match yc x l with|some b=>k (!b)|.none=>False);rw[h];exact H
noncomputable def hJ:It→Bool
|.nu _=>false
|_=>true
noncomputable def DC(xs:List It):List PR:=xs.filterMap λI=>match I with|.nu p=>some p|_=>none
theorem nD:(∀I∈xs,hJ I=false)→xs=(DC xs).map .nu:=by
 induction xs with
 |nil=>exactλ_=>rfl
 |cons x xs H=>
  intro h;have y:=h _ (.head _);cases x with
  |nu p=>exact congrArg (It.nu p:: ·) (H λI i=>h I (.tail _ i))
  |_=>cases y
noncomputable def Cx:List PR→Bool
|a::b::r=>decide (b=a)||Cx (b::r)
|_=>false
theorem kA:Cx l=true↔∃i a,l[i]? =some a∧l[i+1]? =some a:=by
 induction l with
 |nil=>exact⟨λh=>absurd h Bool.false_ne_true,λ⟨i,a,h,_⟩=>by rw[getElem?_nil]at h;cases h⟩
 |cons a l I=>
  cases l with
  |nil=>exact⟨λh=>absurd h Bool.false_ne_true,λ⟨i,c,_,h⟩=>by rw[getElem?_cons_succ,getElem?_nil]at h;cases h⟩
  |cons b r=>
   show(decide (b=a)||Cx (b::r))=true↔_;rw[Bool.or_eq_true,decide_eq_true_iff,I];constructor
   ·rintro(rfl|⟨i,c,h1,h2⟩)
    ·exact⟨0,b,rfl,rfl⟩
    ·exact⟨i+1,c,h1,h2⟩
   ·rintro⟨i,c,h1,h2⟩
    cases i with
    |zero=>exact .inl ((Option.some.inj h2).trans (Option.some.inj h1).symm)
    |succ i=>exact .inr ⟨i,c,h1,h2⟩
noncomputable def brk(xs cut:List It):Str⊕List PR:=if cut=[]∨true∈cut.map hJ then .inl mS else match DC cut with
 |[p]=>GO xs p.1
 |ps=>if Cx (aI ps)=true then .inl mU else .inr (aI ps)
structure iv(cut:List It):Prop where
 ok:∀it∈cut,ik true it
 len:cut.length≤100
 wd:∀p,cut=[.nu p]→p.2=1∧p.1≤40
theorem Iy(h:∀k,k (.j (.int m)) ρ1→ev G e ρ k X)(H:0≤m)(h1:m≤1000)(d:k (ao 1 (m-1).toNat 1) ρ1):qY G (.eJ (.cons (.p 1) (.cons e .nil))) ρ k X:=by
 apply h _;show(match dG [.int 1,.int m]with|some l=>k l ρ1|.none=>False);have e:dG [.int 1,.int m]=some (ao 1 (m-1).toNat 1):=by
  show(match va 1 m with|true=>some (ao 1 (m-1).toNat 1)|false=>.none)=_;have e:va 1 m=true:=by
   unfold va;rw[decide_eq_true (by decide)];exact decide_eq_true (zl 0xafb614444e773f451d rfl H h1)
  rw[e]
 rw[e];exact d
theorem Fc(h:ev G (.comp j I c L) ρ (λr ρ=>G f [.j r.v] (λr _=>k r ρ) X) X):ev G (.call f (.cons (.comp j I c L) .nil)) ρ k X:=h
theorem KJ(h:ev G (.comp j I c L) ρ (λy ρ=>oM .nh (.bool b) y.v λc=>k c ρ) X):tr G (.D (.ag .nh (.cB b) (.comp j I c L))) ρ k X:=h
theorem HN(h:ev G (.comp j I c L) ρ (λy ρ=>oM .eH (.bool b) y.v λc=>k c ρ) X):tr G (.D (.ag .eH (.cB b) (.comp j I c L))) ρ k X:=h
theorem xa(h:ev G (.comp j I c L) ρ (λx ρ=>y0 x.v λv=>k (.j v) ρ) X):ev G (.b1 .len (.comp j I c L)) ρ k X:=h
theorem lC(H:Sub n G)(f:Nat.blt 86 n=true)(i:ik true I)(h:K (.j (.bool (hJ I))) []):G 86 [.j (wv I)] K X:=by
 apply H.c 86 f _ _ _;cases I with
 |na=>exact o7 h
 |lI=>exact mc h
 |nu p=>exact mc (i.1.num.na▸h)
theorem sI(H:∀I∈xs,ik true I)(L:xs.length≤1000)(M:m≤40)(h:EG K (GO xs m)):FF 88 [.j (.o (xs.map wv)),vi m] K X:=by
 refine de 88 rfl rfl rfl λG g=> ?_;unfold GO at h;refine ai (λ_ h=>h) (λq=> ?_) λq=> ?_
 ·rw[if_pos (of_decide_eq_true q)]at h;exact h
 rw[if_neg (of_decide_eq_false q)]at h;apply ae;refine aw (v:=.j (.o ((aI (dq xs)).map ah))) (ρ1:=[.j (.o (xs.map wv)),vi m,.y,.y,.y,.y,.y,.y,.y,.y,.y,.y]) (λk d=> ?_) (aa rfl) ?_
 ·refine Fc (jW (ρ:=[.j (.o (xs.map wv)),vi m,.y,.y,.y,.y,.y,.y,.y,.y,.y,.y]) (λ_ h=>h) (by rw[length_map];exact zl 0x29d4ecdc00e2941515cf rfl L rfl) (aa rfl) t7 (λv=>v) ?_ (λv _ _ k d=>d _ rfl) ?_)
  ·intro v V k d
   obtain⟨I,i,rfl⟩:=mem_map.mp V;refine aT (λk d=>lC g rfl (H I i) d) (λq=> ?_) λq=> ?_
   ·cases I with
    |na=>cases q
    |lI=>cases q
    |nu p=>exact bK (λ_ h=>h) (λq=>by rw[show t7 (wv (.nu p))=true from q]at d;exact d) (λq=>by rw[show t7 (wv (.nu p))=false from q]at d;exact d)
   ·cases I with
    |na=>exact d
    |lI=>exact d
    |nu p=>cases q
  ·rw[E8]
   exact g.c 87 rfl _ _ _ (gO (λp P=>(H _ (cH P).1).1.num) (zl 0x30ed6130561d15cf rfl L (List.length_filterMap_le _ _)) d)
 have s:∀p∈aI (dq xs),Sm p∧0<p.2:=λp P=>by
  have:=(aZ (dq xs)).mem_iff.mp P;exact⟨(H _ (cH this).1).1,(cH this).2⟩
 generalize aI (dq xs)=l at h s;refine ai (λk d=>⟨af rfl,cX (A4 l []) d⟩) (λq=> ?_) λq=> ?_
 ·rw[of_decide_eq_true q]at h;exact h
 have q:=of_decide_eq_false q;cases l with
 |nil=>exact absurd rfl q
 |cons low r=>
  change EG K (.inr (eF low ((low::r).getLast (cons_ne_nil _ _)) m))at h;generalize E:(low::r).getLast (cons_ne_nil _ _)=top at h;have Q:(low::r).getLast? =some top:=E▸List.getLast?_eq_some_getLast _;have h1:=s low (.head _);have h2:=s top (E▸List.getLast_mem _);refine ae (aw (λ_ h=>h) (aa rfl) ?_);refine aw (λk d=>az (gM (by rw[List.getLast?_map,Q];rfl)) d) (aa rfl) ?_;exact Cd g h1.1 h2.1 h1.2 h2.2 (by rename_i Z _;exact zl 21896238601 rfl (dF Z:)) M λa b ρ=>h
theorem kU(x:∀I∈xs,ik true I)(L:xs.length≤1000)(H:iv cut)(h:EG K (brk xs cut)):FF 89 [.j (.o (xs.map wv)),.j (.o (cut.map wv))] K X:=by
 refine fw 89 rfl rfl λG g=> ?_;have Q:aA=1000000:=rfl;have C:=H.len;unfold brk at h;have T:∀{k:Bool→R→Prop}{ρ},k (decide (cut=[])) ρ→oM .eq (.o (cut.map wv)) (.o []) λc=>k c ρ:=by
  intro k ρ B;have hd:∀v∈cut,∃d,fh (wv v)=some d:=λv _=>by cases v<;>exact⟨_,rfl⟩
  have:∃D,bM fh (cut.map wv)=some D∧PyData.eqvAll D []=decide (cut=[]):=by
   clear H h C B;cases cut with
   |nil=>exact⟨[],rfl,rfl⟩
   |cons a l=>
    have:∃D,bM fh (l.map wv)=some D:=by
     clear hd;induction l with
     |nil=>exact⟨[],rfl⟩
     |cons b l W=>
      obtain⟨D,e⟩:=W;have J:∃d,fh (wv b)=some d:=by cases b<;>exact⟨_,rfl⟩
      obtain⟨d,J⟩:=J;exact⟨d::D,by show(match fh (wv b),bM fh (l.map wv)with|some d,some D=>some (d::D)|_,_=>.none)=_;rw[e,J]⟩
    obtain⟨D,e⟩:=this;obtain⟨d,J⟩:=hd a (.head _);refine⟨d::D,by show(match fh (wv a),bM fh (l.map wv)with|some d,some D=>some (d::D)|_,_=>.none)=_;rw[e,J],rfl⟩
  obtain⟨D,E,f⟩:=this;exact cX (tH E rfl) (by rw[f];exact B)
 have t:cut≠[]→true∉cut.map hJ→∀S,ex G (.cons (.iff (.D (.ag .eq (.b1 .len (.d 1)) (.p 1))) (.cons (.ret (.call 88 (.cons (.d 0) (.cons (.w .fdiv (.sub (.sub (.d 1) (.p 0)) (.p 0)) (.sub (.sub (.d 1) (.p 0)) (.p 1))) .nil)))) .nil) .nil) (.cons (.C 2 (.call 87 (.cons (.d 1) .nil))) (.cons (.bU 3 (.eJ (.cons (.p 1) (.cons (.b1 .len (.d 2)) .nil))) (.cons (.iff (.D (.ag .eq (.sub (.d 2) (.d 3)) (.sub (.d 2) (.w .sub (.d 3) (.p 1))))) (.cons (.ret (.M ⟨#[39,98,114,101,97,107,115,39,32,97,114,101,32,110,111,116,32,117,110,105,113,117,101]⟩)) .nil) .nil) .nil)) (.cons (.ret (.d 2)) .nil))))
  [.j (.o (xs.map wv)),.j (.o (cut.map wv)),.y,.y,S] (λρ=>K (.j .none) (bf [.j (.o (xs.map wv)),.j (.o (cut.map wv))] ρ)) (λ_=>False) (λr ρ=>K r (bf [.j (.o (xs.map wv)),.j (.o (cut.map wv))] ρ)) X:=by
  intro y u S;rw[if_neg (by rintro(z|z)<;>first|exact y z|exact u z)]at h;have P:=nD λI M=>by
   cases q:hJ I with
   |false=>rfl
   |true=>exact absurd (mem_map.mpr ⟨I,M,q⟩) u
  have wd:=H.wd;have O:=λp A=>(H.ok (.nu p) (by rw[P];exact List.mem_map.mpr ⟨p,A,rfl⟩)).1.num;have n:(DC cut).length≤100:=by rw[P,length_map]at C;exact C
  generalize DC cut=ps at P h O n;subst P;have U:(ps.map It.nu).map wv=ps.map ah:=by rw[map_map];rfl
  rw[U];refine ai (λ_ h=>h) (λq=> ?_) λq=> ?_
  ·have q:=se q
   rw[length_map]at q;cases ps with
   |nil=>cases q
   |cons p r=>
   cases r with
   |nil=>
    obtain⟨E,f⟩:=wd p rfl;obtain⟨a,b⟩:=p;change b=1 at E;subst E;refine⟨(by decide:(1:Int)≠0),(by decide:(1:Int).natAbs<lH),?_⟩;have Y:a.fdiv 1=a:=Int.fdiv_one a;rw[Y];exact g.c 88 rfl _ _ _ (sI x L f h)
   |cons b r=>exact absurd (Int.ofNat_inj.mp q) (λz=>nomatch Nat.succ.inj z)
  ·have q:=Aa q
   rw[length_map]at q;have hb:EG K (if Cx (aI ps)=true then .inl mU else .inr (aI ps)):=by
    cases ps with
    |nil=>exact h
    |cons p r=>
    cases r with
    |nil=>exact absurd rfl q
    |cons b r=>exact h
   refine ae (aw (λk B=>g.c 87 rfl _ _ _ (gO O (zl 0xa47fbebbb1cf rfl n) B)) (aa rfl) ?_);have sl:(aI ps).length≤100:=by rw[(aZ ps).length_eq];exact n
   generalize aI ps=l at hb sl;refine cQ (items:=ao 1 ((l.length:Int)-1).toNat 1) (λk B=> ?_) (λj ρ=>(∃s,fu s∧ρ=[.j (.o (xs.map wv)),.j (.o (ps.map ah)),.j (.o (l.map ah)),s,S])∧∀i a,i<j→l[i]? =some a→l[i+1]? =some a→False) ⟨⟨.y,.inl rfl,rfl⟩,λi a h=>(zl 665066 rfl h).elim⟩ ?_ ?_
   ·refine Iy (m:=((l.map ah).length:Int)) ?_ (zm 92741 rfl _) (by rw[List.length_map];exact zl 5787793469190607 rfl sl) (by rw[List.length_map];exact B)
    exactλ_ h=>h
   ·rintro j v ρ e ⟨⟨s,h3,rfl⟩,N⟩
    refine⟨aq rfl h3,λt o=> ?_⟩;obtain⟨Z,rfl⟩:j<l.length-1∧v=.int (1+1*(j:Int)):=by
     unfold ao at e;rw[getElem?_map]at e;obtain⟨j',E,rfl⟩:=Option.map_eq_some_iff.mp e;obtain⟨h1,h2⟩:=List.getElem?_eq_some_iff.mp E;simp at h1 h2;subst h2;exact⟨zl 25950140843402 rfl h1,rfl⟩
    have F:l[j]? =some l[j]:=by simp[show j<l.length from zl 23762126218 rfl Z]
    have E:l[j+1]? =some l[j+1]:=by simp[show j+1<l.length from zl 24675297543562 rfl Z]
    generalize l[j]=a at F;generalize l[j+1]=b at E;refine ai (b:=decide (b=a)) (ρ':=[.j (.o (xs.map wv)),.j (.o (ps.map ah)),.j (.o (l.map ah)),vi (1+1*(j:Int)),S]) (λk B=> ?_) (λq=> ?_) λq=> ?_
    ·refine az (cm (zm 97271049733 rfl _) (by rw[show(1+1*(j:Int)).toNat=j+1 from zm 0x43616a5ce6db2 rfl _,getElem?_map,E];rfl)) ?_
     refine az (cm (zm 0x86d4b9cdb0c5 rfl _) (by rw[show(1+1*(j:Int)-1).toNat=j from zm 825547371163762 rfl _,getElem?_map,F];rfl)) ?_;exact cX (congrArg some (wK b a)) B
    ·have q:=of_decide_eq_true q
     subst q;rw[if_pos (kA.mpr ⟨j,b,F,E⟩)]at hb;exact hb
    ·have q:=of_decide_eq_false q
     refine ae (ae (o _ ⟨⟨_,.inr ⟨_,rfl⟩,rfl⟩,λi c M h1 h2=> ?_⟩))
     by_cases z:i=j
     ·subst z;rw[F]at h1;rw[E]at h2;cases h1;cases h2;exact q rfl
     ·exact N i c (zl 0x4f1d2d4a6e3dfa rfl M z) h1 h2
   ·rintro ρ ⟨⟨s,h3,rfl⟩,N⟩
    rw[if_neg]at hb
    ·exact hb
    ·intro z
     obtain⟨i,a,h1,h2⟩:=kA.mp z;have:=(List.getElem?_eq_some_iff.mp h2).1;refine N i a ?_ h1 h2;simp[ao];exact zl 25950139074987 rfl this
 refine ip (d8 (λk B=>⟨af rfl,T B⟩) (λq=> ?_) λq=> ?_)
 ·rw[if_pos (.inl (of_decide_eq_true q))]at h;exact h
 refine gh (b:=decide (true∈cut.map hJ)) (ρ':=[.j (.o (xs.map wv)),.j (.o (cut.map wv)),.y,.y,.y]) (λk B=> ?_) (λq=> ?_) λq=> ?_
 ·refine KJ (fA (λ_ h=>h) (by rw[length_map];exact zl 0x27ab66bdf6b19419da55 rfl Q C) (aa rfl) (λv=>.bool (match v with|.none=>true|.L [.int a,.int b]=>decide (a=0∧b=0)|_=>false)) ?_ ?_)
  ·intro v w k B
   obtain⟨I,M,rfl⟩:=mem_map.mp w;refine lC g rfl (H.ok I M) (B _ ?_);cases I with
   |na=>rfl
   |lI=>rfl
   |nu p=>exact congrArg V.bool (H.ok _ M).1.num.na.symm
  ·have e:(cut.map wv).map (λv=>V.bool (match v with|.none=>true|.L [.int a,.int b]=>decide (a=0∧b=0)|_=>false))=(cut.map hJ).map V.bool:=by
    rw[map_map,map_map];refine map_congr_left λI M=> ?_;cases I with
    |na=>rfl
    |lI=>rfl
    |nu p=>exact congrArg V.bool (H.ok _ M).1.num.na
   rw[e];exact IK (um true _) B
 ·rw[if_pos (.inr (of_decide_eq_true q))]at h;exact h
 ·exact ae (t (of_decide_eq_false ‹_›) (of_decide_eq_false q) _)
structure Tx(n:Nat)(s:Str):Prop where
 len:s.cps.toList.length≤n
 ok:∀c∈s.cps.toList,c<0x110000
theorem Tx.strOk(h:Tx n s):PyData.strOk s=true:=by
 show s.cps.all (·<0x110000)=true;rw[←Array.all_toList,all_eq_true];exactλc H=>decide_eq_true (h.ok c H)
theorem Tx.size(h:Tx n s):s.length≤n:=by
 have:=h.len;rw[Array.length_toList]at this;exact this
theorem Tx.le(h:Tx n s)(l:n≤m):Tx m s:=⟨Nat.le_trans h.len l,h.ok⟩
theorem cV(a b:Str):(a++b).cps.toList=a.cps.toList++b.cps.toList:=by
 show(a.cps++b.cps).toList=_;rw[Array.toList_append]
theorem Tx.add(h1:Tx n a)(h2:Tx m b):Tx (n+m) (a++b):=by
 constructor
 ·rw[cV,List.length_append];have:=h1.len;have:=h2.len;exact zl 0x6375a0833ffc5077 rfl ‹_› this
 ·intro c H
  rw[cV]at H;rcases mem_append.mp H with h|h
  ·exact h1.ok c h
  ·exact h2.ok c h
theorem AN(s):(ofString s).cps.toList=s.toList.map Char.toNat:=by rw[ofString_eq_toList]
theorem E4(c:Char):c.toNat<0x110000:=by
 have h:=c.valid;have e:c.toNat=c.val.toNat:=rfl;rcases h with h|⟨_,h⟩<;>(first|exact zl 0x591512f5af1acd670f6decd rfl e h|exact zl 0xb22a25eb5e11dc1138741ecd rfl e h)
theorem jU(H:0<k)(h:n.natAbs<10^k):Tx (k+1) (aG n):=by
 constructor
 ·show(ofString (toString n)).cps.toList.length≤_
  rw[AN,length_map];exact int_text_length_le10 H h
 ·intro c C
  change c∈(ofString (toString n)).cps.toList at C;rw[AN]at C;obtain⟨K,_,rfl⟩:=mem_map.mp C;exact E4 K
noncomputable def My:Str:=⟨#[73,110,102]⟩
noncomputable def GX:Str:=⟨#[45,73,110,102]⟩
noncomputable def a6(p:PR):Str:=if p.2=0 then(if 0<p.1 then My else GX)else aG p.1
theorem qd(h:aK p):Tx 30 (a6 p):=by
 unfold a6;split
 ·split
  ·exact⟨by decide,by decide⟩
  ·exact⟨by decide,by decide⟩
 ·have e:Jz=2^64:=rfl
  have:=h.h1;exact(jU (by decide) (zl 0xc068978e6a0cc773 rfl this)).le (by decide)
theorem mA(H:aK p)(h:K (.j (.str (a6 p))) []):FF 91 [.j (ah p)] K X:=by
 refine fw 91 rfl rfl λG g=> ?_;unfold a6 at h;refine ai (λ_ h=>h) (λq=> ?_) λq=> ?_
 ·rw[if_pos (se q)]at h
  refine iB (bx (λ_ h=>h) (λq=> ?_) λq=> ?_)
  ·rw[if_pos (of_decide_eq_true q)]at h;exact h
  ·rw[if_neg (of_decide_eq_false q)]at h;exact h
 ·rw[if_neg (Aa q)]at h
  have l:Jz≤lH:=by decide
  exact⟨Nat.lt_of_lt_of_le H.h1 l,h⟩
noncomputable def ny(right closed:Bool)(m:Nat)(i:Nat)(a b:Str):Str:=
 (if right=true∧¬(closed=true∧i=0)then⟨#[40]⟩else⟨#[91]⟩)++a++⟨#[44]⟩++b++(if right=true∨(closed=true∧i+2=m)then⟨#[93]⟩else⟨#[41]⟩)
noncomputable def bG(right closed:Bool)(ts:List Str):List Str:=(range (ts.length-1)).map λi=>ny right closed ts.length i (ts.getD i ⟨#[]⟩) (ts.getD (i+1) ⟨#[]⟩)
theorem bu(c)(h:c<0x110000):Tx 1 ⟨#[c]⟩:=⟨Nat.le_refl _,λx H=>by
 have:x=c:=by simpa using H
 exact zl 0xb22a25eb67adffba400a534a rfl h this⟩
theorem IF(h1:Tx n a)(h2:Tx n b):Tx (2*n+3) (ny right closed m i a b):=by
 unfold ny;have:=((((show Tx 1 (if right=true∧¬(closed=true∧i=0)then⟨#[40]⟩else⟨#[91]⟩)by split<;>exact bu _ (by decide)).add h1).add (bu 44 (by decide))).add h2).add (show Tx 1 (if right=true∨(closed=true∧i+2=m)then⟨#[93]⟩else⟨#[41]⟩)by split<;>exact bu _ (by decide));exact this.le (zm 0x123e95e1bbbbb5ad6e rfl _)
theorem rZ(h1:Tx n a)(h2:Tx m b)(h:Nat.ble (n+m) 100000=true):a.length+b.length≤aA:=Nat.le_trans (add_le_add h1.size h2.size) (Nat.le_trans (le_of_ble_eq_true h) (by decide))
theorem sP{bs:List PR}(hb:∀p∈bs,aK p)(H:bs.length≤100)(h:K (.j (.o ((bG right closed (bs.map a6)).map V.str))) []):FF 92 [.j (.o (bs.map ah)),.j (.bool right),.j (.bool closed)] K X:=by
 refine de 92 rfl rfl rfl λG g=> ?_;have P:aA=1000000:=rfl
 by_cases Z:bs=[]
 ·subst Z
  exact⟨af rfl,h⟩
 have Q:0<bs.length:=List.length_pos_iff.mpr Z;refine aw (λ_ h=>⟨af rfl,h⟩) (aa rfl) ?_;refine cQ (items:=ao 0 ((bs.length:Int)-1).toNat 1) (λk d=> ?_) (λj ρ=>∃B s S,fu B∧fu s∧fu S∧ρ=[.j (.o (bs.map ah)),.j (.bool right),.j (.bool closed),.U (((bG right closed (bs.map a6)).take j).map V.str),B,s,S]) ⟨.y,.y,.y,.inl rfl,.inl rfl,.inl rfl,rfl⟩ ?_ ?_
 ·refine hI (m:=((bs.map ah).length:Int)-1) ?_ (by rw[length_map];exact zl 4379253220425 rfl Q) (by rw[List.length_map];exact zl 0x2db170b3f113b1cf rfl H) (by rw[List.length_map];exact d)
  exactλ_ h=>h
 ·rintro j v ρ e ⟨B,s,S,h4,h5,h6,rfl⟩
  refine⟨aq rfl h4,λf r=> ?_⟩;obtain⟨J,rfl⟩:j+1<bs.length∧v=.int (0+1*j):=by
   unfold ao at e;rw[getElem?_map]at e;obtain⟨N,E,rfl⟩:=Option.map_eq_some_iff.mp e;obtain⟨h1,h2⟩:=List.getElem?_eq_some_iff.mp E;simp at h1 h2;subst h2;exact⟨zl 24675297543562 rfl h1,rfl⟩
  have F:bs[j]? =some bs[j]:=by simp[show j<bs.length from zl 23760357803 rfl J]
  have E:bs[j+1]? =some bs[j+1]:=by simp[J]
  have m0:=hb _ (mem_of_getElem? F);have m1:=hb _ (mem_of_getElem? E);generalize bs[j]=a at F m0;generalize bs[j+1]=b at E m1;have W:(bG right closed (bs.map a6))[j]? =some (ny right closed bs.length j (a6 a) (a6 b)):=by
   unfold bG;rw[getElem?_map,length_map,getElem?_range (by exact zl 25950139074987 rfl J)];simp[F,E,List.getD_eq_getElem?_getD]
  have R:map V.str ((bG right closed (bs.map a6)).take (j+1))=map V.str ((bG right closed (bs.map a6)).take j)++[.str (ny right closed bs.length j (a6 a) (a6 b))]:=by
   rw[take_add_one,W,map_append];rfl
  have lt:(map V.str ((bG right closed (bs.map a6)).take j)).length<aA:=by
   rw[length_map,length_take];exact zl 0x5da4368ac44037c5c00e2926bb1cf rfl H P J
  generalize map V.str ((bG right closed (bs.map a6)).take j)=tk at R lt;rw[R]at r;generalize y:(0+1*(j:Int))=N at r;have I:N=(j:Int):=zl 0x922b4f58fed775 rfl y;subst I;unfold ny at r;refine aw (v:=.j (.str (if right=true∧¬(closed=true∧j=0)then⟨#[40]⟩else⟨#[91]⟩:Str))) (ρ1:=[.j (.o (bs.map ah)),.j (.bool right),.j (.bool closed),.U tk,vi j,s,S]) (λk d=> ?_) (aq rfl h5) ?_
  ·refine bx (c:=decide (right=true∧¬(closed=true∧j=0))) (ρ':=[.j (.o (bs.map ah)),.j (.bool right),.j (.bool closed),.U tk,vi j,s,S]) (λk d=> ?_) (λq=> ?_) λq=> ?_
   ·refine aT (λ_ h=>h) (λq=> ?_) λq=> ?_
    ·subst q
     refine bK (b:= !(decide (closed=true∧j=0))) (ρ':=[.j (.o (bs.map ah)),.j (.bool true),.j (.bool closed),.U tk,vi j,s,S]) (λk d=> ?_) (λq=> ?_) λq=> ?_
     ·refine aT (λ_ h=>h) (λq=> ?_) λq=> ?_
      ·subst q
       refine bK (λ_ h=>h) (λq=> ?_) λq=> ?_
       ·have:j=0:=by have:=of_decide_eq_true q;exact zl 4105157227 rfl (dT q:)
        subst this;exact d
       ·have:j≠0:=by have:=of_decide_eq_false q;exact zl 79768832344735 rfl (dF q:)
        simp[this]at d;exact d
      ·subst q;exact d
     ·have:=of_decide_eq_false ((Bool.not_eq_true' _).mp q)
      rw[decide_eq_true ⟨rfl,this⟩]at d;exact d
     ·have:=of_decide_eq_true ((Bool.not_eq_false' _).mp q)
      rw[decide_eq_false (λz=>z.2 this)]at d;exact d
    ·subst q
     rw[decide_eq_false (λz=>by cases z.1)]at d;exact d
   ·rw[if_pos (of_decide_eq_true q)]at d;exact d
   ·rw[if_neg (of_decide_eq_false q)]at d;exact d
  refine aw (v:=.j (.str (if right=true∨(closed=true∧j+2=bs.length)then⟨#[93]⟩else⟨#[41]⟩:Str))) (ρ1:=[.j (.o (bs.map ah)),.j (.bool right),.j (.bool closed),.U tk,vi j,.j (.str (if right=true∧¬(closed=true∧j=0)then⟨#[40]⟩else⟨#[91]⟩:Str)),S]) (λk d=> ?_) (aq rfl h6) ?_
  ·refine bx (c:=decide (right=true∨(closed=true∧j+2=bs.length))) (ρ':=[.j (.o (bs.map ah)),.j (.bool right),.j (.bool closed),.U tk,vi j,.j (.str (if right=true∧¬(closed=true∧j=0)then⟨#[40]⟩else⟨#[91]⟩:Str)),S]) (λk d=> ?_) (λq=> ?_) λq=> ?_
   ·refine d8 (λ_ h=>h) (λq=> ?_) λq=> ?_
    ·subst q
     rw[decide_eq_true (.inl rfl)]at d;exact d
    ·subst q
     refine aT (λ_ h=>h) (λq=> ?_) λq=> ?_
     ·subst q
      refine bK (λ_ h=>h) (λq=> ?_) λq=> ?_
      ·have:j+2=bs.length:=by have:=of_decide_eq_true q;rw[length_map]at this;exact zl 0x59ee4363934e6b rfl this
       rw[decide_eq_true (.inr ⟨rfl,this⟩)]at d;exact d
      ·have:j+2≠bs.length:=by have:=of_decide_eq_false q;rw[length_map]at this;exact zl 0x16f1f1d0abd7545e9f rfl this
       rw[decide_eq_false (by rintro(z|z);cases z;exact this z.2)]at d;exact d
     ·subst q
      rw[decide_eq_false (by rintro(z|z);cases z;cases z.1)]at d;exact d
   ·rw[if_pos (of_decide_eq_true q)]at d;exact d
   ·rw[if_neg (of_decide_eq_false q)]at d;exact d
  have T:Tx 1 (if right=true∧¬(closed=true∧j=0)then⟨#[40]⟩else⟨#[91]⟩:Str):=by split<;>exact bu _ (by decide)
  have t:Tx 1 (if right=true∨(closed=true∧j+2=bs.length)then⟨#[93]⟩else⟨#[41]⟩:Str):=by split<;>exact bu _ (by decide)
  generalize(if right=true∧¬(closed=true∧j=0)then⟨#[40]⟩else⟨#[91]⟩:Str)=hd at T r;generalize(if right=true∨(closed=true∧j+2=bs.length)then⟨#[93]⟩else⟨#[41]⟩:Str)=tl at t r;have x:=qd m0;have L:=qd m1;refine eY (ρ1:=[.j (.o (bs.map ah)),.j (.bool right),.j (.bool closed),.U tk,vi j,.j (.str hd),.j (.str tl)]) (v:=.j (.str (hd++a6 a++⟨#[44]⟩++a6 b++tl))) rfl (λk d=> ?_) rfl lt ?_
  ·refine az (aC (by rw[getElem?_map,F];rfl)) (g.c 91 rfl _ _ _ (mA m0 ?_))
   refine⟨rZ T x rfl,?_⟩;refine⟨rZ (T.add x) (bu 44 (by decide)) rfl,?_⟩;refine az (cm (zm 141374981 rfl _) (by rw[show((j:Int)+1).toNat=j+1 from zm 1157635061170 rfl _,getElem?_map,E];rfl)) (g.c 91 rfl _ _ _ (mA m1 ?_));refine⟨rZ ((T.add x).add (bu 44 (by decide))) L rfl,?_⟩;exact⟨rZ (((T.add x).add (bu 44 (by decide))).add L) t rfl,d⟩
  ·exact r _ ⟨_,_,_,.inr ⟨_,rfl⟩,.inr ⟨_,rfl⟩,.inr ⟨_,rfl⟩,rfl⟩
 ·rintro ρ ⟨B,s,S,h4,h5,h6,rfl⟩
  have e:(bG right closed (bs.map a6)).take (ao 0 ((bs.length:Int)-1).toNat 1).length=bG right closed (bs.map a6):=by
   refine take_of_length_le ?_;unfold bG ao;simp
  rw[e];exact h
noncomputable abbrev d7(l:List PR):Prop:=l.Pairwise λp q=>aM p q<0
theorem Bm{bs:List PR}(h:bs.Pairwise (λa b=>P b=true→P a=true)):∀i b,bs[i]? =some b→(P b=true↔i<(bs.filter P).length):=by
 induction bs with
 |nil=>intro i b e;simp at e
 |cons a l I=>
  intro i b e;obtain⟨h1,h2⟩:=pairwise_cons.mp h;rw[filter_cons];cases q:P a with
  |true=>
   rw[if_pos rfl,length_cons];cases i with
   |zero=>
    have:a=b:=by simpa using e
    subst this;exact⟨λ_=>succ_pos _,λ_=>q⟩
   |succ i=>
    have:=I h2 i b (by simpa using e);rw[this];exact zm 25949080030597 rfl ..
  |false=>
   have no:∀c∈a::l,P c=false:=λc H=>by
    rcases mem_cons.mp H with rfl|H
    ·exact q
    ·cases z:P c with
     |false=>rfl
     |true=>rw[h1 c H z]at q;cases q
   rw[if_neg (by decide)];have E:l.filter P=[]:=List.filter_eq_nil_iff.mpr λc H=>by rw[no c (.tail _ H)];decide
   rw[E,no b (mem_of_getElem? e)];simp
noncomputable def under(right:Bool)(x:PR)(b:PR):Bool:=decide (aM b x<(if right=true then 0 else 1))
noncomputable def DB(bs:List PR)(right closed:Bool)(x:PR):V:=if closed=true∧right=true∧bs.head? =some x then .int 1 else if closed=true∧right=false∧bs.getLast? =some x then .int (bs.length-1)else
 if 1≤(bs.filter (under right x)).length∧(bs.filter (under right x)).length<bs.length then .int ((bs.filter (under right x)).length)else .none
noncomputable def iO(bs:List PR)(right closed:Bool):It→V
|.nu x=>DB bs right closed x
|_=>.none
theorem Ph(H:∀k,k (.j (.int i)) ρ→ev G a ρ k X)(hb:∀k,k (.j (.int j)) ρ→ev G b ρ k X)(C:∀k,k (.j (.int n)) ρ→ev G c ρ k X)(h:k (decide (i≤j)&&decide (j<n)) ρ):tr G (.D (.mZ .le .lt a b c)) ρ k X:=by
 refine H _ (hb _ ?_);cases q:decide (i≤j)with
 |false=>
  rw[q]at h;show(match decide (i≤j)with|true=>_|false=>k false ρ);rw[q];exact h
 |true=>
  rw[q]at h;show(match decide (i≤j)with|true=>_|false=>k false ρ);rw[q];exact C _ h
theorem BS(p q):vz (ah p) (ah q)=some (decide (p=q)):=congrArg some (wK p q)
theorem w8(H:ik true I)(hb:∀p∈bs,aK p)(L:bs.length≤100)(h1:bs≠[])(h:K (.j (iO bs right closed I)) []):FF 90 [.j (wv I),.j (.o (bs.map ah)),.j (.bool right),.j (.bool closed)] K X:=by
 refine fw 90 rfl rfl λG g=> ?_;have P:aA=1000000:=rfl;refine ai (λk d=>lC g rfl H d) (λq=> ?_) λq=> ?_
 ·cases I with
  |nu p=>cases q
  |na=>exact h
  |lI=>exact h
 cases I with
 |na=>cases q
 |lI=>cases q
 |nu x=>
  change K (.j (DB bs right closed x)) []at h;unfold DB at h;have p3:¬(closed=true∧right=true∧bs.head? =some x)→¬(closed=true∧right=false∧bs.getLast? =some x)→∀S,fu S→ex G (.cons (.C 4 (.b1 .len (.comp 5 (.D (.d 1)) (.D (.D (.ag .lt (.call 85 (.cons (.d 5) (.cons (.d 0) .nil))) (.ite (.D (.d 2)) (.p 0) (.p 1))))) (.d 5)))) (.cons (.ret (.ite (.D (.mZ .le .lt (.p 1) (.d 4) (.b1 .len (.d 1)))) (.d 4) .X)) .nil))
   [.j (ah x),.j (.o (bs.map ah)),.j (.bool right),.j (.bool closed),.y,S] (λρ=>K (.j .none) (bf [.j (ah x),.j (.o (bs.map ah)),.j (.bool right),.j (.bool closed)] ρ)) (λ_=>False) (λr ρ=>K r (bf [.j (ah x),.j (.o (bs.map ah)),.j (.bool right),.j (.bool closed)] ρ)) X:=by
   intro N n S h5;rw[if_neg N,if_neg n]at h;refine aw (v:=.j (.int (bs.filter (under right x)).length)) (ρ1:=[.j (ah x),.j (.o (bs.map ah)),.j (.bool right),.j (.bool closed),.y,.y]) (λk d=> ?_) (aa rfl) ?_
   ·refine xa (jW (λ_ h=>h) (by rw[length_map];exact zl 0x29d4ecdc00e2926bb1cf rfl L P) (aq rfl h5) (λv=>match v with|.L [.int a,.int b]=>under right x (a,b)|_=>false) (λv=>v) ?_ (λv _ _ k d=>d _ rfl) ?_)
    ·intro v R k d
     obtain⟨b,m,rfl⟩:=mem_map.mp R;refine g.c 85 rfl _ _ _ (iP (hb b m) H.1.num ?_);refine bx (λ_ h=>h) (λq=> ?_) λq=> ?_
     ·subst q;exact d
     ·subst q;exact d
    ·have e:(((bs.map ah).filter λv=>match v with|.L [.int a,.int b]=>under right x (a,b)|_=>false).map λv=>v).length=(bs.filter (under right x)).length:=by
      rw[length_map,filter_map,length_map];rfl
     show k (.j (.int (((_:List V).length:Nat):Int))) _;rw[e];exact d
   ·generalize(bs.filter (under right x)).length=u at h
    refine iB (bx (λk=>Ph (λ_ h=>h) (λ_ h=>h) (λ_ h=>h)) (λq=> ?_) λq=> ?_)
    ·rw[Bool.and_eq_true]at q
     have A:=of_decide_eq_true q.2;rw[length_map]at A;rw[if_pos ⟨zl 2979672559 rfl (dT q.1:),zl 23760048736 rfl A⟩]at h;exact h
    ·rw[if_neg]at h
     ·exact h
     ·intro z
      rw[Bool.and_eq_false_iff]at q;rcases q with q|q
      ·have:=of_decide_eq_false q;exact zl 81407309282096 rfl z.1 (dF q:)
      ·have:=of_decide_eq_false q;rw[length_map]at this;exact zl 408187517994306 rfl z.2 this
  obtain⟨B,t,W⟩:∃B t,bs=B::t:=by cases bs with|nil=>exact absurd rfl h1|cons a l=>exact⟨a,l,rfl⟩
  have M:bs.head? =some B:=by rw[W];rfl
  have T:(bs.map ah)[0]? =some (ah B):=by rw[W];rfl
  obtain⟨bl,E⟩:∃bl,bs.getLast? =some bl:=⟨_,getLast?_eq_some_getLast h1⟩;have J:(bs.map ah).getLast? =some (ah bl):=by rw[getLast?_map,E];rfl
  have p2:¬(closed=true∧right=true∧bs.head? =some x)→ex G (.cons (.iff (.Q (.cons (.D (.d 3)) (.cons (.fO (.D (.d 2))) (.cons (.D (.ag .eq (.d 0) (.sub (.d 1) (.neg (.p 1))))) .nil)))) (.cons (.ret (.w .sub (.b1 .len (.d 1)) (.p 1))) .nil) .nil) (.cons (.C 4 (.b1 .len (.comp 5 (.D (.d 1)) (.D (.D (.ag .lt (.call 85 (.cons (.d 5) (.cons (.d 0) .nil))) (.ite (.D (.d 2)) (.p 0) (.p 1))))) (.d 5)))) (.cons (.ret (.ite (.D (.mZ .le .lt (.p 1) (.d 4) (.b1 .len (.d 1)))) (.d 4) .X)) .nil)))
   [.j (ah x),.j (.o (bs.map ah)),.j (.bool right),.j (.bool closed),.y,.y] (λρ=>K (.j .none) (bf [.j (ah x),.j (.o (bs.map ah)),.j (.bool right),.j (.bool closed)] ρ)) (λ_=>False) (λr ρ=>K r (bf [.j (ah x),.j (.o (bs.map ah)),.j (.bool right),.j (.bool closed)] ρ)) X:=by
   intro N;refine ip (aT (λ_ h=>h) (λq=> ?_) λq=>ae (p3 N (by rintro⟨z,_⟩;rw[q]at z;cases z) _ (.inl rfl)));refine aT (λ_ h=>h) (λQ=> ?_) λQ=>ae (p3 N (by rintro⟨_,z,_⟩;rw[z]at Q;cases Q) _ (.inl rfl));refine bK (λk d=>az (gM J) (cX (BS x bl) d)) (λC=> ?_) λC=>ae (p3 N (by rintro⟨_,_,z⟩;rw[E]at z;cases z;exact of_decide_eq_false C rfl) _ (.inl rfl));rw[if_neg N,if_pos ⟨q,by simpa using Q,by rw[E,of_decide_eq_true C]⟩]at h;show K (.j (.int (((bs.map ah).length:Nat)-1))) _;rw[length_map];exact h
  refine ae (ip (aT (λ_ h=>h) (λq=> ?_) λq=>ae (p2 (by rintro⟨z,_⟩;rw[q]at z;cases z))));refine aT (λ_ h=>h) (λQ=> ?_) λQ=>ae (p2 (by rintro⟨_,z,_⟩;rw[Q]at z;cases z));refine bK (λk d=>az (aC T) (cX (BS x B) d)) (λC=> ?_) λC=>ae (p2 (by rintro⟨_,_,z⟩;rw[M]at z;cases z;exact of_decide_eq_false C rfl));rw[if_pos ⟨q,Q,by rw[M,of_decide_eq_true C]⟩]at h;exact h
theorem kz(h1:∀k,k b1 ρ→tr G e ρ k X)(h2:b1=true→∀k,k b2 ρ→tr G (.Q es) ρ k X):∀k,k (b1&&b2) ρ→tr G (.Q (.cons e es)) ρ k X:=λk H=>aT h1 (λq=>h2 q k (by rw[q]at H;exact H)) λq=>by rw[q]at H;exact H
theorem pf(h1:∀k,k b1 ρ→tr G e ρ k X):∀k,k b1 ρ→tr G (.Q (.cons e .nil)) ρ k X:=λk H=>bK h1 (λq=>by rw[q]at H;exact H) λq=>by rw[q]at H;exact H
theorem DY(h1:∀k,k b1 ρ→tr G e ρ k X)(h2:b1=false→∀k,k b2 ρ→tr G (.cL es) ρ k X):∀k,k (b1||b2) ρ→tr G (.cL (.cons e es)) ρ k X:=λk H=>d8 h1 (λq=>by rw[q]at H;exact H) λq=>h2 q k (by rw[q]at H;exact H)
theorem yF(h1:∀k,k b1 ρ→tr G e ρ k X):∀k,k b1 ρ→tr G (.cL (.cons e .nil)) ρ k X:=λk H=>gh h1 (λq=>by rw[q]at H;exact H) λq=>by rw[q]at H;exact H
theorem kY(H:aK p)(Q:aK q)(y:aK r)(h1:aM p q<0)(h2:aM q r≤0):aM p r<0:=by
 by_cases z:aM p r=0
 ·have:=(iE H y).mp z
  have e:=Prod.ext this.1 this.2;subst e;rw[bQ]at h2;exact zl 732959217076169 rfl h1 h2
 ·exact zl 807360907463358 rfl (cU H Q y (zl 215359689 rfl h1) h2) z
noncomputable def ic(right closed:Bool)(n j:Nat)(lo H:Int):Prop:=(right=true∧(0<lo∨(closed=true∧j=0∧lo=0))∧H≤0)∨(right=false∧0≤lo∧(H<0∨(closed=true∧j+2=n∧H=0)))
theorem gA(hb:∀p∈bs,aK p)(H:d7 bs){i j:Nat}(h:i<j)(g:bs[i]? =some a)(f:bs[j]? =some b):aM a b<0:=by
 obtain⟨h1,rfl⟩:=List.getElem?_eq_some_iff.mp g;obtain⟨h2,rfl⟩:=List.getElem?_eq_some_iff.mp f;exact pairwise_iff_getElem.mp H i j h1 h2 h
theorem jc(H:aK x)(hb:∀p∈bs,aK p)(D:d7 bs)(e:bs[i]? =some b):(aM b x<(if right=true then 0 else 1)↔i<(bs.filter (under right x)).length):=by
 rw[←Bm ?_ i b e]
 ·exact(decide_eq_true_iff).symm
 ·refine Pairwise.imp_of_mem ?_ D
  intro p q P Q h z;have z:=of_decide_eq_true z;apply decide_eq_true;have:=cU (hb p P) (hb q Q) H (zl 215359689 rfl h)
  by_cases r:right=true
  ·rw[if_pos r]at z⊢;exact kY (hb p P) (hb q Q) H h (zl 215359689 rfl z)
  ·rw[if_neg r]at z⊢;have:=this (zl 215361625 rfl z);exact zl 0x9eb40665190f059 rfl z ‹_›
theorem zW(H:aK x)(hb:∀p∈bs,aK p)(D:d7 bs)(g:bs[j]? =some a)(f:bs[j+1]? =some b)(h:ic right closed bs.length j (aM x a) (aM x b)):DB bs right closed x=.int (j+1):=by
 have u1:=jc (right:=right) H hb D g;have U:=jc (right:=right) H hb D f;have s:=bQ x a;have S:=bQ x b;have L:=(List.getElem?_eq_some_iff.mp f).1;unfold DB;rcases h with⟨rfl,h1,h2⟩|⟨rfl,h1,h2⟩
 ·rw[if_pos rfl]at u1 U
  rcases h1 with h1|⟨rfl,rfl,h1⟩
  ·have E:(bs.filter (under true x)).length=j+1:=zl 0xb15b59972780d861563667995c9cb844bb8f3b7a2f5424 rfl s S u1 U h2 h1
   rw[if_neg,if_neg,E,if_pos ⟨zm 4416030 rfl _,L⟩]
   ·rfl
   ·rintro⟨_,z,_⟩;cases z
   ·rintro⟨_,_,z⟩
    have z:bs[0]? =some x:=List.head?_eq_getElem? ▸z
    by_cases q:j=0
    ·subst q;rw[g]at z;cases z;rw[cJ]at h1;exact zl 1298952 rfl h1
    ·have:=gA hb D (zl 11191634317 rfl q) z g;exact zl 31154702376 rfl h1 this
  ·have:x=a:=by
    have:=(iE H (hb a (mem_of_getElem? g))).mp h1;exact Prod.ext this.1 this.2
   subst this;rw[if_pos ⟨rfl,rfl,List.head?_eq_getElem? ▸g⟩];rfl
 ·rw[if_neg (by decide)]at u1 U
  rw[if_neg (by rintro⟨_,z,_⟩;cases z)];have G:bs.getLast? =bs[bs.length-1]? :=getLast?_eq_getElem?;rcases h2 with h2|⟨rfl,h3,h2⟩
  ·have E:(bs.filter (under false x)).length=j+1:=zl 0xb15b59972e9dfecd49734bf8ad40857786ba73da2f5424 rfl s S u1 U h1 h2
   rw[if_neg,E,if_pos ⟨zm 4416030 rfl _,L⟩]
   ·rfl
   ·rintro⟨_,_,z⟩
    rw[G]at z
    by_cases q:j+1=bs.length-1
    ·rw[q]at f;rw[f]at z;cases z;rw[cJ]at h2;exact zl 1298952 rfl h2
    ·have:=gA hb D (zl 0x545d23fb19cf6beca03e49ab rfl L q) f z;exact zl 0x532e7b66142c24 rfl S h2 this
  ·have:x=b:=by
    have:=(iE H (hb b (mem_of_getElem? f))).mp h2;exact Prod.ext this.1 this.2
   subst this;rw[if_pos ⟨rfl,rfl,by rw[G,show bs.length-1=j+1 from zl 0x5e3d6021dd3bb6 rfl h3];exact f⟩];congr 1;exact zl 0x17903d28695523bb6 rfl h3
theorem Cn(Q:aK x)(hb:∀p∈bs,aK p)(H:d7 bs)(h2:2≤bs.length)(h:∀j a b,bs[j]? =some a→bs[j+1]? =some b→¬ic right closed bs.length j (aM x a) (aM x b)):DB bs right closed x=.none:=by
 have gt:∀{i:Nat},i<bs.length→∃a,bs[i]? =some a:=λ{i}I=>⟨bs[i],by simp[I]⟩;unfold DB;rw[if_neg,if_neg,if_neg]
 ·rintro⟨Z,B⟩
  obtain⟨a,E⟩:=gt (i:=(bs.filter (under right x)).length-1) (zl 24097138434 rfl B);obtain⟨b,f⟩:=gt (i:=(bs.filter (under right x)).length-1+1) (zl 0xa9cc7fd2caa7a30 rfl Z B);have u1:=jc (right:=right) Q hb H E;have U:=jc (right:=right) Q hb H f;have S:=bQ x a;have s:=bQ x b;apply h _ a b E f;cases right
  ·rw[if_neg (by decide)]at u1 U
   exact .inr ⟨rfl,zl 0x4c05444de46627e28a9424 rfl S Z u1,.inl (zl 0x2899aa410283754b26424 rfl s U)⟩
  ·rw[if_pos rfl]at u1 U
   exact .inl ⟨rfl,.inl (zl 0x4c05aa84bed97b010a9424 rfl S Z u1),zl 0x28997430b08361a24e424 rfl s U⟩
 ·rintro⟨rfl,rfl,z⟩
  rw[getLast?_eq_getElem?]at z;obtain⟨a,E⟩:=gt (i:=bs.length-2) (zl 23988962850 rfl h2);have:=gA hb H (zl 35024216426018 rfl h2) E z;refine h (bs.length-2) a x E ((show bs.length-2+1=bs.length-1 from zl 0x7f6aba671ab922 rfl h2)▸z) (.inr ⟨rfl,zl 0xa3585d2d3cc9 rfl this (bQ x a),.inr ⟨rfl,zl 24616590031138 rfl h2,cJ x⟩⟩)
 ·rintro⟨rfl,rfl,z⟩
  rw[head?_eq_getElem?]at z;obtain⟨b,f⟩:=gt (i:=1) (zl 93147170 rfl h2);have:=gA hb H (zm 6153 rfl) z f;exact h 0 x b z f (.inl ⟨rfl,.inr ⟨rfl,rfl,cJ x⟩,zl 215359689 rfl this⟩)
noncomputable def JP:V→It
|.L [.int a,.int b]=>if a=0∧b=0 then .lI else .nu (a,b)
|_=>.na
theorem rX(h:ik true I):JP (wv I)=I:=by
 cases I with
 |na=>rfl
 |lI=>show(if 0=0∧0=0 then It.lI else .nu (0,0))=_;rw[if_pos ⟨rfl,rfl⟩]
 |nu p=>
  show(if p.1=0∧p.2=0 then It.lI else .nu (p.1,p.2))=_;rw[if_neg (of_decide_eq_false h.1.num.na)]
theorem wV{Y:Type}{xs:List It}(H:∀I∈xs,ik true I)(f:It→Y):(xs.map wv).map (λv=>f (JP v))=xs.map f:=by
 rw[List.map_map];exact List.map_congr_left λI i=>congrArg f (rX (H I i))
theorem ji(H:Sub n G)(f:Nat.blt 65 n=true)(i:ik true I)(h:K (.j (.bool (hJ I))) []):G 65 [.j (wv I)] K X:=by
 apply H.c 65 f _ _ _;cases I with
 |na=>exact w9 h
 |lI=>exact sE h
 |nu p=>exact sE (i.1.num.na▸h)
theorem nr(H:ik true I)(hb:∀p∈bs,aK p)(D:d7 bs)(L:bs.length≤100)(h2:2≤bs.length)(h:K (.j (iO bs right closed I)) []):FF 69 [.j (wv I),.j (.o (bs.map ah)),.j (.bool right),.j (.bool closed)] K X:=by
 refine de 69 rfl rfl rfl λG g=> ?_;have C:aA=1000000:=rfl;refine ai (λk R=>ji g rfl H R) (λq=> ?_) λq=> ?_
 ·cases I with
  |nu p=>cases q
  |na=>exact h
  |lI=>exact h
 cases I with
 |na=>cases q
 |lI=>cases q
 |nu x=>
  have V:=H.1.num;change K (.j (DB bs right closed x)) []at h;refine ae (aw (λ_ h=>h) (aa rfl) ?_);refine cQ (items:=ao 0 ((bs.length:Int)-1).toNat 1) (λk R=> ?_) (λj ρ=>∃S s W,fu S∧fu s∧fu W∧ρ=[.j (ah x),.j (.o (bs.map ah)),.j (.bool right),.j (.bool closed),vi (((bs.map ah).length:Nat)-1),S,s,W]∧∀i a b,i<j→bs[i]? =some a→bs[i+1]? =some b→¬ic right closed bs.length i (aM x a) (aM x b)) ⟨.y,.y,.y,.inl rfl,.inl rfl,.inl rfl,rfl,λi a b h=>(zl 665066 rfl h).elim⟩ ?_ ?_
  ·refine hI (m:=((bs.map ah).length:Int)-1) ?_ (by rw[List.length_map];exact zl 4379253220898 rfl h2) (by rw[List.length_map];exact zl 0x2db170b3f113b1cf rfl L) (by rw[List.length_map];exact R)
   exactλ_ h=>h
  ·rintro j v ρ e ⟨S,s,W,h5,h6,t,rfl,n⟩
   refine⟨aq rfl h5,λB r=> ?_⟩;obtain⟨N,rfl⟩:j+1<bs.length∧v=.int (0+1*(j:Int)):=by
    unfold ao at e;rw[getElem?_map]at e;obtain⟨u,E,rfl⟩:=Option.map_eq_some_iff.mp e;obtain⟨h1,h2⟩:=List.getElem?_eq_some_iff.mp E;simp at h1 h2;subst h2;exact⟨zl 24675297543562 rfl h1,rfl⟩
   have J:bs[j]? =some bs[j]:=by simp[show j<bs.length from zl 23760357803 rfl N]
   have E:bs[j+1]? =some bs[j+1]:=by simp[N]
   have m0:=hb _ (mem_of_getElem? J);have m1:=hb _ (mem_of_getElem? E);generalize bs[j]=a at J m0;generalize bs[j+1]=b at E m1;generalize y:(0+1*(j:Int))=u at r;have U:u=(j:Int):=zl 0x922b4f58fed775 rfl y;subst U;have Y:=λz=>by
    rw[zW V hb D J E z]at h;exact h
   have no:¬ic right closed bs.length j (aM x a) (aM x b)→B [.j (ah x),.j (.o (bs.map ah)),.j (.bool right),.j (.bool closed),vi (((bs.map ah).length:Nat)-1),vi j,vi (aM x a),vi (aM x b)]:=λz=>r _ ⟨_,_,_,.inr ⟨_,rfl⟩,.inr ⟨_,rfl⟩,.inr ⟨_,rfl⟩,rfl,λi c d H h1 h2=>by
    by_cases q:i=j
    ·subst q;rw[J]at h1;rw[E]at h2;cases h1;cases h2;exact z
    ·exact n i c d (zl 0x4f1d2d4a6e3dfa rfl H q) h1 h2⟩
   refine aw (v:=.j (.int (aM x a))) (λk R=>az (aC (by rw[getElem?_map,J];rfl)) (g.c 14 rfl _ _ _ (cT V m0 R))) (aq rfl h6) ?_;refine aw (v:=.j (.int (aM x b))) (λk R=>az (cm (zm 141374981 rfl _) (by rw[show((j:Int)+1).toNat=j+1 from zm 1157635061170 rfl _,getElem?_map,E];rfl)) (g.c 14 rfl _ _ _ (cT V m1 R))) (aq rfl t) ?_;generalize aM x a=lo at Y no;generalize aM x b=O at Y no;have M:((bs.map ah).length:Int)=bs.length:=by rw[length_map]
   unfold ic at Y no;refine ai (b:=right&&((decide (0<lo)||(closed&&(decide ((j:Int)=0)&&decide (lo=0))))&&decide (O≤0))) (kz (λ_ h=>h) λ_=>kz (DY (λ_ h=>h) λ_=>yF (kz (λ_ h=>h) λ_=>kz (λ_ h=>h) λ_=>pf (λ_ h=>h))) λ_=>pf (λ_ h=>h)) (λq=> ?_) λq=> ?_
   ·refine Y (.inl ?_)
    simp only[Bool.and_eq_true,Bool.or_eq_true,decide_eq_true_iff]at q;refine⟨q.1,?_,q.2.2⟩;rcases q.2.1 with z|⟨P,Z,F⟩
    ·exact .inl z
    ·exact .inr ⟨P,zl 4105157227 rfl Z,F⟩
   ·apply ae
    refine ai (b:=(!right)&&(decide (0≤lo)&&(decide (O<0)||(closed&&(decide ((j:Int)=((bs.map ah).length:Nat)-1-1)&&decide (O=0)))))) (kz (λ_ h=>h) λ_=>kz (λ_ h=>h) λ_=>pf (DY (λ_ h=>h) λ_=>yF (kz (λ_ h=>h) λ_=>kz (λ_ h=>h) λ_=>pf (λ_ h=>h)))) (λQ=> ?_) λQ=> ?_
    ·refine Y (.inr ?_)
     simp only[Bool.and_eq_true,Bool.or_eq_true,decide_eq_true_iff,Bool.not_eq_true']at Q;refine⟨Q.1,Q.2.1,?_⟩;rcases Q.2.2 with z|⟨P,Z,F⟩
     ·exact .inl z
     ·exact .inr ⟨P,zl 0x20bf9500e57db982934926b rfl M Z,F⟩
    ·refine ae (ae (no ?_))
     rintro(⟨P,Z,F⟩|⟨P,Z,F⟩)
     ·rw[P,decide_eq_true F]at q
      rcases Z with Z|⟨Z,T,A⟩
      ·rw[decide_eq_true Z]at q;cases q
      ·rw[Z,decide_eq_true (show(j:Int)=0 from zl 4102197237 rfl T),decide_eq_true A]at q
       simp at q
     ·rw[P,decide_eq_true Z]at Q
      rcases F with F|⟨F,T,A⟩
      ·rw[decide_eq_true F]at Q;cases Q
      ·rw[F,decide_eq_true (show(j:Int)=((bs.map ah).length:Nat)-1-1 from zl 0x214b0b66f89b746d1a7926b rfl M T),decide_eq_true A]at Q
       simp at Q
  ·rintro ρ ⟨S,s,W,h5,h6,t,rfl,n⟩
   rw[Cn V hb D h2 λj a b E f=>n j a b (by
    have:=(List.getElem?_eq_some_iff.mp f).1;simp[ao];exact zl 25950139074987 rfl this) E f]at h
   exact h
theorem tX{xs:List It}(H:∀I∈xs,ik true I)(d:xs.length≤1000)(hb:∀p∈bs,aK p)(D:d7 bs)(L:bs.length≤100)(h2:2≤bs.length)(h:K (.j (.o (xs.map (iO bs right closed)))) []):FF 70 [.j (.o (xs.map wv)),.j (.o (bs.map ah)),.j (.bool right),.j (.bool closed)] K X:=by
 refine de 70 rfl rfl rfl λG g=> ?_;have S:aA=1000000:=rfl;refine iB (fR (fA (λ_ h=>h) (by rw[length_map];exact zl 0x29d4ecdc00e2941515cf rfl d S) (aa rfl) (λv=>iO bs right closed (JP v)) ?_ ?_))
 ·intro v V k R
  obtain⟨I,i,rfl⟩:=mem_map.mp V;refine g.c 69 rfl _ _ _ (nr (H I i) hb D L h2 (R _ ?_));rw[rX (H I i)];rfl
 ·rw[wV H]
  exact h
noncomputable def xD:List Nat→Bool
|[]=>true
|c::r=>match blt c 0x110000 with
 |true=>xD r
 |false=>false
noncomputable def ku(s:Str):Bool:=xD s.cps.toList
theorem CJ{l}(h:xD l=true):∀c∈l,c<0x110000:=by
 induction l with
 |nil=>exactλc H=>by cases H
 |cons d r I=>
  intro c H;have h':(match Nat.blt d 0x110000 with|true=>xD r|false=>false)=true:=h;cases q:blt d 0x110000 with
  |false=>rw[q]at h';cases h'
  |true=>
   rw[q]at h';rcases mem_cons.mp H with rfl|H
   ·exact le_of_ble_eq_true q
   ·exact I h' c H
theorem eV(h:ku s=true):PyData.strOk s=true:=Tx.strOk ⟨Nat.le_refl _,CJ h⟩
theorem nU(H:PyData.strOk a=true)(hb:PyData.strOk b=true):vz (.str a) (.str b)=some (ax a b):=by
 show(match(match PyData.strOk a with|true=>some (PyData.str a)|false=>.none),(match PyData.strOk b with|true=>some (PyData.str b)|false=>.none)with|some a,some b=>some (PyData.eqv a b)|_,_=>.none)=_;rw[H,hb];show some (PyData.eqv (.str a) (.str b))=_;rw[x7];congr 1;cases q:ax a b with
 |true=>exact decide_eq_true (aD.mp q)
 |false=>exact decide_eq_false λz=>by rw[aD.mpr z]at q;cases q
theorem Dw(H:ku a=true)(hb:ku b=true)(d:k (ax a b)):oM .eq (.str a) (.str b) k:=cX (nU (eV H) (eV hb)) d
theorem Q8(H:ku a=true)(hb:ku b=true)(d:k (!ax a b)):oM .ne (.str a) (.str b) k:=gV (nU (eV H) (eV hb)) d
theorem u6(g:ku a=true)(f:ku b=true)(h1:∀k,k (.j (.str a)) ρ→ev G C ρ k X)(h2:∀k,k (.j (.str b)) ρ→ev G H ρ k X)(d:k (!ax a b) ρ):tr G (.D (.ag .ne C H)) ρ k X:=h1 _ (h2 _ (Q8 g f d))
theorem ko(g:ku a=true)(f:ku b=true)(h1:∀k,k (.j (.str a)) ρ→ev G C ρ k X)(h2:∀k,k (.j (.str b)) ρ→ev G H ρ k X)(d:k (ax a b) ρ):tr G (.D (.ag .eq C H)) ρ k X:=h1 _ (h2 _ (Dw g f d))
theorem EE(s)(ss:List Str):0≤Spec.countIn (.str s) (ss.map PyData.str)∧(Spec.countIn (.str s) (ss.map PyData.str)≠0↔ss.any (ax s)=true):=by
 induction ss with
 |nil=>exact⟨Int.le_refl _,⟨λh=>absurd rfl h,λh=>by cases h⟩⟩
 |cons c bs I=>
  have e:Spec.countIn (.str s) ((c::bs).map PyData.str)=(if Spec.same (.str c) (.str s)then 1 else 0)+Spec.countIn (.str s) (bs.map PyData.str):=rfl;have E:Spec.same (.str c) (.str s)=ax s c:=by
   simp only[Spec.same];cases q:ax s c with
   |true=>have:=aD.mp q;subst this;simp
   |false=>
    have:c≠s:=λz=>by rw[z,aD.mpr rfl]at q;cases q
    simp[this]
  rw[e,E,any_cons];cases q:ax s c with
  |true=>simp;exact zl 0x36dbf57e11cf87551d rfl I.1
  |false=>simp;simpa using I
theorem yC{ss:List Str}(H:PyData.strOk s=true)(I:∀x∈ss,PyData.strOk x=true):yc (.str s) (ss.map V.str)=some (ss.any (ax s)):=by
 have E:∀{x:Str},PyData.strOk x=true→fh (.str x)=some (.str x):=λ{x}h=>by
  show(match PyData.strOk x with|true=>some (PyData.str x)|false=>.none)=_;rw[h]
 show(match fh (.str s),bM fh (ss.map V.str)with|some d,some D=>(match D.all (λy=>SeqAt.noMix y d)with|true=>some (decide (Spec.countIn d D≠0))|false=>.none)|_,_=>.none)=_;rw[(sH λx X=>E (I x X)),E H];show(match(ss.map PyData.str).all (λy=>SeqAt.noMix y (.str s))with|true=>some (decide (Spec.countIn (.str s) (ss.map PyData.str)≠0))|false=>.none)=_;have j:(ss.map PyData.str).all (λy=>SeqAt.noMix y (.str s))=true:=by
  rw[all_eq_true];intro y Y;obtain⟨c,_,rfl⟩:=mem_map.mp Y;simp[SeqAt.noMix]
 rw[j];apply congrArg some;rw[Bool.eq_iff_iff,decide_eq_true_iff];exact(EE s ss).2
theorem GU{ss:List Str}(H:ku s=true)(I:ss.all ku=true)(d:k (ss.any (ax s))):oM .nh (.str s) (.L (ss.map V.str)) k:=by
 show(match yc (.str s) (ss.map V.str)with|some b=>k b|.none=>False);rw[yC (eV H) λx X=>eV (all_eq_true.mp I x X)];exact d
theorem Ck{ss:List Str}(H:ku s=true)(I:ss.all ku=true)(d:k (!ss.any (ax s))):oM .eH (.str s) (.L (ss.map V.str)) k:=by
 show(match yc (.str s) (ss.map V.str)with|some b=>k (!b)|.none=>False);rw[yC (eV H) λx X=>eV (all_eq_true.mp I x X)];exact d
noncomputable def aS:Str:=⟨#[105,110,116,101,103,101,114]⟩
noncomputable def aW:Str:=⟨#[100,111,117,98,108,101]⟩
noncomputable def bJ:Str:=⟨#[99,104,97,114,97,99,116,101,114]⟩
noncomputable def eE:Str:=⟨#[108,111,103,105,99,97,108]⟩
noncomputable def xJ:Str:=⟨#[108,101,118,101,108,115]⟩
noncomputable def Ir:Str:=⟨#[99,108,97,115,115]⟩
noncomputable def IM(s:Str)(i a:V):List (Nat×FK):=[(0,.j (.str s)),(1,.j i),(2,.j a),(3,.j (.bool false)),(4,.j (.bool false))]
noncomputable def gC(s:Str)(i a:V):V:=.dn 0 [(0,.str s),(1,i),(2,a),(3,.bool false),(4,.bool false)]
theorem dc(h:K (.j .none) [.bi 0 (IM s i a)]):FF 27 [.bi 0 [],.j (.str s),.j i,.j a] K X:=by
 refine fw 27 rfl rfl λG H=> ?_;exact h
theorem IC(H:n≤1000000)(h:K (.j (.int n)) []):FF 28 [vi n] K X:=by
 refine fw 28 rfl rfl λG g=> ?_;exact ai (λ_ h=>h) (λq=>absurd (of_decide_eq_true q) (zl 0x72cf15801c2c9d9419da1e rfl H)) λ_=>h
theorem jj(h:K (.oi 0 (IM aS (.o l) .none)) []):FF 29 [.j (.o l)] K X:=by
 refine fw 29 rfl rfl λG H=> ?_;exact H.c 27 rfl _ _ _ (dc h)
theorem CZ(h:K (.j (gC aW (.o l) .none)) []):FF 30 [.j (.o l)] K X:=by
 refine fw 30 rfl rfl λG H=> ?_;exact H.c 27 rfl _ _ _ (dc h)
theorem iL(h:K (.j (gC bJ (.o l) .none)) []):FF 31 [.j (.o l)] K X:=by
 refine fw 31 rfl rfl λG H=> ?_;exact H.c 27 rfl _ _ _ (dc h)
noncomputable def Nk(b:Bool):Int:=match b with
 |true=>1
 |false=>0
noncomputable abbrev bc(b:Bool):V:=gC eE (.o [.int (Nk b)]) .none
theorem ou(h:K (.j (bc b)) []):FF 32 [.j (.bool b)] K X:=by
 refine de 32 rfl rfl rfl λG H=> ?_;refine ai (b:=false) (λ_ h=>h) (λq=>by cases q) λ_=> ?_;cases b
 ·exact⟨af rfl,H.c 27 rfl _ _ _ (dc h)⟩
 ·exact⟨af rfl,H.c 27 rfl _ _ _ (dc h)⟩
theorem kP(H:ku s=true)(f:ax s ⟨#[78,85,76,76]⟩=false)(h:K (.j (.int l.length)) []):FF 33 [.j (gC s (.o l) a)] K X:=by
 refine de 33 rfl rfl rfl λG g=> ?_;refine aw (λ_ h=>h) (aa rfl) ?_;refine ai (λ_ h=>Dw H rfl h) (λq=>by rw[f]at q;cases q) λ_=> ?_;exact h
theorem dU(H:ku s=true)(f:[eE,aS,aW,bJ].any (ax s)=true)(h:K (.j (.bool true)) []):FF 34 [.j (gC s i a)] K X:=by
 refine fw 34 rfl rfl λG g=> ?_;exact⟨af rfl,GU (ss:=[eE,aS,aW,bJ]) H rfl (f▸h)⟩
theorem j7(h:K (.j .none) []):FF 35 [.j (gC s i .none),.j (.str n)] K X:=by
 refine fw 35 rfl rfl λG H=> ?_;exact h
theorem rH(h:K (.j ((a8 n d).getD .none)) []):FF 35 [.j (gC s i (.lJ d)),.j (.str n)] K X:=by
 refine fw 35 rfl rfl λG H=> ?_;exact h
theorem sG(h:K (.j (.str t)) []):FF 36 [.j (.str bJ),.j (.str t)] K X:=by
 refine fw 36 rfl rfl λG H=> ?_;exact Dw rfl rfl h
theorem jN{ts:List Str}(H:ts.length≤1000)(h:K (.j (.o (ts.map V.str))) []):FF 37 [.j (gC bJ (.o (ts.map V.str)) .none)] K X:=by
 refine de 37 rfl rfl rfl λG g=> ?_;have L:aA=1000000:=rfl;refine aw (λ_ h=>g.c 35 rfl _ _ _ (j7 h)) (aa rfl) ?_;refine ai (λ_ h=>h) (λq=>by cases q) λ_=>ae (iB (fR ?_));refine fA (ρ:=[.j (gC bJ (.o (ts.map V.str)) .none),.j .none,.y,.y]) (λ_ h=>h) (by rw[length_map];exact zl 0x29d4ecdc00e2941515cf rfl H L) (aa rfl) (λv=>v) ?_ ?_
 ·intro v R k d
  obtain⟨t,_,rfl⟩:=mem_map.mp R;exact g.c 36 rfl _ _ _ (sG (d _ rfl))
 ·rw[map_id'];exact h
theorem Ba(h:K (.j .none) []):FF 38 [.j (gC s i .none)] K X:=by
 refine fw 38 rfl rfl λG H=> ?_;exact H.c 35 rfl _ _ _ (j7 h)
theorem vK(h:K (.j .none) []):FF 39 [.j (gC aW i .none)] K X:=by
 refine de 39 rfl rfl rfl λG H=> ?_;apply Dw rfl rfl;apply Dw rfl rfl;refine H.c 38 rfl _ _ _ (Ba ?_);exact H.c 35 rfl _ _ _ (j7 h)
theorem sy(h:K (.j (.int (Nk b))) []):FF 40 [.j (.str eE),vi (Nk b)] K X:=by
 refine de 40 rfl rfl rfl λG H=> ?_;apply Dw rfl rfl;apply Dw rfl rfl;cases b<;>exact h
theorem rR(h:K (.j v) []):FF 41 [.j v,.j .none] K X:=by
 refine fw 41 rfl rfl λG H=> ?_;exact h
theorem fU(h:K (.j (gC aW (.o l) .none)) []):FF 42 [.j (gC aW (.o l) .none),.j (.str aW),.j n] K X:=by
 refine de 42 rfl rfl rfl λG H=> ?_;refine ai (b:=false) (λ_ h=>h) (λq=>by cases q) λ_=>ae (aw (λ_ h=>h) (aa rfl) ?_);refine ai (b:=false) (λk d=>u6 rfl rfl (λ_ h=>h) (λ_ h=>h) d) (λq=>by cases q) λ_=>ae ?_;refine H.c 27 rfl _ _ _ (dc ?_);refine H.c 39 rfl _ _ _ (vK ?_);exact H.c 41 rfl _ _ _ (rR h)
theorem ug(h:K (.j (.bool b)) []):FF 43 [.j (bc b)] K X:=by
 refine de 43 rfl rfl rfl λG H=> ?_;refine H.c 33 rfl _ _ _ (kP rfl rfl ?_);refine H.c 34 rfl _ _ _ (dU rfl rfl ?_);refine H.c 40 rfl _ _ _ (sy ?_);cases b<;>exact h
theorem sL(h:K (.j d) []):FF 44 [.j .none,.j d] K X:=by
 refine fw 44 rfl rfl λG H=> ?_;exact h
theorem rE(h:K (.j (.bool b)) []):FF 44 [.j (bc b),.j d] K X:=by
 refine fw 44 rfl rfl λG H=> ?_;exact H.c 43 rfl _ _ _ (ug h)
theorem tY(h:K (.j (gC s i a)) []):FF 53 [.j (gC s i a),.j (.str n)] K X:=by
 refine fw 53 rfl rfl λG H=> ?_;exact h
noncomputable def eX{Y J:Type}(p:Y→Bool)(step:J→Y→Option J):List Y→J→Option J
|[],s=>some s
|a::r,s=>match p a with
 |true=>some s
 |false=>match step s a with
  |some t=>eX p step r t
  |.none=>.none
theorem Ec{p:Y→Bool}{step:J→Y→Option J}{L:J→R→Prop}{U:J}
 (xs)(m)(ρ)(H:∀s a d ρ,a∈xs→p a=false→step s a=some d→L s ρ→bp ρ i∧∀t:R→Prop,(∀ρ',L d ρ'→t ρ')→ex G b (ρ.set i (.j (g a))) t t f X)
  (j:∀a ρ,p a=true→L U ρ→bp ρ i∧∀t:R→Prop,ex G b (ρ.set i (.j (g a))) t t f X)(a9:∀ρ,L U ρ→x ρ)(I:L m ρ)(y:eX p step xs m=some U):
  (xs.map g).foldr (λv t ρ=>bH ρ i (.j v) λρ=>ex G b ρ t t f X) x ρ:=by
 rw[foldr_map];refine Au (λl ρ=>∃s,L s ρ∧eX p step l s=some U) (λρ⟨s,h,e⟩=>a9 ρ (Option.some.inj e▸h)) (λa A l ρ⟨s,h,e⟩t r=> ?_) ρ ⟨m,I,y⟩;change(match p a with|true=>some s|false=>match step s a with|some d=>eX p step l d|.none=>.none)=some U at e;cases q:p a with
 |true=>
  rw[q]at e;have h':=j a ρ q (Option.some.inj e▸h);exact aU h'.1 (h'.2 _)
 |false=>
  rw[q]at e;change(match step s a with|some d=>eX p step l d|.none=>.none)=some U at e;cases Q:step s a with
  |none=>rw[Q]at e;cases e
  |some d=>
   rw[Q]at e;have h':=H s a d ρ A q Q h;exact aU h'.1 (h'.2 _ λρ' z=>r ρ' ⟨d,z,e⟩)
theorem sO(I:∀k,k (xs.map g) ρ→qY G y ρ k X)(p:Y→Bool)(step)(L:J→R→Prop)(j:eX p step xs d=some U)(O:L d ρ)
 (D:∀s a H ρ,a∈xs→p a=false→step s a=some H→L s ρ→bp ρ i∧∀t:R→Prop,(∀ρ',L H ρ'→t ρ')→ex G b (ρ.set i (.j (g a))) t t f X)
 (m:∀a ρ,p a=true→L U ρ→bp ρ i∧∀t:R→Prop,ex G b (ρ.set i (.j (g a))) t t f X)
 (a9:∀ρ,L U ρ→ex G r ρ x C f X):ex G (.cons (.bU i y b) r) ρ x C f X:=I _ (Ec xs d ρ D m a9 O j)
noncomputable def jS:Str:=⟨#[46,46,46]⟩
noncomputable def mY:Option Str→V
|some s=>.str s
|.none=>.none
noncomputable def MS(o:List Str)(g:List (Option Str))(U:List Int)(d:List (Str×V)):List (Nat×FK):=[(5,.j (.o (o.map V.str))),(6,.j (.o (g.map mY))),(7,.U (iV U)),(8,.od d)]
noncomputable def yL:Option Str→Str→Bool
|some t,name=>ax t name
|.none,_=>false
noncomputable abbrev Jx:=List Int×List (Str×V)
noncomputable def wy(g:List (Option Str))(name:Str)(st:Jx)(p:Nat):Option Jx:=match g[p]? with
 |.none=>.none
 |some t=>match yL t name with
  |false=>some st
  |true=>match st.1[p]? with
   |.none=>.none
   |some i=>match decide (i=0)with
    |false=>some st
    |true=>match(a8 name st.2).isSome,blt st.2.length 1000 with
     |false,true=>some (st.1.set p 2,fJ name (.int p) st.2)
     |_,_=>.none
noncomputable def tC(g:List (Option Str))(st:Jx)(name:Str):Option Jx:=match ax name jS with
 |true=>some st
 |false=>eX (λ_=>false) (wy g name) (range g.length) st
noncomputable def u9:Option Str→Bool
|some s=>ku s
|.none=>true
theorem ze:ao 0 n 1=(range n).map λ(j:Nat)=>V.int j:=by
 unfold ao;refine map_congr_left λj _=> ?_;exact congrArg V.int (by show 0+1*(j:Int)=j;exact zm 776670703789 rfl _)
theorem tS(s):PyData.eqv .none (.str s)=false:=by simp[PyData.eqv]
theorem xG(C:u9 t=true)(H:ku n=true):vz (mY t) (.str n)=some (yL t n):=by
 cases t with
 |some s=>exact nU (eV C) (eV H)
 |none=>
  show(match some PyData.none,(match PyData.strOk n with|true=>some (PyData.str n)|false=>.none)with|some a,some b=>some (PyData.eqv a b)|_,_=>.none)=_;rw[eV H];exact congrArg some (tS n)
theorem Cv(d:ρ[0]? =some (.bi 1 (MS o g U D)))(L:g.length≤100)(H:k ((List.range g.length).map λ(j:Nat)=>V.int (j:Int)) ρ):qY G (.eJ (.cons (.jZ (.f 0 6)) .nil)) ρ k X:=by
 refine hI (m:=((g.map mY).length:Nat)) (λk H=> ?_) (zm 92741 rfl _) (by rw[List.length_map];exact zl 0xb6c51adc3b1cf rfl L) (by rw[length_map,Int.toNat_natCast,ze];exact H);show(match(ρ[0]?).bind d5 with|some F=>_|.none=>False);rw[d];exact H
theorem Fe(H:g.length≤100)(C:g.all u9=true)(O:o.all ku=true)(x:eX (λ_=>false) (tC g) o (U,d)=some (us',fd'))(h:K (.j .none) [.bi 1 (MS o g us' fd')]):FF 46 [.bi 1 (MS o g U d)] K X:=by
 refine fw 46 rfl rfl λG Y=> ?_;refine sO (λ_ h=>h) (λ_=>false) (tC g) (λst ρ=>∃s S,fu s∧fu S∧ρ=[.bi 1 (MS o g st.1 st.2),s,S]) x ⟨.y,.y,.inl rfl,.inl rfl,rfl⟩ ?_ (λa ρ q=>by cases q) ?_
 ·rintro⟨u,f⟩ name ⟨V,F⟩ ρ m _ st ⟨s,S,h1,h2,rfl⟩
  refine⟨aq rfl h1,λT r=> ?_⟩;have n:=all_eq_true.mp O name m;have P:(match ax name jS with|true=>some (u,f)|false=>eX (λ_=>false) (wy g name) (List.range g.length) (u,f))=some (V,F):=st;refine ai (λk R=>u6 (b:=jS) n rfl (λ_ h=>h) (λ_ h=>h) R) (λq=> ?_) λq=> ?_
  ·rw[(Bool.not_eq_true' _).mp q]at P
   refine sO (λk=>Cv rfl H) (λ_=>false) (wy g name) (λst ρ=>∃S,fu S∧ρ=[.bi 1 (MS o g st.1 st.2),.j (.str name),S]) P ⟨S,h2,rfl⟩ ?_ (λa ρ q=>by cases q) ?_
   ·rintro⟨u,f⟩ p ⟨V,F⟩ ρ M _ st ⟨S,h2,rfl⟩
    refine⟨aq rfl h2,λT r=> ?_⟩;have M:=mem_range.mp M;have J:g[p]? =some g[p]:=by simp[M]
    have W:=all_eq_true.mp C _ (getElem_mem M);have st:(match g[p]? with|.none=>.none|some t=>match yL t name with|false=>some (u,f)|true=>match u[p]? with|.none=>.none|some i=>match decide (i=0)with|false=>some (u,f)|true=>match(a8 name f).isSome,Nat.blt f.length 1000 with|false,true=>some (u.set p 2,fJ name (.int p) f)|_,_=>.none)=some (V,F):=st;rw[J]at st;generalize g[p]=t at J W st;change(match yL t name with|false=>some (u,f)|true=>match u[p]? with|.none=>.none|some i=>match decide (i=0)with|false=>some (u,f)|true=>match(a8 name f).isSome,blt f.length 1000 with|false,true=>some (u.set p 2,fJ name (.int p) f)|_,_=>.none)=some (V,F)at st;refine ip (aT (λk R=>az (aC (by rw[getElem?_map,J];rfl)) (cX (xG W n) R)) (λq=> ?_) λq=> ?_)
    ·rw[q]at st
     change(match u[p]? with|.none=>.none|some i=>match decide (i=0)with|false=>some (u,f)|true=>match(a8 name f).isSome,blt f.length 1000 with|false,true=>some (u.set p 2,fJ name (.int p) f)|_,_=>.none)=some (V,F)at st;cases E:u[p]? with
     |none=>rw[E]at st;cases st
     |some i=>
      rw[E]at st;change(match decide (i=0)with|false=>some (u,f)|true=>match(a8 name f).isSome,blt f.length 1000 with|false,true=>some (u.set p 2,fJ name (.int p) f)|_,_=>.none)=some (V,F)at st;refine bK (b:=decide (i=0)) (λk R=>az (v:=.int i) (aC (by unfold iV;rw[getElem?_map,E];rfl)) R) (λq=> ?_) λq=> ?_
      ·rw[q]at st
       change(match(a8 name f).isSome,blt f.length 1000 with|false,true=>some (u.set p 2,fJ name (.int p) f)|_,_=>.none)=some (V,F)at st;cases j:(a8 name f).isSome with
       |true=>rw[j]at st;cases st
       |false=>
        cases N:blt f.length 1000 with
        |false=>rw[j,N]at st;cases st
        |true=>
         rw[j,N]at st;cases st;refine ai (λ_ h=>h) (λq=>by rw[j]at q;cases q) λ_=>ae ?_;show(match decide (f.length<aA)with|true=>_|false=>False);rw[decide_eq_true (Nat.lt_of_lt_of_le (Nat.le_of_ble_eq_true N) (by decide))];show(match eZ (iV u) (p:Int) (.int 2)with|some l'=>_|.none=>False);have L:p<(iV u).length:=by unfold iV;rw[length_map];exact(List.getElem?_eq_some_iff.mp E).1
         rw[eB L];have D:(iV u).set p (.int 2)=iV (u.set p 2):=by unfold iV;rw[map_set]
         rw[D];exact r _ ⟨_,.inr ⟨_,rfl⟩,rfl⟩
      ·rw[q]at st
       cases st;exact ae (ae (r _ ⟨_,.inr ⟨_,rfl⟩,rfl⟩))
    ·rw[q]at st
     cases st;exact ae (ae (r _ ⟨_,.inr ⟨_,rfl⟩,rfl⟩))
   ·rintro ρ ⟨S,h2,rfl⟩
    exact ae (r _ ⟨_,_,.inr ⟨_,rfl⟩,h2,rfl⟩)
  ·rw[(Bool.not_eq_false' _).mp q]at P
   cases P;exact ae (ae (r _ ⟨_,_,.inr ⟨_,rfl⟩,h2,rfl⟩))
 ·rintro ρ ⟨s,S,h1,h2,rfl⟩
  exact h
noncomputable def uO:Option Str→Bool
|some s=>ax s ⟨#[]⟩
|.none=>true
noncomputable def yx(g:List (Option Str))(U:List Int):Bool:=(range g.length).all λp=>match g[p]?,U[p]? with
 |some t,some i=>decide (i=2)||uO t
 |_,_=>false
noncomputable def lU(g:List (Option Str))(U:List Int)(p:Nat):Bool:=match g[p]?,U[p]? with
 |some t,some i=>decide (i=0)&&uO t
 |_,_=>false
noncomputable def qy(g:List (Option Str))(U:List Int):Nat→Nat→Nat
|0,p=>p
|k+1,p=>match blt p g.length&& !lU g U p with
 |true=>qy g U k (p+1)
 |false=>p
noncomputable def nG(g:List (Option Str))(st:Nat×Jx)(name:Str):Option (Nat×Jx):=match(a8 name st.2.2).isSome with
 |true=>some st
 |false=>match blt (qy g st.2.1 g.length st.1) g.length with
  |false=>some (qy g st.2.1 g.length st.1,st.2)
  |true=>match blt st.2.2.length 1000 with
   |true=>some (qy g st.2.1 g.length st.1,st.2.1.set (qy g st.2.1 g.length st.1) 2,fJ name (.int (qy g st.2.1 g.length st.1)) st.2.2)
   |false=>.none
noncomputable def tU(U:List Int)(p:Nat):Bool:=match U[p]? with
 |some i=>decide (i=0)
 |.none=>false
noncomputable def yS(g:List (Option Str))(U:List Int):List Nat:=(range g.length).filter (tU U)
noncomputable def CA(as:List (Option Str×V))(d:List (Str×V))(vals:List V)(name:Str):Option (List V):=match blt vals.length 1000 with
 |false=>.none
 |true=>match ax name jS with
  |true=>some (vals++[.o []])
  |false=>match a8 name d with
   |.none=>some (vals++[.none])
   |some (.int p)=>match decide (0≤p),as[p.toNat]? with
    |true,some a=>some (vals++[a.2])
    |_,_=>.none
   |some _=>.none
noncomputable abbrev aX(a:Option Str×V):V:=.L [mY a.1,a.2]
theorem HT(h:ev G e ρ k X):ev G (.Q (.cons e .nil)) ρ k X:=h
theorem tf{g:List (Option Str)}{p:Nat}(e:g[p]? =some t)(h:k (mY t)):rM (.o (g.map mY)) (.int p) k:=az (aC (by rw[getElem?_map,e];rfl)) h
theorem Dg{p:Nat}(e:U[p]? =some i)(h:k (.int i)):rM (.o (iV U)) (.int p) k:=az (aC (by unfold iV;rw[getElem?_map,e];rfl)) h
theorem tN(H:g.length≤100)(C:g.all u9=true)(u:yx g U=true)(h:K (.j .none) [.bi 1 (MS o g U d)]):FF 47 [.bi 1 (MS o g U d),.j nm] K X:=by
 refine fw 47 rfl rfl λG O=> ?_;refine cQ (λk=>Cv rfl H) (λj ρ=>∃S Q,fu S∧fu Q∧ρ=[.bi 1 (MS o g U d),.j nm,S,Q]) ⟨.y,.y,.inl rfl,.inl rfl,rfl⟩ ?_ ?_
 ·rintro j v ρ e ⟨S,Q,h2,h3,rfl⟩
  refine⟨aq rfl h2,λT r=> ?_⟩;rw[getElem?_map]at e;obtain⟨p,Y,rfl⟩:=Option.map_eq_some_iff.mp e;have M:=all_eq_true.mp u p (mem_of_getElem? Y);cases E:g[p]? with
  |none=>rw[E]at M;cases M
  |some t=>
   cases N:U[p]? with
   |none=>rw[E,N]at M;cases M
   |some i=>
    rw[E,N]at M;change(decide (i=2)||uO t)=true at M;refine aw (λk R=>tf E R) (aq rfl h3) ?_;refine ip (aT (b:= !decide (i=2)) (λk R=>Dg N R) (λq=> ?_) λq=> ?_)
    ·rw[(Bool.not_eq_true' _).mp q]at M
     cases t with
     |none=>exact aT (λ_ h=>h) (λq=>by cases q) λ_=>ae (ae (r _ ⟨_,_,.inr ⟨_,rfl⟩,.inr ⟨_,rfl⟩,rfl⟩))
     |some s=>
      refine aT (λ_ h=>h) (λ_=> ?_) (λq=>by cases q);refine aT (λk R=>u6 (List.all_eq_true.mp C _ (List.mem_of_getElem? E)) rfl (λ_ h=>h) (λ_ h=>h) R) (λq=> ?_) λq=> ?_
      ·have z:ax s ⟨#[]⟩=true:=M
       rw[z]at q;cases q
      ·exact ae (ae (r _ ⟨_,_,.inr ⟨_,rfl⟩,.inr ⟨_,rfl⟩,rfl⟩))
    ·exact ae (ae (r _ ⟨_,_,.inr ⟨_,rfl⟩,.inr ⟨_,rfl⟩,rfl⟩))
 ·rintro ρ ⟨S,Q,h2,h3,rfl⟩
  exact h
theorem zT(H:g.length≤100)(t:g.all u9=true)(O:o.all ku=true)(p:yx g U=true)(h:K (.j .none) [.bi 1 (MS o g U d)]):FF 48 [.bi 1 (MS o g U d)] K X:=by
 refine fw 48 rfl rfl λG T=> ?_;refine cQ (λ_ h=>h) (λj ρ=>∃S,fu S∧ρ=[.bi 1 (MS o g U d),S]) ⟨.y,.inl rfl,rfl⟩ ?_ ?_
 ·rintro j v ρ e ⟨S,h1,rfl⟩
  refine⟨aq rfl h1,λV r=> ?_⟩;rw[getElem?_map]at e;obtain⟨name,E,rfl⟩:=Option.map_eq_some_iff.mp e;refine ai (λk R=>ko (List.all_eq_true.mp O name (List.mem_of_getElem? E)) rfl (λ_ h=>h) (λ_ h=>h) R) (λq=>h) λq=> ?_;refine ae (ai (λ_ h=>h) (λq=> ?_) λq=> ?_)
  ·exact T.c 47 rfl _ _ _ (tN H t p (r _ ⟨_,.inr ⟨_,rfl⟩,rfl⟩))
  ·exact ae (ae (r _ ⟨_,.inr ⟨_,rfl⟩,rfl⟩))
 ·rintro ρ ⟨S,h1,rfl⟩
  exact h
theorem Af{p:Nat}(g:f[p]? =some t)(j:U[p]? =some i)(H:u9 t=true)(h:K (.j (.bool (decide (i=0)&&uO t))) [.bi 1 (MS o f U d)]):FF 49 [.bi 1 (MS o f U d),vi p] K X:=by
 refine fw 49 rfl rfl λG O=> ?_;refine yU (b:=decide (i=0)) (λk R=>Dg j R) (λq=> ?_) λq=> ?_
 ·rw[q]at h
  cases t with
  |none=>exact tf g h
  |some s=>
   refine HT (OH (b:=false) (ρ':=[.bi 1 (MS o f U d),vi p]) (λk R=>tf g R) (λq=>by cases q) λ_=> ?_);exact tf g (cX (xG H rfl) h)
 ·rw[q]at h;exact h
theorem sS(L:g.length≤100)(H:U.length=g.length)(C:g.all u9=true)(O:o.all ku=true)(x:eX (λname=>ax name jS) (nG g) o (0,U,d)=some (pe,us',fd'))(h:us'.length=g.length→K (.j .none) [.bi 1 (MS o g us' fd')]):FF 50 [.bi 1 (MS o g U d)] K X:=by
 refine fw 50 rfl rfl λG N=> ?_;refine aw (λ_ h=>h) (aa rfl) ?_;refine sO (λ_ h=>h) (λname=>ax name jS) (nG g) (λst ρ=>st.2.1.length=g.length∧∃S,fu S∧ρ=[.bi 1 (MS o g st.2.1 st.2.2),vi (st.1:Nat),S]) x ⟨H,.y,.inl rfl,rfl⟩ ?_ ?_ ?_
 ·rintro⟨p,u,f⟩ name ⟨P,V,Z⟩ ρ A hd st ⟨F,S,h2,rfl⟩
  refine⟨aq rfl h2,λT m=> ?_⟩;change u.length=g.length at F;have n:=all_eq_true.mp O name A;have st:(match(a8 name f).isSome with|true=>some (p,u,f)|false=>match Nat.blt (qy g u g.length p) g.length with|false=>some (qy g u g.length p,u,f)|true=>match Nat.blt f.length 1000 with|true=>some (qy g u g.length p,u.set (qy g u g.length p) 2,fJ name (.int (qy g u g.length p)) f)|false=>.none)=some (P,V,Z):=st;refine ai (λk B=>ko (b:=jS) n rfl (λ_ h=>h) (λ_ h=>h) B) (λq=>by rw[hd]at q;cases q) λ_=> ?_;refine ae (ai (λ_ h=>h) (λq=> ?_) λq=> ?_)
  ·rw[(Bool.not_eq_true' _).mp q]at st
   change(match blt (qy g u g.length p) g.length with|false=>some (qy g u g.length p,u,f)|true=>match blt f.length 1000 with|true=>some (qy g u g.length p,u.set (qy g u g.length p) 2,fJ name (.int (qy g u g.length p)) f)|false=>.none)=some (P,V,Z)at st;generalize w:qy g u g.length p=a at st;refine jJ (λρ=>∃k c,g.length≤k+c∧qy g u k c=a∧ρ=[.bi 1 (MS o g u f),vi (c:Nat),.j (.str name)]) (λρ=>match ρ with|[_,.j (.int c),_]=>g.length-c.toNat|_=>0) ⟨g.length,p,zm 766043 rfl _ _,w,rfl⟩ ?_;rintro ρ ⟨k,c,B,e,rfl⟩ ih v;have D:∀{k:Bool→R→Prop}{ρ:R},k (decide ((c:Int)<g.length)) ρ→k (decide ((c:Int)<((g.map mY).length:Nat))) ρ:=λh=>by rw[List.length_map];exact h
   have done:a=c→ex G (.cons (.iff (.D (.ag .lt (.d 1) (.jZ (.f 0 6)))) (.cons (.dx (.f 0 8) (.d 2) (.d 1)) (.cons (.dx (.f 0 7) (.d 1) (.p 2)) .nil)) .nil) .nil) [.bi 1 (MS o g u f),vi (c:Nat),.j (.str name)] (λρ=>ex G .nil ρ T T (λr ρ=>K r (bf [.bi 1 (MS o g U d)] ρ)) X) T (λr ρ=>K r (bf [.bi 1 (MS o g U d)] ρ)) X:=by
    intro eq;rw[eq]at st;refine ai (λk B=>D B) (λz=> ?_) λz=> ?_
    ·have z:=of_decide_eq_true z
     have zb:Nat.blt c g.length=true:=ble_eq_true_of_le (Int.ofNat_lt.mp z);rw[zb]at st;change(match blt f.length 1000 with|true=>some (c,u.set c 2,fJ name (.int c) f)|false=>.none)=some (P,V,Z)at st;cases E:blt f.length 1000 with
     |false=>rw[E]at st;cases st
     |true=>
      rw[E]at st;have W:=Prod.mk.inj (Option.some.inj st);have I:=Prod.mk.inj W.2;rw[←W.1,←I.1,←I.2]at m;have lt:f.length<aA:=Nat.lt_of_lt_of_le (Nat.le_of_ble_eq_true E) (by decide);show(match decide (f.length<aA)with|true=>_|false=>False);rw[decide_eq_true lt];show(match eZ (iV u) (c:Int) (.int 2)with|some l'=>_|.none=>False);have l:c<(iV u).length:=by unfold iV;rw[length_map];exact zl 564978162728909 rfl F z
      rw[eB l];have s:(iV u).set c (.int 2)=iV (u.set c 2):=by unfold iV;rw[map_set]
      rw[s];exact m _ ⟨by rw[List.length_set];exact F,_,.inr ⟨_,rfl⟩,rfl⟩
    ·have z:=of_decide_eq_false z
     have zb:blt c g.length=false:=by
      cases y:blt c g.length with
      |false=>rfl
      |true=>exact absurd (Int.ofNat_lt.mpr (le_of_ble_eq_true y)) z
     rw[zb]at st;cases st;exact ae (ae (ae (m _ ⟨F,_,.inr ⟨_,rfl⟩,rfl⟩)))
   refine aT (λk B=>D B) (λz=> ?_) λz=> ?_
   ·have z:=of_decide_eq_true z
    have Q:c<g.length:=zl 23760048736 rfl z;have J:g[c]? =some g[c]:=by simp[Q]
    have Y:u[c]? =some u[c]:=by simp[show c<u.length from zl 564978162728909 rfl F z]
    have M:=all_eq_true.mp C _ (getElem_mem Q);generalize g[c]=t at J M;generalize u[c]=i at Y;have j:lU g u c=(decide (i=0)&&uO t):=by unfold lU;rw[J,Y]
    refine bK (λk B=>N.c 49 rfl _ _ _ (Af J Y M B)) (λy=> ?_) λy=> ?_
    ·cases k with
     |zero=>exact(zl 0xc13b22d7a9260 rfl z B).elim
     |succ k=>
      have e:(match Nat.blt c g.length&& !lU g u c with|true=>qy g u k (c+1)|false=>c)=a:=e;rw[j,y,show blt c g.length=true from ble_eq_true_of_le Q]at e;exact v _ ⟨k,c+1,zl 0x466f182947a7bcef rfl B,e,rfl⟩ (by show g.length-((c:Int)+1).toNat<g.length-(c:Int).toNat;exact zl 0x14f19320e9e60235e9260 rfl z)
    ·apply done
     cases k with
     |zero=>exact e.symm
     |succ k=>
      have e:(match Nat.blt c g.length&& !lU g u c with|true=>qy g u k (c+1)|false=>c)=a:=e;rw[j,y,Bool.and_false]at e;exact e.symm
   ·have z:=of_decide_eq_false z
    apply done;cases k with
    |zero=>exact e.symm
    |succ k=>
     have e:(match Nat.blt c g.length&& !lU g u c with|true=>qy g u k (c+1)|false=>c)=a:=e;have zb:blt c g.length=false:=by
      cases y:blt c g.length with
      |false=>rfl
      |true=>exact absurd (Int.ofNat_lt.mpr (le_of_ble_eq_true y)) z
     rw[zb,Bool.false_and]at e;exact e.symm
  ·rw[(Bool.not_eq_false' _).mp q]at st
   cases st;exact ae (ae (m _ ⟨F,_,.inr ⟨_,rfl⟩,rfl⟩))
 ·rintro name ρ hd ⟨F,S,h2,rfl⟩
  refine⟨aq rfl h2,λT=> ?_⟩;have n:ku name=true:=by rw[aD.mp hd];rfl
  exact ai (λk B=>ko (b:=jS) n rfl (λ_ h=>h) (λ_ h=>h) B) (λ_=>h F) λq=>by rw[hd]at q;cases q
 ·rintro ρ ⟨F,S,h2,rfl⟩
  exact h F
theorem Hw{ρ ρ1:R}{X:Str→Prop}{a I C L:E}{v:Rv}(h:ev G (.comp j I C L) ρ1 (λy ρ=>G f (.bi c []::[.j v.v,.j y.v]) (λr ss=>match r,ss with|.j .none,[.bi U d]=>(match Nat.beq c U with|true=>k (.oi c d) ρ|false=>False)|_,_=>False) X) X)(H:∀k,k v ρ1→ev G a ρ k X):ev G (.new c f (.cons a (.cons (.comp j I C L) .nil))) ρ k X:=H _ h
theorem H7(H:g.length≤100)(u:U.length=g.length)(z:yS g U=[])(h:K (.j (.o [])) [.bi 1 (MS o g U d)]):FF 51 [.bi 1 (MS o g U d)] K X:=by
 refine fw 51 rfl rfl λG O=> ?_;have L:aA=1000000:=rfl;refine iB (fR (jW (λk=>Cv rfl H) (by simp;exact zl 0x29d4ecdc00e2926bb1cf rfl H L) (aa rfl) (λv=>match v with|.int i=>tU U i.toNat|_=>false) (λv=>v) ?_ (λv _ _ k R=>R _ rfl) ?_))
 ·intro v M k R
  obtain⟨p,P,rfl⟩:=mem_map.mp M;have P:=List.mem_range.mp P;have E:U[p]? =some U[p]:=by simp[show p<U.length from zl 551738860877 rfl u P]
  generalize U[p]=i at E;have f:tU U p=decide (i=0):=by unfold tU;rw[E]
  apply Dg E;change k (tU U p) _ at R;rw[f]at R;exact R
 ·have e:((((range g.length).map λ(j:Nat)=>V.int j).filter λv=>match v with|.int i=>tU U i.toNat|_=>false).map λv=>v)=[]:=by
   rw[map_id',filter_map];unfold yS at z;have:((λv=>match v with|V.int i=>tU U i.toNat|_=>false)∘λ(j:Nat)=>V.int j)=tU U:=by
    funext j;show tU U (j:Int).toNat=_;rw[Int.toNat_natCast]
   rw[this,z];rfl
  rw[e];exact h
theorem EX(H:g.length≤100)(h:K (.j .none) [.bi 1 (MS o g (List.replicate g.length 0) [])]):FF 45 [.bi 1 [],.j (.o (o.map V.str)),.j (.o (g.map mY))] K X:=by
 refine fw 45 rfl rfl λG O=> ?_;refine⟨af rfl,zm 92741 rfl _,by rw[List.length_map];exact zl 5787793469190607 rfl H,?_⟩;have e:replicate (((g.map mY).length):Int).toNat (V.int 0)=iV (replicate g.length 0):=by
  rw[Int.toNat_natCast,length_map];unfold iV;rw[map_replicate]
 show K (.j .none) [.bi 1 [(5,.j (.o (o.map V.str))),(6,.j (.o (g.map mY))),(7,.U (List.replicate (((g.map mY).length:Nat):Int).toNat (V.int 0))),(8,.od [])]];rw[e];exact h
theorem qr{as:List (Option Str×V)}(L:as.length≤100)(H:(as.map (·.1)).all u9=true)(O:o.all ku=true)(x:eX (λ_=>false) (tC (as.map (·.1))) o (List.replicate (as.map (·.1)).length 0,[])=some (u1,f1))(p:yx (as.map (·.1)) u1=true)(y:u1.length=(as.map (·.1)).length)
 (D:eX (λname=>ax name jS) (nG (as.map (·.1))) o (0,u1,f1)=some (pe,us',fd'))(z:yS (as.map (·.1)) us'=[])(h:K (.j (.L [.lJ fd',.o []])) []):FF 52 [.j (.o (o.map V.str)),.j (.o (as.map aX)),.j sh] K X:=by
 refine de 52 rfl rfl rfl λG g=> ?_;have S:aA=1000000:=rfl;have I:(as.map (·.1)).length≤100:=by rw[List.length_map];exact L
 refine aw (v:=.oi 1 (MS o (as.map (·.1)) (List.replicate (as.map (·.1)).length 0) [])) (ρ1:=[.j (.o (o.map V.str)),.j (.o (as.map aX)),.j sh,.y,.y,.y]) (λk d=> ?_) (aa rfl) ?_
 ·refine Hw (fA (ρ:=[.j (.o (o.map V.str)),.j (.o (as.map aX)),.j sh,.y,.y,.y]) (λ_ h=>h) (by rw[length_map];exact zl 0x29d4ecdc00e2926bb1cf rfl L S) (aa rfl) (λv=>match v with|.L (t::_)=>t|v=>v) ?_ ?_) (λ_ h=>h)
  ·intro v R k d
   obtain⟨a,_,rfl⟩:=mem_map.mp R;exact d _ rfl
  ·have e:(as.map aX).map (λv=>match v with|.L (t::_)=>t|v=>v)=(as.map (·.1)).map mY:=by rw[map_map,map_map];rfl
   rw[e];exact g.c 45 rfl _ _ _ (EX I d)
 generalize as.map (·.1)=T at*;refine g.c 46 rfl _ _ _ (Fe I H O x ?_);refine g.c 48 rfl _ _ _ (zT I H O p ?_);refine g.c 50 rfl _ _ _ (sS I y H O D λZ=> ?_);refine g.c 51 rfl _ _ _ (H7 I Z z ?_);refine ip (aT (λ_ h=>h) (λq=>by cases q) λ_=>ae ?_);exact⟨af rfl,h⟩
theorem r9(L:as.length≤100)(j:o.length≤1000)(t:(as.map (·.1)).all u9=true)(O:o.all ku=true)(x:eX (λ_=>false) (tC (as.map (·.1))) o (List.replicate (as.map (·.1)).length 0,[])=some (u1,f1))(u:yx (as.map (·.1)) u1=true)(y:u1.length=(as.map (·.1)).length)
 (D:eX (λname=>ax name jS) (nG (as.map (·.1))) o (0,u1,f1)=some (pe,us',fd'))(z:yS (as.map (·.1)) us'=[])(H:eX (λ_=>false) (CA as fd') o []=some m)(h:K (.j (.o m)) []):FF 54 [.j (.o (as.map aX)),.j (.o (o.map V.str)),.j .none] K X:=by
 refine de 54 rfl rfl rfl λG g=> ?_;have P:aA=1000000:=rfl;refine g.c 52 rfl _ _ _ (qr L t O x u y D z ?_);refine aw (λ_ h=>⟨af rfl,h⟩) (aa rfl) ?_;refine sO (xs:=o) (λ_ h=>h) (λ_=>false) (CA as fd') (λst ρ=>∃s S,fu s∧fu S∧ρ=[.j (.o (as.map aX)),.j (.o (o.map V.str)),.j .none,.j (.lJ fd'),.j (.o []),.U st,s,S]) H ⟨.y,.y,.inl rfl,.inl rfl,rfl⟩ ?_ (λa ρ q=>by cases q) ?_
 ·rintro vals name Q ρ M _ st ⟨s,S,h6,J,rfl⟩
  refine⟨aq rfl h6,λR r=> ?_⟩;have n:ku name=true:=List.all_eq_true.mp O name M;have st:(match Nat.blt vals.length 1000 with|false=>.none|true=>match ax name jS with|true=>some (vals++[.o []])|false=>match a8 name fd' with|.none=>some (vals++[.none])|some (.int p)=>(match decide (0≤p),as[p.toNat]? with|true,some a=>some (vals++[a.2])|_,_=>.none)|some _=>.none)=some Q:=st;cases T:Nat.blt vals.length 1000 with
  |false=>rw[T]at st;cases st
  |true=>
   have lt:vals.length<aA:=Nat.lt_of_lt_of_le (Nat.le_of_ble_eq_true T) (by decide);rw[T]at st;change(match ax name jS with|true=>some (vals++[.o []])|false=>match a8 name fd' with|.none=>some (vals++[.none])|some (.int p)=>(match decide (0≤p),as[p.toNat]? with|true,some a=>some (vals++[a.2])|_,_=>.none)|some _=>.none)=some Q at st;refine ai (λk d=>ko (b:=jS) n rfl (λ_ h=>h) (λ_ h=>h) d) (λq=> ?_) λq=> ?_
   ·rw[q]at st
    cases st;refine eY (ρ1:=[.j (.o (as.map aX)),.j (.o (o.map V.str)),.j .none,.j (.lJ fd'),.j (.o []),.U vals,.j (.str name),.y]) (v:=.U []) rfl (λk d=> ?_) rfl lt (r _ ⟨_,_,.inr ⟨_,rfl⟩,.inl rfl,rfl⟩);exact fA (λ_ h=>h) (Nat.zero_le _) (aq rfl J) (λv=>v) (λv H=>by cases H) d
   ·rw[q]at st
    change(match a8 name fd' with|.none=>some (vals++[.none])|some (.int p)=>(match decide (0≤p),as[p.toNat]? with|true,some a=>some (vals++[a.2])|_,_=>.none)|some _=>.none)=some Q at st;refine ai (λ_ h=>h) (λq=> ?_) λq=> ?_
    ·cases e:a8 name fd' with
     |none=>rw[e]at q;cases q
     |some v=>
      rw[e]at st;cases v with
      |int p=>
       change(match decide (0≤p),as[p.toNat]? with|true,some a=>some (vals++[a.2])|_,_=>.none)=some Q at st;cases E:decide (0≤p)with
       |false=>rw[E]at st;cases st
       |true=>
        cases N:as[p.toNat]? with
        |none=>rw[E,N]at st;cases st
        |some a=>
         rw[E,N]at st;cases st;refine eY (ρ1:=[.j (.o (as.map aX)),.j (.o (o.map V.str)),.j .none,.j (.lJ fd'),.j (.o []),.U vals,.j (.str name),S]) (l:=vals) (v:=.j a.2) rfl (λk d=> ?_) rfl lt (ae (ae (r _ ⟨_,_,.inr ⟨_,rfl⟩,J,rfl⟩)));show(match a8 name fd' with|some v=>_|.none=>False);rw[e];exact az (v:=aX a) (cm (of_decide_eq_true E) (by rw[List.getElem?_map,N];rfl)) d
      |_=>cases st
    ·cases e:a8 name fd' with
     |some v=>rw[e]at q;cases q
     |none=>
      rw[e]at st;cases st;exact eY (l:=vals) rfl (λk d=>d) rfl lt (ae (ae (r _ ⟨_,_,.inr ⟨_,rfl⟩,J,rfl⟩)))
 ·rintro ρ ⟨s,S,h6,J,rfl⟩
  exact h
noncomputable def dA:Str:=⟨#[114,105,103,104,116]⟩
noncomputable def cq:Str:=⟨#[105,110,99,108,117,100,101,46,108,111,119,101,115,116]⟩
noncomputable def ed:Str:=⟨#[108,97,98,101,108,115]⟩
noncomputable def iz:Str:=⟨#[111,114,100,101,114,101,100,95,114,101,115,117,108,116]⟩
noncomputable def sX:Str:=⟨#[120]⟩
noncomputable def nH:Str:=⟨#[98,114,101,97,107,115]⟩
noncomputable def NI:Str:=⟨#[100,105,103,46,108,97,98]⟩
noncomputable def ME:Str:=⟨#[118,101,99]⟩
noncomputable def lD:List Str:=[sX,nH,ed,cq,dA,NI,iz,jS]
noncomputable def KD:List Str:=[sX,ME,jS]
theorem En(h:K (.j (.o [a,b,e,d,c,.none,.none,.o []])) []):FF 54 [.j (.o ([(.none,a),(.none,b),(some dA,c),(some cq,d),(some ed,e)].map aX)),.j (.o (lD.map V.str)),.j .none] K X:=
 r9 (u1:=[0,0,2,2,2]) (f1:=[(ed,.int 4),(cq,.int 3),(dA,.int 2)]) (us':=[2,2,2,2,2]) (fd':=[(ed,.int 4),(cq,.int 3),(dA,.int 2),(sX,.int 0),(nH,.int 1)]) (pe:=5) (le_of_ble_eq_true rfl) (le_of_ble_eq_true rfl) (by kernel_rfl) (by kernel_rfl) (by kernel_rfl) (by kernel_rfl) (by kernel_rfl) (by kernel_rfl) (by kernel_rfl) (by kernel_rfl) h
theorem Fo(h:K (.j (.o [a,b,.none,d,c,.none,.none,.o []])) []):FF 54 [.j (.o ([(.none,a),(.none,b),(some dA,c),(some cq,d)].map aX)),.j (.o (lD.map V.str)),.j .none] K X:=
 r9 (u1:=[0,0,2,2]) (f1:=[(cq,.int 3),(dA,.int 2)]) (us':=[2,2,2,2]) (fd':=[(cq,.int 3),(dA,.int 2),(sX,.int 0),(nH,.int 1)]) (pe:=4) (le_of_ble_eq_true rfl) (le_of_ble_eq_true rfl) (by kernel_rfl) (by kernel_rfl) (by kernel_rfl) (by kernel_rfl) (by kernel_rfl) (by kernel_rfl) (by kernel_rfl) (by kernel_rfl) h
theorem Eu(h:K (.j (.o [a,b,e,d,c,.none,f,.o []])) []):FF 54 [.j (.o ([(.none,a),(.none,b),(some dA,c),(some cq,d),(some ed,e),(some iz,f)].map aX)),.j (.o (lD.map V.str)),.j .none] K X:=
 r9 (u1:=[0,0,2,2,2,2]) (f1:=[(ed,.int 4),(cq,.int 3),(dA,.int 2),(iz,.int 5)]) (us':=[2,2,2,2,2,2]) (fd':=[(ed,.int 4),(cq,.int 3),(dA,.int 2),(iz,.int 5),(sX,.int 0),(nH,.int 1)]) (pe:=6) (le_of_ble_eq_true rfl) (le_of_ble_eq_true rfl) (by kernel_rfl) (by kernel_rfl) (by kernel_rfl) (by kernel_rfl) (by kernel_rfl) (by kernel_rfl) (by kernel_rfl) (by kernel_rfl) h
theorem D1(h:K (.j (.o [a,b,.o []])) []):FF 54 [.j (.o ([(.none,a),(.none,b)].map aX)),.j (.o (KD.map V.str)),.j .none] K X:=
 r9 (u1:=[0,0]) (f1:=[]) (us':=[2,2]) (fd':=[(sX,.int 0),(ME,.int 1)]) (pe:=1) (le_of_ble_eq_true rfl) (le_of_ble_eq_true rfl) (by kernel_rfl) (by kernel_rfl) (by kernel_rfl) (by kernel_rfl) (by kernel_rfl) (by kernel_rfl) (by kernel_rfl) (by kernel_rfl) h
noncomputable def nZ(ps:List PR)(i:Nat):PR:=ps.getD i (0,1)
theorem rK(h:i<ps.length):ps[i]? =some (nZ ps i):=by
 unfold nZ;rw[getD_eq_getElem?_getD,getElem?_eq_getElem h];rfl
noncomputable abbrev SP(ps:List PR)(l:List Nat):Prop:=l.Pairwise λi j=>aM (nZ ps i) (nZ ps j)≤0
noncomputable def nV(l:List Nat):List V:=l.map λ(i:Nat)=>V.int i
noncomputable def vD(ps:List PR):V:=gC aW (.o (ps.map ah)) .none
theorem xr{i p:Nat}(e:l[i]? =some p):(nV l)[i]? =some (.int p):=by unfold nV;rw[getElem?_map,e];rfl
theorem d4(l):(nV l).length=l.length:=by unfold nV;rw[length_map]
section
variable{K:Rv→List Mine.Internal.S→Prop}{X:Str→Prop}{ps:List PR}
theorem rk(H:aK p)(h:K (.j (.bool false)) []):FF 55 [.j (.str aW),.j (ah p)] K X:=by
 refine de 55 rfl rfl rfl λG g=> ?_;apply Dw rfl rfl;refine⟨af rfl,cX (BS p (0,0)) ?_⟩;have:decide (p=((0,0):PR))=false:=decide_eq_false λz=>of_decide_eq_false H.na ⟨by rw[z],by rw[z]⟩;rw[this];exact h
theorem Fq(H:aK p)(Q:aK q)(h:K (.j (.int (aM p q))) []):FF 56 [.j (.str aW),.j (ah p),.j (ah q)] K X:=by
 refine de 56 rfl rfl rfl λG g=> ?_;apply Dw rfl rfl;exact g.c 14 rfl _ _ _ (cT H Q h)
theorem wQ(h:K (.j .none) []):FF 57 [.j (gC aW i a)] K X:=by
 refine de 57 rfl rfl rfl λG H=> ?_;refine⟨af rfl,Ck (ss:=[eE,aS,aW,bJ]) rfl rfl h⟩
theorem CD(H:∀p∈ps,aK p)(I:i<ps.length)(J:j<ps.length)(h:K (.j (.int (aM (nZ ps i) (nZ ps j)))) []):FF 58 [.j (vD ps),vi i,vi j,.j (.bool false),.j (.bool true)] K X:=by
 refine de 58 rfl rfl rfl λG g=> ?_;have E:=rK I;have y:=rK J;have N:=H _ (mem_of_getElem? E);have n:=H _ (mem_of_getElem? y);refine aw (λk d=>az (aC (by rw[List.getElem?_map,E];rfl)) d) (aa rfl) ?_;refine aw (ρ1:=[.j (vD ps),vi i,vi j,.j (.bool false),.j (.bool true),.j (ah (nZ ps i)),.y,.y,.y,.y]) (λk d=>az (aC (by rw[List.getElem?_map,y];rfl)) d) (aa rfl) ?_;refine g.c 55 rfl _ _ _ (rk N ?_);refine g.c 55 rfl _ _ _ (rk n ?_);refine ip (aT (λ_ h=>h) (λq=>by cases q) λ_=>ae ?_);refine ai (λ_ h=>h) (λq=>by cases q) λ_=>ae ?_;refine ai (λ_ h=>h) (λq=>by cases q) λ_=>ae ?_;exact g.c 56 rfl _ _ _ (Fq N n h)
theorem II(H:∀p∈ps,aK p)(I:i<ps.length)(J:j<ps.length)(h:K (.j (.int (aM (nZ ps i) (nZ ps j)))) []):FF 59 [.j (.o [vD ps]),vi i,vi j,.j (.o [.bool false]),.j (.bool true)] K X:=by
 refine de 59 rfl rfl rfl λG g=> ?_;refine cQ (items:=[.int 0]) (λ_ h=>h) (λn ρ=>∃S s,fu S∧fu s∧ρ=[.j (.o [vD ps]),vi i,vi j,.j (.o [.bool false]),.j (.bool true),S,s]∧(n=1→aM (nZ ps i) (nZ ps j)=0)) ⟨.y,.y,.inl rfl,.inl rfl,rfl,λz=>by cases z⟩ ?_ ?_
 ·rintro n v ρ e ⟨S,s,h5,h6,rfl,_⟩
  refine⟨aq rfl h5,λR r=> ?_⟩;obtain rfl:v=.int 0:=by
   cases n with
   |zero=>cases e;rfl
   |succ n=>simp at e
  refine aw (λk d=>g.c 58 rfl _ _ _ (CD H I J d)) (aq rfl h6) ?_;refine ai (λ_ h=>h) (λq=> ?_) λq=> ?_
  ·exact h
  ·exact ae (ae (r _ ⟨_,_,.inr ⟨_,rfl⟩,.inr ⟨_,rfl⟩,rfl,λ_=>of_decide_eq_true ((Bool.not_eq_false' _).mp q)⟩))
 ·rintro ρ ⟨S,s,h5,h6,rfl,z⟩
  rw[z rfl]at h;exact h
theorem l7(h:i≤n):ay n i=i:=by
 unfold ay bX;rw[decide_eq_true (by exact zm 92741 rfl _)];exact zl 0x29a176156b04037 rfl h
theorem QU{n i b:Nat}(h:i<n):(n-((i:Int)+1).toNat)+b<(n-(i:Int).toNat)+b:=Nat.add_lt_add_right (Nat.sub_lt_sub_left h (lt_succ_self i)) b
theorem Q9{n i b:Nat}(h:i<n):b+(n-((i:Int)+1).toNat)<b+(n-(i:Int).toNat):=Nat.add_lt_add_left (Nat.sub_lt_sub_left h (lt_succ_self i)) b
theorem DR(H:∀p∈ps,aK p)(L:∀i∈left,i<ps.length)(u:∀i∈right,i<ps.length)(h1:left.length≤1000)(h2:right.length≤1000)(U:SP ps left)(Q:SP ps right)(h:∀l,l.Perm (left++right)→SP ps l→K (.j (.o (nV l))) []):
 FF 60 [.j (.o (nV left)),.j (.o (nV right)),.j (.o [vD ps]),.j (.o [.bool false]),.j (.bool true)] K X:=by
 refine fw 60 rfl rfl λG C=> ?_;have g:aA=1000000:=rfl;have N:∀{i},i<ps.length→aK (nZ ps i):=λh=>H _ (mem_of_getElem? (rK h));refine aw (λ_ h=>⟨af rfl,h⟩) (aa rfl) (aw (λ_ h=>h) (aa rfl) (aw (λ_ h=>h) (aa rfl) ?_));refine jJ (λρ=>∃m i j,i≤left.length∧j≤right.length∧m.Perm (left.take i++right.take j)∧SP ps m∧(∀a∈m,∀b,b∈left.drop i∨b∈right.drop j→aM (nZ ps a) (nZ ps b)≤0)∧ρ=[.j (.o (nV left)),.j (.o (nV right)),.j (.o [vD ps]),.j (.o [.bool false]),.j (.bool true),.U (nV m),vi i,vi j])
  (λρ=>match ρ with|[_,_,_,_,_,_,.j (.int i),.j (.int j)]=>(left.length-i.toNat)+(right.length-j.toNat)|_=>0) ⟨[],0,0,zm 2984 rfl _,zm 2984 rfl _,by simp,.nil,λa h=>(by cases h),rfl⟩ ?_
 rintro ρ ⟨m,i,j,M,D,P,T,B,rfl⟩ o O;have lm:m.length≤2000:=by have:=P.length_eq;rw[List.length_append,length_take,length_take]at this;exact zl 0x11b5bab6d9a66385f4960f7ff06bd15cf rfl h1 h2 this
 have done:left.drop i=[]∨right.drop j=[]→ex G (.cons (.ret (.Y (.w .add (.w .add (.d 5) (.sl (.d 0) (.D (.d 6)) .no)) (.sl (.d 1) (.D (.d 7)) .no)))) .nil) [.j (.o (nV left)),.j (.o (nV right)),.j (.o [vD ps]),.j (.o [.bool false]),.j (.bool true),.U (nV m),vi i,vi j] (λρ=>K (.j .none) (bf [.j (.o (nV left)),.j (.o (nV right)),.j (.o [vD ps]),.j (.o [.bool false]),.j (.bool true)] ρ)) (λ_=>False) (λr ρ=>K r (bf [.j (.o (nV left)),.j (.o (nV right)),.j (.o [vD ps]),.j (.o [.bool false]),.j (.bool true)] ρ)) X:=by
  intro z;have sl:∀{l:List Nat}{i:Nat},i≤l.length→((nV l).take (nV l).length).drop (ay (nV l).length (i:Int))=nV (l.drop i):=λ{l i}h=>by
   rw[take_length,l7 (by rw[d4];exact h)];unfold nV;rw[map_drop]
  have e:nV m++((nV left).take (nV left).length).drop (ay (nV left).length i)++((nV right).take (nV right).length).drop (ay (nV right).length j)=nV (m++left.drop i++right.drop j):=by
   rw[sl M,sl D];unfold nV;rw[map_append,map_append]
  refine⟨?_,?_,?_⟩
  ·show(nV m).length+(((nV left).take (nV left).length).drop (ay (nV left).length i)).length≤aA
   rw[sl M,d4,d4,length_drop];exact zl 0xbb472cd15206acb1b33dc00e2941515cf rfl h1 g lm
  ·show(nV m++((nV left).take (nV left).length).drop (ay (nV left).length i)).length+(((nV right).take (nV right).length).drop (ay (nV right).length j)).length≤aA
   rw[List.length_append,sl M,sl D,d4,d4,d4,length_drop,length_drop];exact zl 0x19052700908b36a55d52ab235f87c71afc0fcff06bd15cf rfl h1 h2 g lm
  ·show K (.j (.o (nV m++((nV left).take (nV left).length).drop (ay (nV left).length i)++((nV right).take (nV right).length).drop (ay (nV right).length j)))) _
   rw[e];apply h _
   ·have p1:(m++left.drop i++right.drop j).Perm ((left.take i++right.take j)++(left.drop i++right.drop j)):=by
     rw[List.append_assoc];exact P.append_right _
    apply p1.trans;have E:left=left.take i++left.drop i:=(take_append_drop ..).symm;have f:right=right.take j++right.drop j:=(take_append_drop ..).symm
    conv=>rhs;rw[E,f]
    rw[List.append_assoc,List.append_assoc];refine Perm.append_left _ ?_;rw[←List.append_assoc,←List.append_assoc];exact perm_append_comm.append_right _
   ·have S:=U.sublist (drop_sublist i left)
    have s:=Q.sublist (drop_sublist j right);rcases z with z|z
    ·rw[z,append_nil]
     refine pairwise_append.mpr ⟨T,s,λa W b hb=>B a W b (.inr hb)⟩
    ·rw[z,append_nil]
     refine pairwise_append.mpr ⟨T,S,λa W b hb=>B a W b (.inl hb)⟩
 refine aT (b:=decide ((i:Int)<left.length)) (λk d=>by rw[←d4 left]at d;exact d) (λz=> ?_) λz=> ?_
 ·have Z:i<left.length:=by have:=of_decide_eq_true z;exact zl 23760048736 rfl this
  refine bK (b:=decide ((j:Int)<right.length)) (λk d=>by rw[←d4 right]at d;exact d) (λz=> ?_) λz=> ?_
  ·have J:j<right.length:=by have:=of_decide_eq_true z;exact zl 23760048736 rfl this
   have E:left[i]? =some left[i]:=by simp[Z]
   have f:right[j]? =some right[j]:=by simp[J]
   have d1:=drop_eq_getElem_cons Z;have d2:=drop_eq_getElem_cons J;have t:left.take (i+1)=left.take i++[left[i]]:=by rw[take_add_one,E];rfl
   have R:right.take (j+1)=right.take j++[right[j]]:=by rw[take_add_one,f];rfl
   have A:=L left[i] (getElem_mem Z);have pb:=u right[j] (getElem_mem J);have S:=U.sublist (drop_sublist i left);have s:=Q.sublist (drop_sublist j right);generalize left[i]=a at E d1 t A;generalize right[j]=b at f d2 R pb;rw[d1]at S;rw[d2]at s;rw[d1,d2]at B;have S:=pairwise_cons.mp S;have s:=pairwise_cons.mp s;have F:(nV m).length<aA:=by rw[d4];exact zl 0x13d90ea96786719419da55 rfl g lm
   have v:∀a:Nat,nV m++[V.int a]=nV (m++[a]):=λa=>by unfold nV;rw[map_append];rfl
   refine ai (b:=decide (aM (nZ ps a) (nZ ps b)≤0)) (ρ':=[.j (.o (nV left)),.j (.o (nV right)),.j (.o [vD ps]),.j (.o [.bool false]),.j (.bool true),.U (nV m),vi i,vi j]) (λk d=> ?_) (λq=> ?_) λq=> ?_
   ·refine az (aC (xr E)) ?_
    refine az (aC (xr f)) ?_;exact C.c 59 rfl _ _ _ (II H A pb d)
   ·have q:=of_decide_eq_true q
    refine eY rfl (λk d=>az (aC (xr E)) d) rfl F ?_;show ex G _ [.j (.o (nV left)),.j (.o (nV right)),.j (.o [vD ps]),.j (.o [.bool false]),.j (.bool true),.U (nV m++[V.int a]),vi i,vi j] _ _ _ _;rw[v];refine O _ ⟨m++[a],i+1,j,Z,D,?_,?_,?_,rfl⟩ (QU Z)
    ·rw[t,List.append_assoc]
     refine((P.append_right [a]).trans ?_);rw[List.append_assoc];exact perm_append_comm.append_left _
    ·exact pairwise_append.mpr ⟨T,pairwise_singleton ..,λx I y Y=>by rw[mem_singleton]at Y;subst Y;exact B x I y (.inl (.head _))⟩
    ·intro x I y Y
     rcases mem_append.mp I with I|I
     ·apply B x I y
      rcases Y with Y|Y
      ·exact .inl (.tail _ Y)
      ·rw[d2]at Y;exact .inr Y
     ·rw[mem_singleton]at I;subst I
      rcases Y with Y|Y
      ·exact S.1 y Y
      ·rw[d2]at Y
       rcases mem_cons.mp Y with rfl|Y
       ·exact q
       ·exact cU (N A) (N pb) (N (u y (mem_of_mem_drop Y))) q (s.1 y Y)
   ·have q:=of_decide_eq_false q
    have q:aM (nZ ps b) (nZ ps a)≤0:=by rw[bQ];exact zl 834191057200 rfl q
    refine eY rfl (λk d=>az (aC (xr f)) d) rfl F ?_;show ex G _ [.j (.o (nV left)),.j (.o (nV right)),.j (.o [vD ps]),.j (.o [.bool false]),.j (.bool true),.U (nV m++[V.int b]),vi i,vi j] _ _ _ _;rw[v];refine O _ ⟨m++[b],i,j+1,M,J,?_,?_,?_,rfl⟩ (Q9 J)
    ·rw[R,←List.append_assoc]
     exact P.append_right [b]
    ·exact pairwise_append.mpr ⟨T,pairwise_singleton ..,λx I y Y=>by rw[mem_singleton]at Y;subst Y;exact B x I y (.inr (.head _))⟩
    ·intro x I y Y
     rcases mem_append.mp I with I|I
     ·apply B x I y
      rcases Y with Y|Y
      ·rw[d1]at Y;exact .inl Y
      ·exact .inr (.tail _ Y)
     ·rw[mem_singleton]at I;subst I
      rcases Y with Y|Y
      ·rw[d1]at Y
       rcases mem_cons.mp Y with rfl|Y
       ·exact q
       ·exact cU (N pb) (N A) (N (L y (mem_of_mem_drop Y))) q (S.1 y Y)
      ·exact s.1 y Y
  ·exact done (.inr (drop_eq_nil_of_le (by have:=of_decide_eq_false z;exact zl 2726871714342 rfl this)))
 ·exact done (.inl (drop_eq_nil_of_le (by have:=of_decide_eq_false z;exact zl 2726871714342 rfl this)))
end
noncomputable def rV(m:List (List Nat)):List V:=m.map λl=>V.o (nV l)
theorem CT{i:Nat}(e:m[i]? =some r):(rV m)[i]? =some (.o (nV r)):=by unfold rV;rw[getElem?_map,e];rfl
theorem dz(l):(rV l).length=l.length:=by unfold rV;rw[length_map]
theorem Gp:∀l:List Nat,(l.map λi=>[i]).flatten=l
|[]=>rfl
|i::l=>by rw[map_cons,flatten_cons,Gp l];rfl
theorem Hv(h:∀k,k (.j (.int m)) ρ1→ev G e ρ k X)(H:0≤m)(h1:m≤1000)(d:k (ao 0 ((m-0+1).fdiv 2).toNat 2) ρ1):qY G (.eJ (.cons (.p 0) (.cons e (.cons (.p 2) .nil)))) ρ k X:=by
 apply h _;show(match dG [.int 0,.int m,.int 2]with|some l=>k l ρ1|.none=>False);have e:dG [.int 0,.int m,.int 2]=some (ao 0 ((m-0+1).fdiv 2).toNat 2):=by
  show(match va 0 m with|true=>some (ao 0 ((m-0+1).fdiv 2).toNat 2)|false=>.none)=_;have e:va 0 m=true:=by
   unfold va;rw[decide_eq_true (by decide)];exact decide_eq_true (zl 0xafb614444e773f451d rfl H h1)
  rw[e]
 rw[e];exact d
theorem HB(P:Rv→Prop)(J:ρ[i]? =some (.U L))(h:∀k:Rv→R→Prop,(∀v,P v→k v ρ1)→ev G e ρ k X)(g:ρ1[i]? =some (.U l))(H:l.length<aA)(h1:∀v,P v→ex G r (ρ1.set i (.U (l++[v.v]))) x C t X):ex G (.cons (.lK i e) r) ρ x C t X:=by
 show(match(ρ[i]?).bind df with|some _=>_|.none=>False);rw[J];refine h _ λv V=> ?_;show(match ρ1[i]? with|some s=>_|.none=>False);rw[g];show(match(match decide (l.length<aA)with|true=>some (l++[v.v])|false=>.none)with|some l=>_|.none=>False);rw[decide_eq_true H];exact h1 v V
theorem Ff(H:∀p∈ps,aK p)(f:∀i∈L,i<ps.length)(g:L≠[])(h1:L.length≤1000)(h:∀l,l.Perm L→SP ps l→K (.j (.o (nV l))) []):
 FF 61 [.j (.o (nV L)),.j (.o [vD ps]),.j (.o [.bool false]),.j (.bool true)] K X:=by
 refine de 61 rfl rfl rfl λG A=> ?_;have Q:aA=1000000:=rfl;refine aw (v:=.j (.o (rV (L.map λi=>[i])))) (ρ1:=[.j (.o (nV L)),.j (.o [vD ps]),.j (.o [.bool false]),.j (.bool true),.y,.y,.y,.y]) (λk d=> ?_) (aa rfl) ?_
 ·refine fR (fA (λ_ h=>h) (by rw[d4];exact zl 0x29d4ecdc00e2941515cf rfl h1 Q) (aa rfl) (λv=>.o [v]) ?_ ?_)
  ·intro v hv k d
   exact⟨af rfl,d _ rfl⟩
  ·have e:(nV L).map (λv=>V.o [v])=rV (L.map λi=>[i]):=by unfold nV rV;rw[map_map,map_map];rfl
   rw[e];exact d
 have W:=λz=>g (length_eq_zero_iff.mp z);have w:(rV (L.map λi=>[i])).length=L.length:=by rw[dz,length_map]
 refine ai (λ_ h=>h) (λq=> ?_) λ_=>ae ?_
 ·have:=of_decide_eq_true q;exact(zl 0x15c05f718ec02f8d rfl W w this).elim
 refine jJ (λρ=>∃(R:List (List Nat))(t S s:Mine.Internal.S),fu t∧fu S∧fu s∧1≤R.length∧R.flatten.Perm L∧R.length≤1000∧(∀r∈R,SP ps r)∧ρ=[.j (.o (nV L)),.j (.o [vD ps]),.j (.o [.bool false]),.j (.bool true),.j (.o (rV R)),t,S,s])
  (λρ=>match ρ with|[_,_,_,_,.j (.o l),_,_,_]=>l.length|_=>0) ⟨L.map λi=>[i],.y,.y,.y,.inl rfl,.inl rfl,.inl rfl,by rw[List.length_map];exact zl 11270344333 rfl W,by rw[Gp],by rw[List.length_map];exact zl 0xa47fc06515cf rfl h1,λr y=>by obtain⟨i,_,rfl⟩:=mem_map.mp y;exact pairwise_singleton ..,rfl⟩ ?_
 rintro ρ ⟨R,t,S,s,x,F,Y,o,P,D,C,rfl⟩ ih U;have n:∀r∈R,(∀i∈r,i<ps.length)∧r.length≤1000:=λr y=>⟨λi c=>f i (P.mem_iff.mp (mem_flatten.mpr ⟨r,y,c⟩)),by
  have:=(sublist_flatten_of_mem y).length_le;rw[P.length_eq]at this;exact zl 0x30ed6130561d15cf rfl h1 this⟩
 refine A6 (b:=decide ((1:Int)<R.length)) (λk d=>by rw[←dz R]at d;exact d) (λq=> ?_) λq=> ?_
 ·have q:1<R.length:=by have:=of_decide_eq_true q;exact zl 2980663802 rfl this
  refine aw (λ_ h=>⟨af rfl,h⟩) (aq rfl x) ?_;have en:(((R.length:Int)-1-0+1).fdiv 2).toNat=R.length/2:=by
   rw[Int.fdiv_eq_ediv_of_nonneg _ (by decide),show((R.length:Int)-1-0+1)=R.length from zm 796873965635629 rfl _];rfl
  refine cQ (items:=ao 0 (R.length/2) 2) (λk d=> ?_) (λj ρ=>∃(I:List (List Nat))(S:Mine.Internal.S),fu S∧I.length=j∧I.flatten.Perm (R.take (2*j)).flatten∧(∀r∈I,SP ps r)∧ρ=[.j (.o (nV L)),.j (.o [vD ps]),.j (.o [.bool false]),.j (.bool true),.j (.o (rV R)),.U (rV I),S,s]) ⟨[],S,F,rfl,by simp,λr y=>(by cases y),rfl⟩ ?_ ?_
  ·refine Hv (m:=((rV R).length:Int)-1) ?_ (by rw[dz];exact zl 4379253220667 rfl q) (by rw[dz];exact zl 0x524008b3f2bd15cf rfl D) (by rw[dz,en];exact d)
   exactλ_ h=>h
  ·rintro j v ρ e ⟨I,S,F,J,M,u,rfl⟩
   refine⟨aq rfl F,λRC y=> ?_⟩;obtain⟨N,rfl⟩:j<R.length/2∧v=.int (0+2*j):=by
    unfold ao at e;rw[getElem?_map]at e;obtain⟨j',E,rfl⟩:=Option.map_eq_some_iff.mp e;obtain⟨h1,h2⟩:=List.getElem?_eq_some_iff.mp E;simp at h1 h2;subst h2;exact⟨zl 0x2c79ea2b7e0ec16351145344e364dd rfl (d2 _) h1,rfl⟩
   have E:R[2*j]? =some R[2*j]:=by simp[show 2*j<R.length from zl 0xb0d1e56b9a22c6c16351145344e364dd rfl (d2 _) N]
   have B:R[2*j+1]? =some R[2*j+1]:=by simp[show 2*j+1<R.length from zl 0x2c449761860c44366c16351145344e364dd rfl (d2 _) N]
   have m1:=mem_of_getElem? E;have m2:=mem_of_getElem? B;generalize R[2*j]=a at E m1;generalize R[2*j+1]=b at B m2;have T:(R.take (2*(j+1))).flatten=(R.take (2*j)).flatten++(a++b):=by
    rw[show 2*(j+1)=2*j+1+1 from zm 0x1106f4aeb86c465c rfl _,List.take_add_one,List.take_add_one,E,B];simp
   refine HB (ρ1:=[.j (.o (nV L)),.j (.o [vD ps]),.j (.o [.bool false]),.j (.bool true),.j (.o (rV R)),.U (rV I),vi (0+2*(j:Int)),s]) (λv=>∃l,v=.j (.o (nV l))∧l.Perm (a++b)∧SP ps l) rfl (λk d=> ?_) rfl (by rw[dz];exact zl 0xa8d7ed2f36d402ed39e9f5b600fee1702a926d35c5a2740bcdd rfl (d2 _) Q D J N) ?_
   ·refine az (cm (zm 97294095877 rfl _) (CT (by rw[show(0+2*(j:Int)).toNat=2*j from zm 831980919723442 rfl _];exact E))) ?_
    refine az (cm (zm 0x86d4e5c2ae05 rfl _) (CT (by rw[show(0+2*(j:Int)+1).toNat=2*j+1 from zm 0x437a5786d4e5c2adb2 rfl _];exact B))) ?_;exact A.c 60 rfl _ _ _ (DR H (n a m1).1 (n b m2).1 (n a m1).2 (n b m2).2 (C a m1) (C b m2) λl L sl=>d _ ⟨l,rfl,L,sl⟩)
   ·rintro v ⟨l,rfl,L,sl⟩
    have O:rV I++[V.o (nV l)]=rV (I++[l]):=by unfold rV;rw[map_append];rfl
    refine y _ ⟨I++[l],vi (0+2*j),.inr ⟨_,rfl⟩,by simp[J],?_,λr y=> ?_,?_⟩
    ·rw[T,flatten_append,flatten_singleton]
     exact(M.append_right _).trans (L.append_left _)
    ·rcases mem_append.mp y with y|y
     ·exact u r y
     ·rw[mem_singleton]at y;subst y;exact sl
    ·rw[←O];rfl
  ·rintro ρ ⟨I,S,F,J,M,u,rfl⟩
   have ln:(ao 0 (R.length/2) 2).length=R.length/2:=by simp[ao]
   rw[ln]at J M;have em:((R.length:Int).fmod 2)=(R.length%2:Nat):=by rw[Int.fmod_eq_emod_of_nonneg _ (by decide)];rfl
   refine ai (λk d=>⟨by decide,by
    rw[dz,em];exact d⟩) (λq=> ?_) λq=> ?_
   ·have q:R.length%2=1:=by have:=of_decide_eq_true q;exact zl 0x3b81bd66748fab1fc3c6b7659370cdd rfl (d2 _) this
    have E:R[R.length-1]? =some R[R.length-1]:=by simp[show R.length-1<R.length from zl 0x1cb1aeb4bf082369fc3c6b7659370cdd rfl (d2 _) q]
    have m1:=mem_of_getElem? E;generalize R[R.length-1]=a at E m1;have T:R.flatten=(R.take (2*(R.length/2))).flatten++a:=by
     have:R=R.take (2*(R.length/2))++[a]:=by
      conv=>lhs;rw[←take_length (l:=R),show R.length=2*(R.length/2)+1 from zl 0x76f2bd7aa1836d0369fc3c6b7659370cdd rfl (d2 _) q,take_add_one,show 2*(R.length/2)=R.length-1 from zl 0x76dcd378b1ed6b7f69fc3c6b7659370cdd rfl (d2 _) q,E]
      rw[show 2*(R.length/2)=R.length-1 from zl 0x76dcd378b1ed6b7f69fc3c6b7659370cdd rfl (d2 _) q];rfl
     conv=>lhs;rw[this]
     rw[flatten_append,flatten_singleton]
    refine eY rfl (λk d=>az (gM (by rw[List.getLast?_eq_getElem?,dz];exact CT E)) d) rfl (by rw[dz];exact zl 0x76cac6fe928ae09f5b600fd30ebea0fb5e415a269a5cdd rfl (d2 _) Q D J) (ae ?_);have O:rV I++[V.o (nV a)]=rV (I++[a]):=by unfold rV;rw[map_append];rfl
    show bH [.j (.o (nV L)),.j (.o [vD ps]),.j (.o [.bool false]),.j (.bool true),.j (.o (rV R)),.j (.o (rV I++[V.o (nV a)])),S,s] 4 (.j (.o (rV I++[V.o (nV a)]))) _;rw[O];refine U _ ⟨I++[a],.j (.o (rV (I++[a]))),S,s,.inr ⟨_,rfl⟩,F,Y,by simp,?_,by simp;exact zl 0x55104f991144c1ac0bcee196351144e5960a4dd rfl (d2 _) D J,λr y=> ?_,rfl⟩ (by show(rV (I++[a])).length<(rV R).length;rw[dz,dz];simp;rename_i Z _;exact zl 0x13a82e6ac465608b38fb937996351144e5960a4dd rfl (d2 _) Z J q)
    ·rw[flatten_append,flatten_singleton]
     rw[T]at P;exact(M.append_right _).trans P
    ·rcases mem_append.mp y with y|y
     ·exact u r y
     ·rw[mem_singleton]at y;subst y;exact C _ m1
   ·have q:R.length%2=0:=by have:=of_decide_eq_false q;exact zl 0x1bff2f6ef1d4da001fc3c6b7659370cdd rfl (d2 _) this
    rw[take_of_length_le (by exact zl 0x1d42ef87a158a329fc3c6b7659370cdd rfl (d2 _) q)]at M;refine ae (U _ ⟨I,.j (.o (rV I)),S,s,.inr ⟨_,rfl⟩,F,Y,by rename_i Z _;exact zl 0x53b2316b22b69137996351144e5960a4dd rfl (d2 _) Z J,M.trans P,zl 0x5510d474de7767ac0bcee196351144e5960a4dd rfl (d2 _) D J,u,rfl⟩ (by show(rV I).length<(rV R).length;rw[dz,dz];rename_i Z _;exact zl 0x14c75a3a07e87137996351144e5960a4dd rfl (d2 _) Z J))
 ·have q:R.length=1:=by have:=of_decide_eq_false q;exact zl 0x38fe281ef9ac30 rfl o this
  match R,q with
  |[r],_=>
   exact h r (by simpa using P) (C r (.head _))
theorem vJ(h:K (.j (.o [.bool false])) []):FF 62 [.j (.bool false),vi 1] K X:=by
 refine fw 62 rfl rfl λG H=> ?_;exact⟨af rfl,by decide,by decide,h⟩
theorem HA{b:Bool}(H:ps.length≤100)(h:K (.j (.o (nV (List.range ps.length)))) []):FF 63 [.j (.o [vD ps]),.j (.bool b)] K X:=by
 refine de 63 rfl rfl rfl λG g=> ?_;have L:aA=1000000:=rfl;refine aw (v:=.U []) (λ_ h=>⟨af rfl,h⟩) (aa rfl) ?_;refine cQ (items:=ao 0 ps.length 1) (λk d=> ?_) (λj ρ=>∃s B S,fu s∧fu B∧ρ=[.j (.o [vD ps]),.j (.bool b),.U (nV (List.range j)),s,B,S]) ⟨.y,.y,.y,.inl rfl,.inl rfl,rfl⟩ ?_ ?_
 ·refine hI (e:=.call 33 (.cons (.sub (.d 0) (.p 0)) .nil)) (m:=((ps.map ah).length:Int)) (λk d=> ?_) (zm 92741 rfl _) (by rw[List.length_map];exact zl 0xb6c51adc3b1cf rfl H) (by rw[List.length_map];exact d)
  exact g.c 33 rfl _ _ _ (kP rfl rfl d)
 ·rintro j v ρ e ⟨s,B,S,h3,h4,rfl⟩
  refine⟨aq rfl h3,λR r=> ?_⟩;obtain⟨J,rfl⟩:j<ps.length∧v=.int (j:Int):=by
   unfold ao at e;rw[List.getElem?_map]at e;obtain⟨N,E,rfl⟩:=Option.map_eq_some_iff.mp e;obtain⟨h1,h2⟩:=List.getElem?_eq_some_iff.mp E;simp at h1 h2;subst h2;exact⟨zl 23203010 rfl h1,by congr 1;exact zm 776670703789 rfl _⟩
  refine aw (v:=.j (.bool true)) (λ_ h=>h) (aq rfl h4) ?_;refine ai (b:=false) (λ_ h=>h) (λq=>by cases q) λ_=>ae ?_;refine ai (b:=true) (λ_ h=>h) (λ_=> ?_) (λq=>by cases q);refine eY (ρ1:=[.j (.o [vD ps]),.j (.bool b),.U (nV (List.range j)),vi j,.j (.bool true),S]) (l:=nV (List.range j)) (v:=.j (.int j)) rfl (λ_ h=>h) rfl (by rw[d4,List.length_range];exact zl 0xf7832eeac0c00e2926bb1cf rfl H L J) (ae (ae ?_));refine r _ ⟨vi j,.j (.bool true),S,.inr ⟨_,rfl⟩,.inr ⟨_,rfl⟩,?_⟩;rw[List.range_succ];unfold nV;rw[List.map_append];rfl
 ·rintro ρ ⟨s,B,S,h3,h4,rfl⟩
  rw[j9];exact h
theorem w6(Y:∀p∈ps,aK p)(g:ps≠[])(H:ps.length≤100)(h:∀l,l.Perm (List.range ps.length)→SP ps l→K (.j (.o (nV l))) []):FF 64 [.j (.o [vD ps]),.j (.bool false),.j (.bool true)] K X:=by
 refine de 64 rfl rfl rfl λG O=> ?_;refine ai (b:=false) (λ_ h=>h) (λq=>by cases q) λ_=>ae ?_;refine cQ (items:=[vD ps]) (λ_ h=>h) (λj ρ=>∃S,fu S∧ρ=[.j (.o [vD ps]),.j (.bool false),.j (.bool true),S,.y]) ⟨.y,.inl rfl,rfl⟩ ?_ ?_
 ·rintro j v ρ e ⟨S,h3,rfl⟩
  refine⟨aq rfl h3,λR r=> ?_⟩;obtain rfl:v=vD ps:=by
   cases j with
   |zero=>cases e;rfl
   |succ n=>simp at e
  refine O.c 57 rfl _ _ _ (wQ ?_);refine O.c 33 rfl _ _ _ (kP rfl rfl ?_);refine O.c 33 rfl _ _ _ (kP rfl rfl ?_);refine ai (b:= !decide ((((ps.map ah).length:Nat):Int)=((ps.map ah).length:Nat))) (ρ':=[.j (.o [vD ps]),.j (.bool false),.j (.bool true),.j (vD ps),.y]) (ρ:=[.j (.o [vD ps]),.j (.bool false),.j (.bool true),.j (vD ps),.y]) (c:=.D (.ag .ne (.p ((ps.map ah).length:Nat)) (.p ((ps.map ah).length:Nat)))) (G:=G) (λ_ h=>h) (λq=> ?_) λ_=>ae ?_
  ·rw[decide_eq_true rfl]at q;cases q
  ·exact ae (r _ ⟨_,.inr ⟨_,rfl⟩,rfl⟩)
 ·rintro ρ ⟨S,h3,rfl⟩
  refine O.c 62 rfl _ _ _ (vJ ?_);refine O.c 63 rfl _ _ _ (HA H ?_);exact O.c 61 rfl _ _ _ (Ff Y (λi I=>List.mem_range.mp I) (by cases ps with|nil=>exact absurd rfl g|cons a l=>simp) (by simp;exact zl 0xa47fbebbb1cf rfl H) h)
theorem uK(H:∀p∈ps,aK p){l:List Nat}(u:l.Perm (List.range ps.length))(D:SP ps l):l.map (nZ ps)=aI ps:=by
 refine qQ H ?_ ?_
 ·have e:(List.range ps.length).map (nZ ps)=ps:=by
   refine List.ext_getElem (by simp) λi h1 h2=> ?_;simp[nZ,h2]
  have:=u.map (nZ ps);rw[e]at this;exact this
 ·exact List.pairwise_map.mpr D
structure Qv(p:PR)(N D:Int)(i j:Nat):Prop where
 pos:0<p.2
 oM:Int.gcd p.1 p.2=1
 eq:p.1*D=N*p.2
 qB:0<D
 b1:p.1.natAbs<2^i
 b2:p.2.natAbs<2^j
theorem xB:rT n d*d=n*mC n d:=by
 have h1:=Lx (n:=n) (d:=d);have h2:=L7 (n:=n) (d:=d);generalize rT n d=a at*;generalize mC n d=b at*;generalize(Int.gcd n d)=g at*;rw[←h1,←h2];exact zr 79560928851769 rfl ..
theorem CW{x y z:Int}(h:0<z)(e:x*z=y*z):x=y:=Int.eq_of_mul_eq_mul_right (zl 31155043112 rfl h) e
theorem Qv.rd(h:Qv p N RC i j)(hD:0<D')(e:N*D'=N'*RC):p=rd N' D':=by
 have E:=xB (n:=N') (d:=D');have:=yW h.pos (cn (n:=N') hD) h.oM (pN hD) (by
  apply CW (Int.mul_pos hD h.qB);have V:=h.eq;generalize rT N' D'=a at*;generalize mC N' D'=b at*;generalize p.1=c at*;generalize p.2=f at*
  calc c*b*(D'*RC)=(c*RC)*b*D':=zr 0x375eca38c70fb9c719 rfl ..
   _=(N*D')*f*b:=by rw[V];exact zr 0x375eca38c70fd8e319 rfl ..
   _=(N'*b)*f*RC:=e▸zr 0x37384a38c70fd8e319 rfl _ _ _ _
   _=a*f*(D'*RC):=E▸zr 0x37533f21c70fd8e319 rfl _ _ _ _)
 exact Prod.ext this.1 this.2
theorem Qv.of(h:0<p.2)(g:Int.gcd p.1 p.2=1)(h1:p.1.natAbs<2^i)(h2:p.2.natAbs<2^j):Qv p p.1 p.2 i j:=⟨h,g,rfl,h,h1,h2⟩
theorem Qv.int(h:n.natAbs<2^i):Qv (n,1) n 1 i 1:=⟨(by decide:(0:Int)<1),Int.gcd_one_right _,rfl,by decide,h,(by decide:(1:Int).natAbs<2^1)⟩
theorem Qv.MC(hd:0<d)(hD:0<RC)(e:n*RC=N*d)(h1:n.natAbs<2^i)(h2:d.natAbs<2^j):Qv (Mine.Internal.rd n d) N RC i j:=by
 refine⟨cn hd,pN hd,?_,hD,Nat.lt_of_le_of_lt (pB hd) h1,?_⟩
 ·have E:=xB (n:=n) (d:=d)
  show rT n d*RC=N*mC n d;generalize rT n d=a at*;generalize mC n d=b at*;apply CW hd
  calc a*RC*d=(a*d)*RC:=zr 79560928839449 rfl ..
   _=(n*RC)*b:=E▸zr 79560928839449 rfl _ _ _
   _=N*b*d:=e▸zr 79560928839449 rfl _ _ _
 ·have A:=oy (n:=n) hd
  exact zl 0x1b155a7eabb8dc673 rfl h2 A (cn (n:=n) hd)
theorem jn{x:Int}{i:Nat}(h:x.natAbs<2^i)(l:Nat.ble i 40=true):x.natAbs<qT:=iQ h (le_of_ble_eq_true l)
theorem BW(i:Nat)(h1:Qv p a b I J)(h2:Qv q e f M j)(l:(Nat.ble I 40&&Nat.ble J 40&&Nat.ble M 40&&Nat.ble j 40&&Nat.ble (I+j) i&&Nat.ble (M+J) i)=true)(h:∀r,Qv r (a*f+e*b) (b*f) (i+1) (J+j)→K (.j (ah r)) []):FF 7 [.j (ah p),.j (ah q)] K X:=by
 simp only[Bool.and_eq_true]at l;obtain⟨⟨⟨⟨⟨L,B⟩,Q⟩,Z⟩,P⟩,t⟩:=l;refine Gk h1.pos h2.pos (jn h1.b1 L) (jn h1.b2 B) (jn h2.b1 Q) (jn h2.b2 Z) (h (rd (p.1*q.2+q.1*p.2) (p.2*q.2)) (.MC (Int.mul_pos h1.pos h2.pos) (Int.mul_pos h1.qB h2.qB) ?_ ?_ (ml h1.b2 h2.b2)))
 ·have E:=h1.eq
  have V:=h2.eq;generalize p.1=x at*;generalize p.2=y at*;generalize q.1=z at*;generalize q.2=w at*
  calc(x*w+z*y)*(b*f)=(x*b)*w*f+(z*f)*y*b:=zr 0x7d3a747fb8c7bd911c62f3023e1f738dd99 rfl ..
   _=(a*f+e*b)*(y*w):=by rw[E,V];exact zr 0x1f4ddfe047c28dd9ef628f18e1fb1c62ed rfl ..
 ·exact zU (iQ (ml h1.b1 h2.b2) (le_of_ble_eq_true P)) (iQ (ml h2.b1 h1.b2) (le_of_ble_eq_true t))
theorem A7(i:Nat)(h1:Qv p a b I J)(h2:Qv q e f M j)(l:(Nat.ble I 40&&Nat.ble J 40&&Nat.ble M 40&&Nat.ble j 40&&Nat.ble (I+j) i&&Nat.ble (M+J) i)=true)(h:∀r,Qv r (a*f-e*b) (b*f) (i+1) (J+j)→K (.j (ah r)) []):FF 8 [.j (ah p),.j (ah q)] K X:=by
 simp only[Bool.and_eq_true]at l;obtain⟨⟨⟨⟨⟨L,B⟩,Q⟩,Z⟩,P⟩,t⟩:=l;refine Kz h1.pos h2.pos (jn h1.b1 L) (jn h1.b2 B) (jn h2.b1 Q) (jn h2.b2 Z) (h (rd (p.1*q.2+(0-q.1)*p.2) (p.2*q.2)) (.MC (Int.mul_pos h1.pos h2.pos) (Int.mul_pos h1.qB h2.qB) ?_ ?_ (ml h1.b2 h2.b2)))
 ·have E:=h1.eq
  have V:=h2.eq;generalize p.1=x at*;generalize p.2=y at*;generalize q.1=z at*;generalize q.2=w at*
  calc(x*w+(0-z)*y)*(b*f)=(x*b)*w*f-(z*f)*y*b:=zr 0x1f4e9d1fee31ef644718c2408f88130b38dd99 rfl ..
   _=(a*f-e*b)*(y*w):=by rw[E,V];exact zr 0x1f4ddfe047c28e05ef628f18e1fb1c6303 rfl ..
 ·have b2:=h2.b1
  exact zU (iQ (ml h1.b1 h2.b2) (le_of_ble_eq_true P)) (iQ (ml (zl 30054314634867 rfl b2) h1.b2) (le_of_ble_eq_true t))
theorem By(h1:Qv p a b I J)(h2:Qv q e f i j)(l:(Nat.ble I 40&&Nat.ble J 40&&Nat.ble i 40&&Nat.ble j 40)=true)(h:∀r,Qv r (a*e) (b*f) (I+i) (J+j)→K (.j (ah r)) []):FF 9 [.j (ah p),.j (ah q)] K X:=by
 simp only[Bool.and_eq_true]at l;obtain⟨⟨⟨L,B⟩,Q⟩,Z⟩:=l;refine Mh h1.pos h2.pos (jn h1.b1 L) (jn h1.b2 B) (jn h2.b1 Q) (jn h2.b2 Z) (h (rd (p.1*q.1) (p.2*q.2)) (.MC (Int.mul_pos h1.pos h2.pos) (Int.mul_pos h1.qB h2.qB) ?_ (ml h1.b1 h2.b1) (ml h1.b2 h2.b2)));have E:=h1.eq;have V:=h2.eq;generalize p.1=x at*;generalize p.2=y at*;generalize q.1=z at*;generalize q.2=w at*
 calc(x*z)*(b*f)=(x*b)*(z*f):=zr 0x37533f21c70fb9c719 rfl ..
  _=(a*e)*(y*w):=by rw[E,V];exact zr 0x37533f21c70fb9c719 rfl ..
theorem yH(h1:Qv p a b I J)(h2:Qv q e f i j)(H:0<q.1)(O:0<e)(l:(Nat.ble I 40&&Nat.ble J 40&&Nat.ble i 40&&Nat.ble j 40)=true)(h:∀r,Qv r (a*f) (b*e) (I+j) (J+i)→K (.j (ah r)) []):FF 10 [.j (ah p),.j (ah q)] K X:=by
 simp only[Bool.and_eq_true]at l;obtain⟨⟨⟨L,B⟩,Q⟩,Z⟩:=l;refine KO h1.pos h2.pos H (jn h1.b1 L) (jn h1.b2 B) (jn h2.b1 Q) (jn h2.b2 Z) (h (rd (p.1*q.2) (p.2*q.1)) (.MC (Int.mul_pos h1.pos H) (Int.mul_pos h1.qB O) ?_ (ml h1.b1 h2.b2) (ml h1.b2 h2.b1)));have E:=h1.eq;have V:=h2.eq;generalize p.1=x at*;generalize p.2=y at*;generalize q.1=z at*;generalize q.2=w at*
 calc(x*w)*(b*e)=(x*b)*(e*w):=zr 0x37365f21c70fb9c719 rfl ..
  _=(a*f)*(y*z):=by rw[E,←V];exact zr 0x375df851c70fb9c719 rfl ..
noncomputable def oV:Option PR→V
|some p=>ah p
|.none=>.none
noncomputable def AY(K:Rv→List Mine.Internal.S→Prop)(X:Str→Prop):Str⊕List PR→Prop
|.inl s=>X s
|.inr l=>K (.j (.o (l.map ah))) []
noncomputable def Lo(F:List PR):Option PR→Prop
|some a=>a∈F∧∀b∈F,aM a b≤0
|.none=>F=[]
noncomputable def Hi(F:List PR):Option PR→Prop
|some a=>a∈F∧∀b∈F,aM b a≤0
|.none=>F=[]
theorem Lo.add(hF:∀p∈F,aK p)(hx:aK x)(h:Lo F o)(hi:∀a,o=some a→aM a x≤0)(hs:∃a,o=some a):Lo (F++[x]) o:=by
 obtain⟨a,rfl⟩:=hs;refine⟨mem_append.mpr (.inl h.1),λb hb=> ?_⟩;rcases mem_append.mp hb with hb|hb
 ·exact h.2 b hb
 ·rw[mem_singleton]at hb;subst hb;exact hi a rfl
theorem Lo.new(hF:∀p∈F,aK p)(hx:aK x)(h:Lo F o)(hi:∀a,o=some a→aM x a≤0):Lo (F++[x]) (some x):=by
 refine⟨mem_append.mpr (.inr (.head _)),λb hb=> ?_⟩;rcases mem_append.mp hb with hb|hb
 ·cases o with
  |none=>rw[(h:F=[])]at hb;cases hb
  |some a=>exact cU hx (hF a h.1) (hF b hb) (hi a rfl) (h.2 b hb)
 ·rw[mem_singleton]at hb;subst hb;rw[cJ];decide
theorem Hi.add(hF:∀p∈F,aK p)(hx:aK x)(h:Hi F o)(hi:∀a,o=some a→aM x a≤0)(hs:∃a,o=some a):Hi (F++[x]) o:=by
 obtain⟨a,rfl⟩:=hs;refine⟨mem_append.mpr (.inl h.1),λb hb=> ?_⟩;rcases mem_append.mp hb with hb|hb
 ·exact h.2 b hb
 ·rw[mem_singleton]at hb;subst hb;exact hi a rfl
theorem Hi.new(hF:∀p∈F,aK p)(hx:aK x)(h:Hi F o)(hi:∀a,o=some a→aM a x≤0):Hi (F++[x]) (some x):=by
 refine⟨mem_append.mpr (.inr (.head _)),λb hb=> ?_⟩;rcases mem_append.mp hb with hb|hb
 ·cases o with
  |none=>rw[(h:F=[])]at hb;cases hb
  |some a=>exact cU (hF b hb) (hF a h.1) hx (h.2 b hb) (hi a rfl)
 ·rw[mem_singleton]at hb;subst hb;rw[cJ];decide
noncomputable def GF(K:Rv→List Mine.Internal.S→Prop)(X:Str→Prop):List PR→Prop
|[]=>X mF
|low::r=>K (.j (.L [ah low,ah ((low::r).getLast (cons_ne_nil _ _))])) []
theorem wO(H:∀I∈xs,ik true I)(h:GF K X (aI (dq xs))):FF 66 [.j (.o (xs.map wv))] K X:=by
 refine de 66 rfl rfl rfl λG T=> ?_;have U:∀p∈dq xs,aK p:=λp P=>(H _ (cH P).1).1.num;refine aw (λ_ h=>h) (aa rfl) (aw (λ_ h=>h) (aa rfl) ?_);refine cQ (λ_ h=>h) (λj ρ=>∃o O s,fu s∧Lo (dq (xs.take j)) o∧Hi (dq (xs.take j)) O∧ρ=[.j (.o (xs.map wv)),.j (oV o),.j (oV O),s]) ⟨.none,.none,.y,.inl rfl,rfl,rfl,rfl⟩ ?_ ?_
 ·rintro j v ρ e ⟨o,O,s,h3,lo,M,rfl⟩
  refine⟨aq rfl h3,λt R=> ?_⟩;rw[getElem?_map]at e;obtain⟨I,Q,rfl⟩:=Option.map_eq_some_iff.mp e;have u:=H I (mem_of_getElem? Q);have E:dq (xs.take (j+1))=dq (xs.take j)++(oY I).toList:=by
   unfold dq;rw[take_add_one,Q,filterMap_append];cases q:oY I<;>simp[q]
  have A:∀p∈dq (xs.take j),aK p:=λp P=>by
   obtain⟨a,b⟩:=cH P;exact(H _ (mem_of_mem_take a)).1.num
  have skip:oY I=none→t [.j (.o (xs.map wv)),.j (oV o),.j (oV O),.j (wv I)]:=λq=>R _ ⟨o,O,_,.inr ⟨_,rfl⟩,by rw[E,q];simpa using lo,by rw[E,q];simpa using M,rfl⟩;refine ip (d8 (λk d=>ji T rfl u d) (λq=> ?_) λq=> ?_)
  ·cases I with
   |nu p=>cases q
   |na=>exact skip rfl
   |lI=>exact skip rfl
  ·cases I with
   |na=>cases q
   |lI=>cases q
   |nu x=>
    have N:=u.1.num;refine gh (λ_ h=>h) (λq=> ?_) λq=> ?_
    ·exact skip (by have:=of_decide_eq_true q;show(if 0<x.2 then some x else none)=none;rw[if_neg (by exact zl 30761165012 rfl (dT q:))])
    ·have f:0<x.2:=by have:=of_decide_eq_false q;have:=N.nn;exact zl 673160552643618 rfl (dF q:) this
     have B:oY (.nu x)=some x:=by show(if 0<x.2 then some x else none)=_;rw[if_pos f]
     rw[B]at E;change dq (xs.take (j+1))=dq (xs.take j)++[x]at E;have C:∀V,Lo (dq (xs.take j)++[x]) V→ex G (.cons (.iff (.cL (.cons (.D (.ag .is (.d 2) .X)) (.cons (.D (.ag .gt (.call 14 (.cons (.d 3) (.cons (.d 2) .nil))) (.p 0))) .nil))) (.cons (.C 2 (.d 3)) .nil) .nil) .nil) [.j (.o (xs.map wv)),.j (oV V),.j (oV O),.j (ah x)] t t (λr ρ=>K r (bf [.j (.o (xs.map wv))] ρ)) X:=by
      intro V L;cases O with
      |none=>
       refine ip (d8 (b:=true) (λ_ h=>h) (λ_=> ?_) λq=>by cases q);refine R _ ⟨V,some x,_,.inr ⟨_,rfl⟩,by rw[E];exact L,?_,rfl⟩;rw[E];exact Hi.new A N M λa z=>by cases z
      |some a=>
       refine ip (d8 (λ_ h=>h) (λq=>by cases q) λ_=> ?_);refine gh (λk d=>T.c 14 rfl _ _ _ (cT N (A a M.1) d)) (λq=> ?_) λq=> ?_
       ·have q:=of_decide_eq_true q
        refine R _ ⟨V,some x,_,.inr ⟨_,rfl⟩,by rw[E];exact L,?_,rfl⟩;rw[E];exact Hi.new A N M λa z=>by cases z;rw[bQ];rename_i Z;exact zl 6894113320 rfl (dT Z:)
       ·have q:=of_decide_eq_false q
        refine ae (ae (R _ ⟨V,some a,_,.inr ⟨_,rfl⟩,by rw[E];exact L,?_,rfl⟩));rw[E];exact Hi.add A N M (λb z=>by cases z;rename_i Z;exact zl 26060190910 rfl (dF Z:)) ⟨_,rfl⟩
     apply ae;cases o with
     |none=>
      refine ip (d8 (b:=true) (λ_ h=>h) (λ_=> ?_) λq=>by cases q);exact C (some x) (Lo.new A N lo λa z=>by cases z)
     |some a=>
      refine ip (d8 (λ_ h=>h) (λq=>by cases q) λ_=> ?_);refine gh (λk d=>T.c 14 rfl _ _ _ (cT N (A a lo.1) d)) (λq=> ?_) λq=> ?_
      ·have q:=of_decide_eq_true q
       exact C (some x) (Lo.new A N lo λb z=>by cases z;rename_i Z;exact zl 215359689 rfl (dT Z:))
      ·have q:=of_decide_eq_false q
       exact ae (C (some a) (Lo.add A N lo (λb z=>by cases z;rw[bQ];rename_i Z;exact zl 834191057321 rfl (dF Z:)) ⟨_,rfl⟩))
 ·rintro ρ ⟨o,O,s,h3,lo,M,rfl⟩
  rw[length_map,take_length]at lo M;have m:=aZ (dq xs);have ss:=dm U;cases o with
  |none=>
   have e:=lo;rw[e]at h;exact ai (b:=true) (λ_ h=>h) (λ_=>h) λq=>by cases q
  |some a=>
   have g:=m.mem_iff.mpr lo.1;cases O with
   |none=>have e:=M;rw[e]at lo;cases lo.1
   |some c=>
    have F:=m.mem_iff.mpr M.1;have W:=λb hb=>lo.2 b (m.mem_iff.mp hb);have Y:=λb hb=>M.2 b (m.mem_iff.mp hb);have S:=λp P=>U p (m.mem_iff.mp P);generalize aI (dq xs)=l at h ss g F W Y S;cases l with
    |nil=>cases g
    |cons low r=>
     have Q:a=low:=by
      have n:=(List.pairwise_cons.mp ss).1;rcases mem_cons.mp g with rfl|g
      ·rfl
      ·exact oZ (S a (.tail _ g)) (S low (.head _)) (W low (.head _)) (n a g)
     have y:c=(low::r).getLast (cons_ne_nil _ _):=by
      have D:=getLast_mem (cons_ne_nil low r);refine oZ (S c F) (S _ D) ?_ (Y _ D);obtain⟨i,J,rfl⟩:=getElem_of_mem F;rw[getLast_eq_getElem]
      by_cases q:i=(low::r).length-1
      ·subst q;rw[cJ];decide
      ·exact pairwise_iff_getElem.mp ss i ((low::r).length-1) J (zl 24102590210 rfl J) (zl 0x151737563d5b22902 rfl J q)
     subst Q;subst y;refine ai (b:=false) (λ_ h=>h) (λq=>by cases q) λ_=>ae ?_;exact⟨af rfl,h⟩
theorem Qv.zero(h:Qv p N RC i j):p.1=0↔N=0:=by
 have e:=h.eq;constructor
 ·intro z
  rw[z,Int.zero_mul]at e;rcases Int.mul_eq_zero.mp e.symm with q|q
  ·exact q
  ·have:=h.pos;exact zl 22905540976852 rfl q this
 ·intro z
  rw[z,Int.zero_mul]at e;rcases Int.mul_eq_zero.mp e with q|q
  ·exact q
  ·have:=h.qB;exact zl 22905540976852 rfl q this
theorem wF:GF K X (low::r)=K (.j (.L [ah low,ah ((low::r).getLast (cons_ne_nil _ _))])) []:=rfl
theorem mN(H:Sub n G)(f:Nat.blt 2 n=true)(h:K (.j (ah (m,1))) []):G 2 [vi m] K X:=H.c 2 f _ _ _ (wt h)
theorem dR{a b c:Int}(h1:0<a)(h2:0<b)(h3:0<c):0<a*b*c:=Int.mul_pos (Int.mul_pos h1 h2) h3
theorem oK(P:PR→Prop)(h:∀k:Rv→R→Prop,(∀p,P p→k (.j (ah p)) ρ1)→ev G e ρ k X)(H:bp ρ1 i)(h1:∀p,P p→ex G r (ρ1.set i (.j (ah p))) x C t X):ex G (.cons (.C i e) r) ρ x C t X:=h _ λp u=>aU H (h1 p u)
theorem oL(x:∀I∈xs,ik true I)(H:m≤40)(h:AY K X (GO xs m)):FF 67 [.j (.o (xs.map wv)),vi m] K X:=by
 refine fw 67 rfl rfl λG O=> ?_;have a:aA=1000000:=rfl;unfold GO at h;refine ip (d8 (b:=false) (λ_ h=>h) (λq=>by cases q) λ_=> ?_);refine gh (b:=decide (m<2)) (λ_ h=>h) (λq=> ?_) λq=> ?_
 ·rw[if_pos (of_decide_eq_true q)]at h;exact h
 rw[if_neg (of_decide_eq_false q)]at h;have m2:=of_decide_eq_false q;refine ae ?_;refine O.c 28 rfl _ _ _ (IC (zl 0xf5b574717d55d3e rfl H) ?_);refine O.c 66 rfl _ _ _ (wO x ?_);have s:∀p∈aI (dq xs),Sm p∧0<p.2:=λp hp=>by
  have:=(aZ (dq xs)).mem_iff.mp hp;exact⟨(x _ (cH this).1).1,(cH this).2⟩
 generalize aI (dq xs)=l at h s;cases l with
 |nil=>exact h
 |cons low r=>
  change AY K X (.inr (eF low ((low::r).getLast (List.cons_ne_nil _ _)) m))at h;rw[wF];have J:=s _ (List.getLast_mem (List.cons_ne_nil low r));have S:=s low (.head _);generalize(low::r).getLast (List.cons_ne_nil _ _)=top at h J⊢;have L:=S.2;have tp:=J.2;have B:∀{p:PR},Sm p∧0<p.2→Qv p p.1 p.2 5 2:=λ{p}h=>by
   obtain⟨h,h'⟩:=h;rcases h with⟨h1,h2,h3,h4⟩|⟨h1,h2⟩
   ·exact .of h1 h2 (zl 920200751983464 rfl h4) (zl 0xd5e355420528 rfl h' h3)
   ·exact(zl 31155043112 rfl h' h1).elim
  have Q:=B S;have V:=B J;have RC:Qv (1000,1) 1000 1 10 1:=.int (by decide);have N:Qv (2,1) 2 1 2 1:=.int (by decide);have y:Qv (m,1) m 1 6 1:=.int (zl 0x4cb192cf5a1c239d3e rfl H (dF q:));refine O.c 8 rfl _ _ _ (A7 7 V Q rfl λA h4=> ?_);unfold eF at h;refine ai (b:=decide (A.1=0)) (ρ':=[.j (.o (xs.map wv)),vi m,.j (ah low),.j (ah top),.j (ah A),.y,.y,.y,.y,.y]) (λ_ h=>h) (λq=> ?_) λq=> ?_
  ·rw[if_pos (h4.zero.mp (of_decide_eq_true q))]at h
   generalize E:(if low.1≠0 then(low.1.natAbs:Int)else 1)=n at h;have lz:low.1=0→low.2=1:=λz=>by
    have:=Q.oM;rw[z,Int.gcd_zero_left]at this;exact zl 0xc71fa5a09528 rfl S.2 this
   have b7:n.natAbs<2^5:=by have:=Q.b1;subst E;split<;>(first|exact zl 30037915692659 rfl this|exact zm 11889607 rfl)
   have np:0<n:=by subst E;split<;>(first|exact zl 22005727352098 rfl ‹_›|exact zm 6150 rfl)
   have gn:Int.gcd n low.2=1:=by
    have g:=Q.oM;subst E;split
    ·rw[Int.gcd,Int.natAbs_natCast];exact g
    ·exact Int.gcd_one_left _
   have qw:Qv (n,low.2) n low.2 5 2:=.of (p:=(n,low.2)) L gn b7 Q.b2;have o:∀nx ct ρ,ρ=[.j (.o (xs.map wv)),vi m,.j (ah low),.j (ah top),.j (ah (n,low.2)),.y,.y,.y,.y,.y]→ex G (.cons (.C 5 (.call 10 (.cons (.d 4) (.cons (.call 2 (.cons (.p 1000) .nil)) .nil)))) (.cons (.C 2 (.call 8 (.cons (.d 2) (.cons (.d 5) .nil)))) (.cons (.C 4 (.call 9 (.cons (.d 5) (.cons (.call 2 (.cons (.p 2) .nil)) .nil)))) (.cons (.C 6 (.call 10 (.cons (.d 4) (.cons (.call 2 (.cons (.d 1) .nil)) .nil)))) (.cons (.ret (.Y (.comp 8 (.eJ (.cons (.w .add (.d 1) (.p 1)) .nil)) .no (.call 7 (.cons (.d 2) (.cons (.call 9 (.cons (.d 6) (.cons (.call 2 (.cons (.d 8) .nil)) .nil))) .nil)))))) .nil))))) ρ
    nx ct (λr ρ=>K r (bf [.j (.o (xs.map wv)),vi m] ρ)) X:=by
    rintro nx ct ρ rfl;refine oK (λr=>Qv r (n*1) (low.2*1000) 6 12) (ρ1:=[.j (.o (xs.map wv)),vi m,.j (ah low),.j (ah top),.j (ah (n,low.2)),.y,.y,.y,.y,.y]) (λk R=> ?_) (aa rfl) λT h5=> ?_
    ·refine mN O rfl ?_
     exact O.c 10 rfl _ _ _ (yH qw RC (by decide) (by decide) rfl R)
    refine oK (λr=>Qv r (low.1*(low.2*1000)-n*1*low.2) (low.2*(low.2*1000)) 18 14) (ρ:=[.j (.o (xs.map wv)),vi m,.j (ah low),.j (ah top),.j (ah (n,low.2)),.j (ah T),.y,.y,.y,.y]) (ρ1:=[.j (.o (xs.map wv)),vi m,.j (ah low),.j (ah top),.j (ah (n,low.2)),.j (ah T),.y,.y,.y,.y]) (λk R=> ?_) (aq rfl (.inr ⟨_,rfl⟩)) λP h2=> ?_
    ·exact O.c 8 rfl _ _ _ (A7 17 Q h5 rfl R)
    refine oK (λr=>Qv r (n*1*2) (low.2*1000*1) 8 13) (ρ:=[.j (.o (xs.map wv)),vi m,.j (ah P),.j (ah top),.j (ah (n,low.2)),.j (ah T),.y,.y,.y,.y]) (ρ1:=[.j (.o (xs.map wv)),vi m,.j (ah P),.j (ah top),.j (ah (n,low.2)),.j (ah T),.y,.y,.y,.y]) (λk R=> ?_) (aq rfl (.inr ⟨_,rfl⟩)) λA h4=> ?_
    ·refine mN O rfl ?_
     exact O.c 9 rfl _ _ _ (By h5 N rfl R)
    refine oK (λr=>Qv r (n*1*2*1) (low.2*1000*1*m) 9 19) (ρ:=[.j (.o (xs.map wv)),vi m,.j (ah P),.j (ah top),.j (ah A),.j (ah T),.y,.y,.y,.y]) (ρ1:=[.j (.o (xs.map wv)),vi m,.j (ah P),.j (ah top),.j (ah A),.j (ah T),.y,.y,.y,.y]) (λk R=> ?_) (aa rfl) λY h6=> ?_
    ·refine mN O rfl ?_
     exact O.c 10 rfl _ _ _ (yH h4 y (by show 0<m;rename_i Z _ _;exact zl 21735070473 rfl (dF Z:)) (by rename_i Z _ _;exact zl 21735070473 rfl (dF Z:)) rfl R)
    have RD:0<low.2*low.2*1000:=by have:=Int.mul_pos L L;exact zl 0xf7afbc6e5d28 rfl this
    have e2:P=rd (low.1*low.2*1000-n*low.2) (low.2*low.2*1000):=h2.rd RD (zr 0x128c083f3f4f07020e38c0c381087c6a02e438107dce059 rfl _ _ _);have RE:Qv P P.1 P.2 18 14:=.of h2.pos h2.oM h2.b1 h2.b2;have p2:=h2.pos;have h':AY K X (.inr ((List.range (m+1).toNat).map λ(i:Nat)=>rd ((rd (low.1*low.2*1000-n*low.2) (low.2*low.2*1000)).1*(low.2*1000)*m+(0+1*(i:Int))*(2*n)*(rd (low.1*low.2*1000-n*low.2) (low.2*low.2*1000)).2) ((rd (low.1*low.2*1000-n*low.2) (low.2*low.2*1000)).2*(low.2*1000)*m))):=h;rw[←e2]at h';refine iB (fR ?_);refine fA (ρ:=[.j (.o (xs.map wv)),vi m,.j (ah P),.j (ah top),.j (ah A),.j (ah T),.j (ah Y),.y,.y,.y]) (items:=ao 0 (m+1).toNat 1) (f:=λv=>match v with|.int i=>ah (rd (P.1*(low.2*1000)*m+i*(2*n)*P.2) (P.2*(low.2*1000)*m))|v=>v) ?_ (by simp[ao];exact zl 0x19f29f916a5c00e29371d3e rfl H a) (aa rfl) ?_ ?_
    ·intro k R
     refine hI (G:=G) (X:=X) (e:=.w .add (.d 1) (.p 1)) (m:=m+1) ?_ (by rename_i Z _ _;exact zl 27359563942409 rfl (dF Z:)) (zl 0x2ba4b852201d3e rfl H) R;exactλ_ h=>h
    ·intro v u k R
     obtain⟨i,M,rfl⟩:=List.mem_map.mp u;have M:=List.mem_range.mp M;have F:Qv ((0+1*(i:Int)),1) (0+1*(i:Int)) 1 6 1:=.int (zl 0x638b44bdb0fa5cc3d9cf825d3e rfl H M);generalize(0+1*(i:Int))=U at R F;refine mN O rfl ?_;refine O.c 9 rfl _ _ _ (By h6 F rfl λr7 W=> ?_);refine O.c 7 rfl _ _ _ (BW 38 RE W rfl λD h8=>R _ ?_);have C:0<P.2*(low.2*1000)*m:=Int.mul_pos (Int.mul_pos p2 (zl 0xf7afbc6e5d28 rfl S.2)) (by rename_i Z _ _ _;exact zl 21735070473 rfl (dF Z:));have t:=h8.rd (N':=P.1*(low.2*1000)*m+U*(2*n)*P.2) C (zr 0x7d3828b8107e318f77efd09763c776041f738bb3bb020ff778f81406e02f18c63a145c083f18c5cdd99 rfl _ _ _ _ _ _);show ah D=_;rw[t]
    ·have:=h'
     change K (.j (.o ((List.map (λ(i:Nat)=>rd (P.1*(low.2*1000)*m+(0+1*(i:Int))*(2*n)*P.2) (P.2*(low.2*1000)*m)) _).map ah))) []at this;rw[List.map_map]at this;unfold ao;rw[List.map_map];exact this
   refine aw (v:=.j (ah low)) (ρ1:=[.j (.o (xs.map wv)),vi m,.j (ah low),.j (ah top),.j (ah A),.y,.y,.y,.y,.y]) (λ_ h=>h) (aq rfl (.inr ⟨_,rfl⟩)) ?_;refine ai (b:=decide (low.1<0)) (ρ':=[.j (.o (xs.map wv)),vi m,.j (ah low),.j (ah top),.j (ah low),.y,.y,.y,.y,.y]) (λ_ h=>h) (λq=> ?_) λq=> ?_
   ·have q:=of_decide_eq_true q
    have e:0-low.1=n:=by rw[if_pos (by rename_i Z;exact zl 31155055817 rfl (dT Z:))]at E;rename_i Z;exact zl 0x144ac23f2a1fcb8b rfl E (dT Z:)
    refine aw (v:=.j (nv (0-low.1) low.2)) (ρ1:=[.j (.o (xs.map wv)),vi m,.j (ah low),.j (ah top),.j (ah low),.y,.y,.y,.y,.y]) (λk R=>O.c 6 rfl _ _ _ (GL R)) (aq rfl (.inr ⟨_,rfl⟩)) (ae (o _ _ _ ?_));rw[e];rfl
   ·have q:=of_decide_eq_false q
    refine ai (b:=decide (low.1=0)) (ρ':=[.j (.o (xs.map wv)),vi m,.j (ah low),.j (ah top),.j (ah low),.y,.y,.y,.y,.y]) (λ_ h=>h) (λN=> ?_) λN=> ?_
    ·have N:=of_decide_eq_true N
     have e:1=n:=by rw[if_neg (by rename_i Z;exact zl 3825736305364 rfl (dT Z:))]at E;exact zl 180313381 rfl E
     refine aw (v:=.j (ah (1,1))) (ρ1:=[.j (.o (xs.map wv)),vi m,.j (ah low),.j (ah top),.j (ah low),.y,.y,.y,.y,.y]) (λk R=>mN O rfl R) (aq rfl (.inr ⟨_,rfl⟩)) (ae (ae (o _ _ _ ?_)));show[.j (.o (xs.map wv)),vi m,.j (ah low),.j (ah top),.j (nv 1 1),.y,.y,.y,.y,.y]=_;rw[show ah (n,low.2)=nv n low.2 from rfl,lz N,←e]
    ·have N:=of_decide_eq_false N
     have e:low.1=n:=by rw[if_pos (by rename_i Z;exact zl 3769763562274 rfl (dF Z:))]at E;exact zl 0x26598eccfffcb8b rfl E q
     refine ae (ae (o _ _ _ ?_));show[.j (.o (xs.map wv)),vi m,.j (ah low),.j (ah top),.j (nv low.1 low.2),.y,.y,.y,.y,.y]=_;rw[e]
  ·rw[if_neg (λz=>of_decide_eq_false q (h4.zero.mpr z))]at h
   have RJ:top.1*low.2-low.1*top.2=top.1*low.2-low.1*top.2:=rfl;have RK:=h4;generalize hn:top.1*low.2-low.1*top.2=n at h h4;generalize hd:top.2*low.2=d at h h4;have c:=h4.qB;have bn:n.natAbs<2^8:=by subst hn;exact xK (ml V.b1 Q.b2) (ml Q.b1 V.b2)
   have bd:d.natAbs<2^4:=by subst hd;exact ml V.b2 Q.b2
   unfold BN at h;refine ae ?_;refine mN O rfl ?_;refine O.c 10 rfl _ _ _ (yH h4 y (by show 0<m;rename_i Z;exact zl 21735070473 rfl (dF Z:)) (by rename_i Z;exact zl 21735070473 rfl (dF Z:)) rfl λY h6=> ?_);have C:0<low.2*d*m:=dR L c (by rename_i Z;exact zl 21735070473 rfl (dF Z:));refine aw (v:=.U (((List.range (m+1).toNat).map λ(i:Nat)=>rd (low.1*d*m+(0+1*(i:Int))*n*low.2) (low.2*d*m)).map ah)) (ρ1:=[.j (.o (xs.map wv)),vi m,.j (ah low),.j (ah top),.j (ah A),.y,.j (ah Y),.y,.y,.y]) (λk R=> ?_) (aa rfl) ?_
   ·refine fA (ρ:=[.j (.o (xs.map wv)),vi m,.j (ah low),.j (ah top),.j (ah A),.y,.j (ah Y),.y,.y,.y]) (items:=ao 0 (m+1).toNat 1) (f:=λv=>match v with|.int i=>ah (rd (low.1*d*m+i*n*low.2) (low.2*d*m))|v=>v) ?_ (by simp[ao];exact zl 0x19f29f916a5c00e29371d3e rfl H a) (aa rfl) ?_ ?_
    ·intro k R
     refine hI (G:=G) (X:=X) (e:=.w .add (.d 1) (.p 1)) (m:=m+1) ?_ (by rename_i Z _ _;exact zl 27359563942409 rfl (dF Z:)) (zl 0x2ba4b852201d3e rfl H) R;exactλ_ h=>h
    ·intro v u k R
     obtain⟨i,M,rfl⟩:=List.mem_map.mp u;have M:=List.mem_range.mp M;have F:Qv ((0+1*(i:Int)),1) (0+1*(i:Int)) 1 6 1:=.int (zl 0x638b44bdb0fa5cc3d9cf825d3e rfl H M);generalize(0+1*(i:Int))=U at R F;refine mN O rfl ?_;refine O.c 9 rfl _ _ _ (By h6 F rfl λr7 W=> ?_);refine O.c 7 rfl _ _ _ (BW 17 Q W rfl λD h8=>R _ ?_);have t:=h8.rd (N':=low.1*d*m+U*n*low.2) C (zr 0x1f4e06f8f77efd08f1cd8e2ece7bde3e05002f18e837c5cdd99 rfl _ _ _ _ _ _);show ah D=_;rw[t]
    ·rw[List.map_map]at R
     unfold ao;rw[List.map_map];exact R
   have E:∀i:Int,i.natAbs<2^6→Qv (rd (low.1*d*m+i*n*low.2) (low.2*d*m)) (low.1*d*m+i*n*low.2) (low.2*d*m) 17 12:=λi M=>
    .MC C C rfl (zU (iQ (ml (ml Q.b1 bd) y.b1) (by decide)) (ml (ml M bn) Q.b2)) (ml (ml Q.b2 bd) y.b1)
   have g0:((List.range (m+1).toNat).map λ(i:Nat)=>rd (low.1*d*m+(0+1*(i:Int))*n*low.2) (low.2*d*m))[0]? =some (rd (low.1*d*m+0*n*low.2) (low.2*d*m)):=by
    rw[List.getElem?_map,List.getElem?_range (by rename_i Z;exact zl 875496013041161 rfl (dF Z:))];rfl
   have w:((List.range (m+1).toNat).map λ(i:Nat)=>rd (low.1*d*m+(0+1*(i:Int))*n*low.2) (low.2*d*m))[m.toNat]? =some (rd (low.1*d*m+m*n*low.2) (low.2*d*m)):=by
    rw[List.getElem?_map,List.getElem?_range (by rename_i Z;exact zl 7003963315230217 rfl (dF Z:))];show some (rd (low.1*d*m+(0+1*(m.toNat:Int))*n*low.2) (low.2*d*m))=_;rw[show(0+1*(m.toNat:Int))=m by rename_i Z;exact zl 0x4ec6efcefa4d3209 rfl (dF Z:)]
   have len:((List.range (m+1).toNat).map λ(i:Nat)=>rd (low.1*d*m+(0+1*(i:Int))*n*low.2) (low.2*d*m)).length=(m+1).toNat:=by simp
   generalize((List.range (m+1).toNat).map λ(i:Nat)=>rd (low.1*d*m+(0+1*(i:Int))*n*low.2) (low.2*d*m))=l at h g0 w len;have q0:=E 0 (by decide);have qM:=E m (by rename_i Z;exact zl 0x4cb192cf5a1c239d3e rfl H (dF Z:));generalize rd (low.1*d*m+0*n*low.2) (low.2*d*m)=p0 at g0 q0;generalize rd (low.1*d*m+m*n*low.2) (low.2*d*m)=pM at w qM;have RF:0<low.2*d*1000:=dR L c (zm 11274374 rfl);have RG:0<top.2*d*1000:=dR tp c (zm 11274374 rfl);refine oK (λr=>Qv r (n*1) (d*1000) 9 14) (ρ:=[.j (.o (xs.map wv)),vi m,.j (ah low),.j (ah top),.j (ah A),.y,.j (ah Y),.U (l.map ah),.y,.y]) (ρ1:=[.j (.o (xs.map wv)),vi m,.j (ah low),.j (ah top),.j (ah A),.y,.j (ah Y),.U (l.map ah),.y,.y]) (λk R=> ?_) (aa rfl) λT h5=> ?_
   ·refine mN O rfl ?_
    exact O.c 10 rfl _ _ _ (yH h4 RC (by decide) (by decide) rfl R)
   refine iy (ρ:=[.j (.o (xs.map wv)),vi m,.j (ah low),.j (ah top),.j (ah A),.j (ah T),.j (ah Y),.U (l.map ah),.y,.y]) (ρ1:=[.j (.o (xs.map wv)),vi m,.j (ah low),.j (ah top),.j (ah A),.j (ah T),.j (ah Y),.U (l.map ah),.y,.y]) (l:=l.map ah) (v:=.j (ah (rd (low.1*d*1000-n*low.2) (low.2*d*1000)))) (j:=0) (l':=(l.set 0 (rd (low.1*d*1000-n*low.2) (low.2*d*1000))).map ah) (λk R=> ?_) rfl rfl (kI (m:=0) (by decide) (by rw[len];rename_i Z;exact zl 875496013041161 rfl (dF Z:))) ?_
   ·refine az (v:=ah p0) (aC (j:=0) (by rw[List.getElem?_map,g0];rfl)) ?_
    refine O.c 8 rfl _ _ _ (A7 31 q0 h5 rfl λD h8=> ?_);have t:=h8.rd (N':=low.1*d*1000-n*low.2) RF (zr 0x29c3020fe791e31d9cc0e041c71818702148f1cf23c7405e438107f673cd8e6c71766059 rfl _ _ _ _ _);rw[←t]at R;exact R
   have RH:(l.set 0 (rd (low.1*d*1000-n*low.2) (low.2*d*1000)))[m.toNat]? =some pM:=by rw[List.getElem?_set_ne (by rename_i Z;exact zl 0x6c39ee760909 rfl (dF Z:))];exact w
   refine iy (ρ1:=[.j (.o (xs.map wv)),vi m,.j (ah low),.j (ah top),.j (ah A),.j (ah T),.j (ah Y),.U ((l.set 0 (rd (low.1*d*1000-n*low.2) (low.2*d*1000))).map ah),.y,.y]) (l:=(l.set 0 (rd (low.1*d*1000-n*low.2) (low.2*d*1000))).map ah) (v:=.j (ah (rd (top.1*d*1000+n*top.2) (top.2*d*1000)))) (j:=m) (l':=((l.set 0 (rd (low.1*d*1000-n*low.2) (low.2*d*1000))).set m.toNat (rd (top.1*d*1000+n*top.2) (top.2*d*1000))).map ah) (λk R=> ?_) rfl rfl (kI (by rename_i Z;exact zl 21731322377 rfl (dF Z:)) (by rw[List.length_set,len];rename_i Z;exact zl 7003963315230217 rfl (dF Z:))) ?_
   ·refine az (v:=ah pM) (cm (by rename_i Z;exact zl 21731322377 rfl (dF Z:)) (by rw[List.getElem?_map,RH];rfl)) ?_
    refine O.c 7 rfl _ _ _ (BW 31 qM h5 rfl λD h8=> ?_);have RI:low.1*d+n*low.2=top.1*low.2*low.2:=by subst hn;subst hd;exact zr 0x37644bc7363d25e05cdee6ed rfl _ _ _ _
    have t:=h8.rd (N':=top.1*d*1000+n*top.2) RG (by
     calc((low.1*d*m+m*n*low.2)*(d*1000)+n*1*(low.2*d*m))*(top.2*d*1000)=((low.1*d+n*low.2)*1000+n*low.2)*m*d*(top.2*d*1000):=zr 0x7d4b0215ef1a8a7303811672f38dd9766321c0857bc73c8f1d01790e041fd9cfb8e6c71765d99 rfl _ _ _ _ _ _
      _=(top.1*low.2*1000+n)*m*d*low.2*(top.2*d*1000):=by rw[RI];exact zr 0x7d4b022d3de3527436041c717663190e045a7bc76735e0e04218e31766319 rfl _ _ _ _ _ _
      _=(top.1*d*1000+n*top.2)*(low.2*d*m*(d*1000)):=by rw[←hd];exact zr 0x14e1810a478e1b23cfc63b3e0e04291dce2ed0e04291f63c68c8f886c0838e2ecc6319 rfl _ _ _ _ _)
    rw[←t]at R;exact R
   exact h
section
variable{K:Rv→List Mine.Internal.S→Prop}{X:Str→Prop}
theorem iw(x:∀I∈xs,ik true I)(L:xs.length≤1000)(H:iv cut)(h:AY K X (brk xs cut)):FF 68 [.j (.o (xs.map wv)),.j (.o (cut.map wv))] K X:=by
 refine de 68 rfl rfl rfl λG g=> ?_;have Q:aA=1000000:=rfl;have C:=H.len;unfold brk at h;refine cQ (λ_ h=>h) (λj ρ=>(∃S,fu S∧ρ=[.j (.o (xs.map wv)),.j (.o (cut.map wv)),S,.y,.y,.y])∧∀I∈cut.take j,hJ I=false) ⟨⟨.y,.inl rfl,rfl⟩,λI M=>by simp at M⟩ ?_ ?_
 ·rintro j v ρ e ⟨⟨S,h2,rfl⟩,n⟩
  refine⟨aq rfl h2,λt R=> ?_⟩;rw[getElem?_map]at e;obtain⟨I,E,rfl⟩:=Option.map_eq_some_iff.mp e;have V:=mem_of_getElem? E;refine ai (λk d=>ji g rfl (H.ok I V) d) (λq=> ?_) λq=> ?_
  ·rw[if_pos (.inr (mem_map.mpr ⟨I,V,q⟩))]at h
   exact h
  ·refine ae (ae (R _ ⟨⟨_,.inr ⟨_,rfl⟩,rfl⟩,λB M=> ?_⟩))
   rw[take_add_one,E]at M;rcases mem_append.mp M with M|M
   ·exact n B M
   ·have:B=I:=by simpa using M
    rw[this];exact q
 ·rintro ρ ⟨⟨S,h2,rfl⟩,n⟩
  rw[length_map,take_length]at n;refine ai (b:=decide (((cut.map wv).length:Int)=0)) (λ_ h=>h) (λq=> ?_) λq=> ?_
  ·have z:cut=[]:=by
    have:=of_decide_eq_true q;rw[length_map]at this;exact length_eq_zero_iff.mp (zl 4105157227 rfl this)
   rw[if_pos (.inl z)]at h;exact h
  have N:=of_decide_eq_false q;rw[length_map]at N;rw[if_neg (by
   rintro(z|z)
   ·subst z;exact N rfl
   ·obtain⟨I,M,z⟩:=mem_map.mp z
    rw[n I M]at z;cases z)]at h
  have P:=nD n;have wd:=H.wd;have O:=λp u=>(H.ok (.nu p) (by rw[P];exact List.mem_map.mpr ⟨p,u,rfl⟩)).1.num;have J:(DC cut).length≤100:=by rw[P,length_map]at C;exact C
  generalize DC cut=ps at P h O J;subst P;have Z:(ps.map It.nu).map wv=ps.map ah:=by rw[map_map];rfl
  rw[Z];rw[length_map]at N;apply ae;refine ai (b:=decide (((ps.map ah).length:Int)=1)) (λ_ h=>h) (λq=> ?_) λq=> ?_
  ·have q:=of_decide_eq_true q
   rw[length_map]at q
   match ps,q with
   |[p],_=>
    obtain⟨E,W⟩:=wd p rfl;obtain⟨a,b⟩:=p;change b=1 at E;subst E;refine g.c 11 rfl _ _ _ (xi ?_);exact g.c 67 rfl _ _ _ (oL x W h)
   |a::b::r,q=>simp at q;exact(zl 22396990999477 rfl q).elim
  ·have q:=of_decide_eq_false q
   rw[length_map]at q;have hb:AY K X (if Cx (aI ps)=true then .inl mU else .inr (aI ps)):=by
    match ps,q with
    |[],_=>exact absurd rfl N
    |[p],q=>exact absurd rfl q
    |a::b::r,q=>exact h
   apply ae;refine aw (v:=.j (.o ((aI ps).map ah))) (ρ1:=[.j (.o (xs.map wv)),.j (.o (ps.map ah)),S,.y,.y,.y]) (λk d=> ?_) (aa rfl) ?_
   ·refine g.c 30 rfl _ _ _ (CZ ?_)
    refine⟨af rfl,?_⟩;refine g.c 64 rfl _ _ _ (w6 O (λz=>by rw[z]at N;exact N rfl) J λl y sl=> ?_);have A:∀i∈l,i<ps.length:=λi M=>List.mem_range.mp (y.mem_iff.mp M);have T:l.length=ps.length:=by rw[y.length_eq,length_range]
    refine⟨by rw[d4,T];exact zl 0x27ab66bdf6b19419da55 rfl Q J,?_⟩;refine yK (k:=λr ρ=>k (.j r.v) ρ) (cond:=.no) (λ_=>true) (λv=>match v with|.int i=>ah (nZ ps i.toNat)|v=>v) (aa rfl) (λv _ k d=>d) ?_ [] _ (.inl rfl) ?_
    ·intro v w _ k d
     obtain⟨i,M,rfl⟩:=mem_map.mp w;exact az (aC (by rw[getElem?_map,rK (A i M)];rfl)) (d _ rfl)
    ·rw[filter_eq_self.mpr (λ_ _=>rfl),nil_append]
     have e:(nV l).map (λv=>match v with|.int i=>ah (nZ ps i.toNat)|v=>v)=(aI ps).map ah:=by
      rw[←uK O y sl];unfold nV;rw[map_map,map_map];rfl
     rw[e];exact d
   have sl:(aI ps).length≤100:=by rw[(aZ ps).length_eq];exact J
   have o:=λp u=>O p ((aZ ps).mem_iff.mp u);have U:1≤(aI ps).length:=by rw[(aZ ps).length_eq];exact zl 360651006623 rfl N
   generalize aI ps=l at hb sl o U;refine cQ (items:=ao 0 ((l.length:Int)-1).toNat 1) (λk d=> ?_) (λj ρ=>(∃s,fu s∧ρ=[.j (.o (xs.map wv)),.j (.o (ps.map ah)),S,.j (.o (l.map ah)),s,.y])∧∀i a,i<j→l[i]? =some a→l[i+1]? =some a→False) ⟨⟨.y,.inl rfl,rfl⟩,λi a h=>(zl 665066 rfl h).elim⟩ ?_ ?_
   ·refine hI (m:=((l.map ah).length:Int)-1) ?_ (by rw[List.length_map];exact zl 4379253220656 rfl U) (by rw[List.length_map];exact zl 0x2db170b3f113b1cf rfl sl) (by rw[List.length_map];exact d)
    exactλ_ h=>h
   ·rintro j v ρ e ⟨⟨s,h4,rfl⟩,n⟩
    refine⟨aq rfl h4,λt R=> ?_⟩;obtain⟨D,rfl⟩:j+1<l.length∧v=.int j:=by
     unfold ao at e;rw[getElem?_map]at e;obtain⟨j',E,rfl⟩:=Option.map_eq_some_iff.mp e;obtain⟨h1,h2⟩:=List.getElem?_eq_some_iff.mp E;simp at h1 h2;subst h2;exact⟨zl 24675297543562 rfl h1,by congr 1;exact zm 776670703789 rfl _⟩
    have F:l[j]? =some l[j]:=by simp[show j<l.length from zl 23760357803 rfl D]
    have E:l[j+1]? =some l[j+1]:=by simp[D]
    have Y:=o _ (mem_of_getElem? F);have f:=o _ (mem_of_getElem? E);generalize l[j]=a at F Y;generalize l[j+1]=b at E f;refine ai (b:=decide (aM a b=0)) (ρ':=[.j (.o (xs.map wv)),.j (.o (ps.map ah)),S,.j (.o (l.map ah)),vi j,.y]) (λk d=> ?_) (λq=> ?_) λq=> ?_
    ·refine az (aC (by rw[getElem?_map,F];rfl)) ?_
     refine az (cm (zm 141374981 rfl _) (by rw[show((j:Int)+1).toNat=j+1 from zm 1157635061170 rfl _,getElem?_map,E];rfl)) ?_;exact g.c 14 rfl _ _ _ (cT Y f d)
    ·have z:=(iE Y f).mp (of_decide_eq_true q)
     have z:=Prod.ext z.1 z.2;subst z;rw[if_pos (kA.mpr ⟨j,a,F,E⟩)]at hb;exact hb
    ·have q:=of_decide_eq_false q
     refine ae (ae (R _ ⟨⟨_,.inr ⟨_,rfl⟩,rfl⟩,λi c M h1 h2=> ?_⟩))
     by_cases z:i=j
     ·subst z;rw[F]at h1;rw[E]at h2;cases h1;cases h2;exact q (cJ a)
     ·exact n i c (zl 0x4f1d2d4a6e3dfa rfl M z) h1 h2
   ·rintro ρ ⟨⟨s,h4,rfl⟩,n⟩
    rw[if_neg]at hb
    ·exact hb
    ·intro z
     obtain⟨i,a,h1,h2⟩:=kA.mp z;have:=(List.getElem?_eq_some_iff.mp h2).1;refine n i a ?_ h1 h2;simp[ao];exact zl 25950139074987 rfl this
end
theorem fP(H:∀p∈l,aK p)(h:∀(i:Nat)(a b:PR),l[i]? =some a→l[i+1]? =some b→aM a b<0):d7 l:=by
 refine pairwise_iff_getElem.mpr λi j I J W=> ?_;obtain⟨d,rfl⟩:∃d,j=i+1+d:=⟨j-(i+1),zl 0x178f4c90e21a5e82 rfl W⟩;clear W;induction d with
 |zero=>exact h i _ _ (getElem?_eq_getElem I) (getElem?_eq_getElem J)
 |succ d Q=>
  have m:=lt_of_succ_lt J;exact kY (H _ (getElem_mem I)) (H _ (getElem_mem m)) (H _ (getElem_mem _)) (Q m) (Int.le_of_lt (h (i+1+d) _ _ (List.getElem?_eq_getElem m) (List.getElem?_eq_getElem (show i+1+d+1<l.length from zl 0x468a88285e6ee9fe52fcb rfl J))))
theorem uE(H:∀p∈l,aK p)(D:dJ l)(j:¬Cx l=true):d7 l:=by
 refine fP H λi a b E f=> ?_;obtain⟨h1,rfl⟩:=List.getElem?_eq_some_iff.mp E;obtain⟨h2,rfl⟩:=List.getElem?_eq_some_iff.mp f
 by_cases z:aM l[i] l[i+1]=0
 ·have:=(iE (H _ (getElem_mem h1)) (H _ (getElem_mem h2))).mp z
  exact absurd (kA.mpr ⟨i,_,E,by rw[f,(Prod.ext this.1 this.2)]⟩) j
 ·exact Int.lt_iff_le_and_ne.mpr ⟨List.pairwise_iff_getElem.mp D i (i+1) h1 h2 (zm 1103964 rfl _),z⟩
theorem rJ(hb:0<b)(hd:0<d)(h:a*d<c*b):aM (rd a b) (rd c d)<0:=by
 show ag (rT a b) (mC a b) (rT c d) (mC c d)<0;unfold ag;have p1:=cn (n:=a) hb;have p2:=cn (n:=c) hd;rw[if_neg (by exact zl 0xa6607a73e4c28 rfl p1),LM];have E:=xB (n:=a) (d:=b);have j:=xB (n:=c) (d:=d);generalize rT a b=x at*;generalize mC a b=y at*;generalize rT c d=z at*;generalize mC c d=w at*;refine Int.not_le.mp λH=> ?_;have k3:z*y*(b*d)=c*b*(y*w):=by
  calc z*y*(b*d)=(z*d)*y*b:=zr 0x375eca38c70fb9c719 rfl ..
   _=c*b*(y*w):=by rw[j];exact zr 0x37377851c70fd8e319 rfl ..
 have K:x*w*(b*d)=a*d*(y*w):=by
  calc x*w*(b*d)=(x*b)*w*d:=zr 0x37535c38c70fb9c719 rfl ..
   _=a*d*(y*w):=by rw[E];exact zr 0x375df851c70fd8e319 rfl ..
 exact zl 0xb1c8b1684df88b6d6 rfl (Int.mul_le_mul_of_nonneg_right H (Int.le_of_lt (Int.mul_pos hb hd))) (Int.mul_lt_mul_of_pos_right h (Int.mul_pos p1 p2)) k3 K
theorem rQ{i j:Nat}(hd:0<d)(h1:n.natAbs<2^i)(h2:d.natAbs<2^j)(l:(Nat.ble i 64&&Nat.ble j 64)=true):aK (rd n d):=by
 rw[Bool.and_eq_true]at l;have A:=cn (n:=n) hd;exact⟨.inl ⟨A,pN hd⟩,Nat.lt_of_le_of_lt (pB hd) (iQ h1 (le_of_ble_eq_true l.1)),by
  have:=iQ h2 (le_of_ble_eq_true l.2);exact zl 0x9952875abd37cae735694196 rfl (oy (n:=n) hd) A this⟩
structure GJ(l:List PR):Prop where
 num:∀p∈l,aK p
 strict:d7 l
 vF:2≤l.length
 Dy:l.length≤100
theorem wq(Q:Sm low)(C:Sm top)(L:0<low.2)(t:0<top.2)(m2:2≤m)(M:m≤40)(H:aM low top≤0):GJ (eF low top m):=by
 have b1:low.1.natAbs<2^5:=by rcases Q with h|h<;>(first|exact zl 920200751983464 rfl h.2.2.2|exact zl 379053015251752 rfl L h.1)
 have b2:low.2.natAbs<2^2:=by rcases Q with h|h<;>(first|exact zl 0xd5e355420528 rfl h.1 h.2.2.1|exact zl 0x674d8b933b28 rfl L h.1)
 have W:top.1.natAbs<2^5:=by rcases C with h|h<;>(first|exact zl 920200751983464 rfl h.2.2.2|exact zl 379053015251752 rfl t h.1)
 have Y:top.2.natAbs<2^2:=by rcases C with h|h<;>(first|exact zl 0xd5e355420528 rfl h.1 h.2.2.1|exact zl 0x674d8b933b28 rfl t h.1)
 have J:m.natAbs<2^6:=zl 0xa242cccd94d25701 rfl m2 M;have B:(1000:Int).natAbs<2^10:=by decide
 have w:0≤top.1*low.2-low.1*top.2:=by
  change ag low.1 low.2 top.1 top.2≤0 at H;unfold ag at H;rw[if_neg (by exact zl 0xa6607a73e4c28 rfl L),uR]at H;exact zl 44844863190 rfl H
 have F:∀{a b c:Int},0<c→a<b→a*c<b*c:=λh h'=>Int.mul_lt_mul_of_pos_right h' h;unfold eF;split
 ·generalize K:(if low.1≠0 then(low.1.natAbs:Int)else 1)=n
  have X:n.natAbs<2^5:=by subst K;split<;>(first|exact zl 30037915692659 rfl b1|exact zm 11889607 rfl)
  have U:0<n:=by subst K;split<;>(first|exact zl 22005727352098 rfl ‹_›|exact zm 6150 rfl)
  have Z:0<low.2*low.2*1000:=by have:=Int.mul_pos L L;exact zl 0xf7afbc6e5d28 rfl this
  have S:0<(rd (low.1*low.2*1000-n*low.2) (low.2*low.2*1000)).2:=cn Z;have y:(rd (low.1*low.2*1000-n*low.2) (low.2*low.2*1000)).1.natAbs<2^18:=Nat.lt_of_le_of_lt (pB Z) (xK (ml (ml b1 b2) B) (iQ (ml X b2) (by decide)));have c2:(rd (low.1*low.2*1000-n*low.2) (low.2*low.2*1000)).2.natAbs<2^14:=by
   have h1:=oy (n:=low.1*low.2*1000-n*low.2) Z;have h3:(low.2*low.2*1000).natAbs<2^14:=ml (ml b2 b2) B;change 0<mC _ _ at S;show(mC _ _).natAbs<_;exact zl 0x1454ff10bd27abb8405c516acee rfl h1 h3 S
  show GJ ((List.range (m+1).toNat).map λ(i:Nat)=>rd ((rd (low.1*low.2*1000-n*low.2) (low.2*low.2*1000)).1*(low.2*1000)*m+(0+1*(i:Int))*(2*n)*(rd (low.1*low.2*1000-n*low.2) (low.2*low.2*1000)).2) ((rd (low.1*low.2*1000-n*low.2) (low.2*low.2*1000)).2*(low.2*1000)*m));generalize rd (low.1*low.2*1000-n*low.2) (low.2*low.2*1000)=st at S y c2;have D:=dR S (zl 0xf7afbc6e5d28 rfl L) (zl 179601153 rfl m2);have N:∀p∈((List.range (m+1).toNat).map λ(i:Nat)=>rd (st.1*(low.2*1000)*m+(0+1*(i:Int))*(2*n)*st.2) (st.2*(low.2*1000)*m)),aK p:=λp V=>by
   obtain⟨i,I,rfl⟩:=List.mem_map.mp V;have I:=List.mem_range.mp I;have bi:(0+1*(i:Int)).natAbs<2^6:=zl 0x638b44bdb0fa5cc3d9cf825d3e rfl M I;exact rQ (i:=37) (j:=32) D (zU (iQ (ml (ml y (ml b2 B)) J) (by decide)) (iQ (ml (ml bi (show(2*n).natAbs<2^6 from zl 0xaba5e554a66aab73 rfl X)) c2) (by decide))) (ml (ml c2 (ml b2 B)) J) rfl
  refine⟨N,fP N λi a b g E=> ?_,by simp;exact zl 7235505544449 rfl m2,by simp;exact zl 0x2ba4b852201d3e rfl M⟩;rw[List.getElem?_map]at g E;obtain⟨x,h1,rfl⟩:=Option.map_eq_some_iff.mp g;obtain⟨v,h2,rfl⟩:=Option.map_eq_some_iff.mp E;have h1:=(List.getElem?_eq_some_iff.mp h1).2;have h2:=(List.getElem?_eq_some_iff.mp h2).2;simp at h1 h2;subst h1;subst h2;refine rJ D D (F D ?_);have s:0<(2*n)*st.2:=Int.mul_pos (zl 185332817192 rfl U) S;have:(0+1*((i+1:Nat):Int))*(2*n)*st.2=(0+1*(i:Int))*(2*n)*st.2+(2*n)*st.2:=by
   rw[show(0+1*((i+1:Nat):Int))=(0+1*(i:Int))+1 from zm 0x10da973855c361b2e70ad rfl _];grind
  rw[this];exact Int.add_lt_add_left (Int.lt_add_of_pos_right _ s) _
 ·rename_i r
  have RC:low.1*(top.2*low.2)+(top.1*low.2-low.1*top.2)*low.2=top.1*low.2*low.2:=zr 0x37644bc7363d25e05cdee6ed rfl _ _ _ _;generalize O:top.1*low.2-low.1*top.2=n at*;generalize hd:top.2*low.2=d at*;have U:0<n:=zl 673264227391773 rfl w r;have P:0<d:=by subst hd;exact Int.mul_pos t L
  have T:n.natAbs<2^8:=by subst O;exact xK (ml W b2) (ml b1 Y)
  have u:d.natAbs<2^4:=by subst hd;exact ml Y b2
  have D:0<low.2*d*m:=dR L P (zl 179601153 rfl m2);have R:0<low.2*d*1000:=dR L P (zm 11274374 rfl);have k:0<top.2*d*1000:=dR t P (zm 11274374 rfl);unfold BN;have len:((List.range (m+1).toNat).map λ(i:Nat)=>rd (low.1*d*m+(0+1*(i:Int))*n*low.2) (low.2*d*m)).length=(m+1).toNat:=by simp
  have get:∀i:Nat,i<(m+1).toNat→((List.range (m+1).toNat).map λ(i:Nat)=>rd (low.1*d*m+(0+1*(i:Int))*n*low.2) (low.2*d*m))[i]? =some (rd (low.1*d*m+(i:Int)*n*low.2) (low.2*d*m)):=λi I=>by
   rw[List.getElem?_map,List.getElem?_range I];show some (rd (low.1*d*m+(0+1*(i:Int))*n*low.2) (low.2*d*m))=_;rw[show(0+1*(i:Int))=i from zm 776670703789 rfl _]
  generalize((List.range (m+1).toNat).map λ(i:Nat)=>rd (low.1*d*m+(0+1*(i:Int))*n*low.2) (low.2*d*m))=l at len get;have G:∀(i:Nat)a,((l.set 0 (rd (low.1*d*1000-n*low.2) (low.2*d*1000))).set m.toNat (rd (top.1*d*1000+n*top.2) (top.2*d*1000)))[i]? =some a→
   (i=0∧a=rd (low.1*d*1000-n*low.2) (low.2*d*1000))∨((i:Int)=m∧a=rd (top.1*d*1000+n*top.2) (top.2*d*1000))∨(0<i∧(i:Int)<m∧a=rd (low.1*d*m+(i:Int)*n*low.2) (low.2*d*m)):=by
   intro i a e;have I:=(List.getElem?_eq_some_iff.mp e).1;rw[List.length_set,List.length_set,len]at I
   by_cases q:i=m.toNat
   ·subst q
    rw[List.getElem?_set_self (by rw[List.length_set,len];exact I)]at e;exact .inr (.inl ⟨zl 44739723265 rfl m2,(Option.some.inj e).symm⟩)
   ·rw[List.getElem?_set_ne (λz=>q z.symm)]at e
    by_cases A:i=0
    ·subst A
     rw[List.getElem?_set_self (by rw[len];exact I)]at e;exact .inl ⟨rfl,(Option.some.inj e).symm⟩
    ·rw[List.getElem?_set_ne (λz=>A z.symm),get i I]at e
     exact .inr (.inr ⟨zl 11191634317 rfl A,zl 0x4366abec2e84c7d3aa rfl I q,(Option.some.inj e).symm⟩)
  have length:((l.set 0 (rd (low.1*d*1000-n*low.2) (low.2*d*1000))).set m.toNat (rd (top.1*d*1000+n*top.2) (top.2*d*1000))).length=(m+1).toNat:=by rw[List.length_set,List.length_set,len]
  generalize((l.set 0 (rd (low.1*d*1000-n*low.2) (low.2*d*1000))).set m.toNat (rd (top.1*d*1000+n*top.2) (top.2*d*1000)))=f at G length;have N:∀p∈f,aK p:=λp V=>by
   obtain⟨i,I,rfl⟩:=List.getElem_of_mem V;rcases G i _ (List.getElem?_eq_getElem I)with⟨_,e⟩|⟨_,e⟩|⟨h1,h2,e⟩<;>rw[e]
   ·exact rQ (i:=20) (j:=16) R (xK (iQ (ml (ml b1 u) B) (by decide)) (iQ (ml T b2) (by decide))) (ml (ml b2 u) B) rfl
   ·exact rQ (i:=20) (j:=16) k (zU (iQ (ml (ml W u) B) (by decide)) (iQ (ml T Y) (by decide))) (ml (ml Y u) B) rfl
   ·have bi:(i:Int).natAbs<2^6:=zl 0x18e2d12d068a73b5d3e rfl M h2
    exact rQ (i:=17) (j:=12) D (zU (iQ (ml (ml b1 u) J) (by decide)) (ml (ml bi T) b2)) (ml (ml b2 u) J) rfl
  refine⟨N,fP N λi a b g E=> ?_,zl 0x1a2c9170742f801 rfl m2 length,zl 0x190f0d30529d0cf1d3e rfl M length⟩;have E:=G _ b E;have o:=Int.mul_pos U L;rcases G i a g with⟨rfl,rfl⟩|⟨h,rfl⟩|⟨h1,h2,rfl⟩
  ·rcases E with⟨h,_⟩|⟨h,_⟩|⟨h1,h2,rfl⟩
   ·exact zl 882242258838 rfl h
   ·exact zl 0xa6a71fb10bfbc01 rfl m2 h
   ·refine rJ R D ?_
    have p:=Int.mul_pos (Int.mul_pos o (zl 0xb089f810df01 rfl m2)) (Int.mul_pos L P);have e:(low.1*d*m+((0+1:Nat):Int)*n*low.2)*(low.2*d*1000)=(low.1*d*1000-n*low.2)*(low.2*d*m)+n*low.2*(1000+m)*(low.2*d):=by
     rw[show((0+1:Nat):Int)=1 from rfl];exact zr 0x534c8fbb01fc672f18e791e3b3981c0838e302bd702148f1d9cfe639b1c5d99 rfl _ _ _ _ _
    rw[e];exact Int.lt_add_of_pos_right _ p
  ·rcases E with⟨h',_⟩|⟨h',_⟩|⟨h1,h2,rfl⟩<;>lia
  ·rcases E with⟨h',_⟩|⟨h',rfl⟩|⟨RD,RE,rfl⟩
   ·lia
   ·refine rJ D k ?_
    have I:(i:Int)=m-1:=by lia
    rw[I];have p:0<n*(m+1000)*d*d:=Int.mul_pos (Int.mul_pos (Int.mul_pos U (zl 0xf7afb9d4df01 rfl m2)) P) P;have e:(top.1*d*1000+n*top.2)*(low.2*d*m)=(low.1*d*m+(m-1)*n*low.2)*(top.2*d*1000)+n*(m+1000)*d*d:=by
     have k1:top.1*low.2=n+low.1*top.2:=zl 9401309238151 rfl O
     calc(top.1*d*1000+n*top.2)*(low.2*d*m)=(top.1*low.2)*d*d*m*1000+n*(top.2*low.2)*d*m:=zr 0x7d3fd9397cb8c870237a644718c62f2f6478e1f8381071c5d99 rfl _ _ _ _ _ _
      _=(n+low.1*top.2)*d*d*m*1000+n*d*d*m:=by rw[k1,hd]
      _=low.1*top.2*d*d*m*1000+(m-1)*n*d*d*1000+n*(m+1000)*d*d:=zr 0x14d67a98116259c6438110f2b063163190e0459cf3f7c6318bae339e51c643811673cfdee198c62ed rfl _ _ _ _ _
      _=low.1*top.2*d*d*m*1000+(m-1)*n*(top.2*low.2)*d*1000+n*(m+1000)*d*d:=by rw[hd]
      _=_:=zr 0x7d396c0885463c64381137c7c0a0058b1c3e1c5d978ad8110a8c78c87022bf3f680162c6321c08881d8e318c5d6d rfl _ _ _ _ _ _
    exact zl 0x40aa49a4d2d28 rfl p e
   ·refine rJ D D (F D ?_)
    have:((i+1:Nat):Int)*n*low.2=(i:Int)*n*low.2+n*low.2:=by
     rw[show((i+1:Nat):Int)=(i:Int)+1 from zm 1158144025007 rfl _];grind
    rw[this,←Int.add_assoc];exact Int.lt_add_of_pos_right _ o
theorem lM{P:Str⊕List PR→Prop}(H:P (.inl mS))(h1:∀p:PR,cut=[p].map .nu→P (GO xs p.1))(h2:∀ps:List PR,2≤ps.length→cut=ps.map .nu→P (if Cx (aI ps)=true then .inl mU else .inr (aI ps))):P (brk xs cut):=by
 delta brk
 by_cases N:cut=[]∨true∈cut.map hJ
 ·rw[if_pos N];exact H
 ·rw[if_neg N]
  have E:=nD λI i=>by
   cases q:hJ I with
   |false=>rfl
   |true=>exact absurd (.inr (mem_map.mpr ⟨I,i,q⟩)) N
  generalize DC cut=ps at E⊢;cases ps with
  |nil=>exact absurd (.inl E) N
  |cons p r=>
   cases r with
   |nil=>exact h1 p E
   |cons b r=>exact h2 (p::b::r) (le_add_left 2 _) E
theorem lS{P:Str⊕List PR→Prop}(H:∀s,ku s=true→P (.inl s))(h1:2≤m→∀low r,aI (dq xs)=low::r→P (.inr (eF low ((low::r).getLast (List.cons_ne_nil _ _)) m))):P (GO xs m):=by
 delta GO
 by_cases q:m<2
 ·rw[if_pos q];exact H _ rfl
 ·rw[if_neg q]
  generalize aI (dq xs)=L at h1⊢;cases L with
  |nil=>exact H _ rfl
  |cons low r=>exact h1 (Int.not_lt.mp q) low r rfl
theorem x8(H:∀I∈xs,ik true I):∀p∈aI (dq xs),Sm p∧0<p.2:=λp P=>
 have z:=(aZ (dq xs)).mem_iff.mp P
 ⟨(H _ (cH z).1).1,(cH z).2⟩
theorem pX(x:∀I∈xs,ik true I)(H:iv cut):brk xs cut=.inr l→GJ l:=by
 refine lM (P:=λz=>z=.inr l→GJ l) (λh=>nomatch h) (λp E=> ?_) λps B E h=> ?_
 ·refine lS (P:=λz=>z=.inr l→GJ l) (λ_ _ h=>nomatch h) λm2 low r e h=> ?_
  cases h;have ss:=dm λp u=>(x _ (cH u).1).1.num;have s:=x8 x;rw[e]at ss s;have G:=getLast_mem (cons_ne_nil low r);have h1:=s low (.head _);have h2:=s _ G;apply wq h1.1 h2.1 h1.2 h2.2 m2 (H.wd p E).2;rcases mem_cons.mp G with z|z
  ·rw[z,cJ];decide
  ·exact(pairwise_cons.mp ss).1 _ z
 ·have C:=H.len
  rw[E,length_map]at C;have O:=λp u=>(H.ok (.nu p) (E▸List.mem_map.mpr ⟨p,u,rfl⟩)).1.num
  by_cases na:Cx (aI ps)=true
  ·rw[if_pos na]at h;cases h
  ·rw[if_neg na]at h
   cases h;have m:=aZ ps;have L:=λp u=>O p (m.mem_iff.mp u);exact⟨L,uE L (dm O) na,m.length_eq▸B,m.length_eq▸C⟩
theorem ma(H:0≤n)(hd:0<d)(b1:n.natAbs<2^180)(b2:d.natAbs<2^180)(h:∀q,0≤q→q≤n/d+1→(d=1→q=n)→K (.j (.int q)) []):FF 12 [vi n,vi d] K X:=by
 refine de 12 rfl rfl rfl λG g=> ?_;have E:n.fdiv d=n/d:=Int.fdiv_eq_ediv_of_nonneg _ (zl 179569704 rfl hd);have L:0≤n/d:=Int.ediv_nonneg H (zl 179569704 rfl hd);have J:n/d≤n:=Int.ediv_le_self _ H;have wd:d=1→n/d=n:=λz=>by rw[z,Int.ediv_one]
 refine⟨zl 31155043112 rfl hd,bg b2 (by decide),?_⟩;rw[E];refine⟨bg (zl 0x1b1558d1cbbfa9e73 rfl b1 L J) (by decide),bg b2 (by decide),by decide,bg (i:=181) (zl 0xa1d0e83c80d814f94668acc773 rfl b1 (Int.ediv_mul_le _ (zl 31155043112 rfl hd)) (Int.mul_nonneg L (zl 179569704 rfl hd))) (by decide),?_⟩;generalize n/d=q at*;refine ai (b:=decide (d<2*(n-q*d))||(decide (2*(n-q*d)=d)&&decide (q.fmod 2=1))) (DY (λ_ h=>h) λ_=>yF (kz (λ_ h=>h) λ_=>pf (λ_ h=>⟨by decide,h⟩))) (λz=> ?_) λz=> ?_
 ·refine h _ (zl 226112070685 rfl L) (zm 1868700427 rfl _) λd1=> ?_
  subst d1;have:=wd rfl;subst this;rw[Bool.or_eq_true,Bool.and_eq_true,decide_eq_true_iff,decide_eq_true_iff,Int.mul_one,Int.sub_self]at z;rcases z with z|z
  ·cases z
  ·cases z.1
 ·exact h _ L (zm 1824856 rfl _) wd
noncomputable def ak(k:Nat):Int:=((10^k:Nat))
theorem cZ(k):ak (k+1)=ak k*10:=by unfold ak;rw[Nat.pow_succ,Int.natCast_mul];rfl
theorem bW(k):0<ak k:=by unfold ak;have:=Nat.pow_pos (n:=k) (show 0<10 by decide);exact zl 2872778057 rfl this
theorem B9(h:ak k<ak b):k<b:=by
 refine Nat.lt_of_not_le λz=> ?_;have:=Nat.pow_le_pow_right (show 0<10 by decide) z;unfold ak at h;exact zl 3318305952352 rfl h this
theorem xg(H:a≠0)(hd:0<d)(b1:a.natAbs<2^64)(b2:d.natAbs<2^64)(h:∀e:Int,-20≤e→e≤19→(d≤a.natAbs→0≤e∧d*ak e.toNat≤a.natAbs)→(a.natAbs:Int)*ak (0-e).toNat<d*ak e.toNat*10→K (.j (.int e)) []):FF 13 [.j (nv a d)] K X:=by
 refine de 13 rfl rfl rfl λG T=> ?_;generalize N:(a.natAbs:Int)=n at h;have Y:0<n:=zl 0x9a6b2b48d1f0a22 rfl H N;have S:n<2^64:=zl 0x288c4e4005e9a68a0cc773 rfl b1 N;have d1:d<2^64:=zl 0x1765a31cfa0cc773 rfl b2;have B:∀{x:Int},0≤x→x<2^72→x.natAbs<lH:=λh1 h2=>bg (zl 0xb365bcc3af36249681d rfl h1 h2) (by decide);refine aw (v:=.j (.int n)) (ρ1:=[.j (nv a d),.y,.y,.y]) (λk R=>by rw[←N]at R;exact R) (aa rfl) (aw (λ_ h=>h) (aa rfl) (aw (λ_ h=>h) (aa rfl) ?_));refine jJ (λρ=>∃k,ρ=[.j (nv a d),vi n,vi (d*ak k),vi k]∧(k=0∨d*ak k≤n)) (λρ=>match ρ with|[_,.j (.int x),.j (.int y),_]=>x.toNat-y.toNat|_=>0) ⟨0,by show _=[.j (nv a d),vi n,vi (d*ak 0),vi (0)];rw[show d*ak 0=d by unfold ak;simp];rfl,.inl rfl⟩ ?_;rintro ρ ⟨k,rfl,R⟩ I Z;have p:=Int.mul_pos hd (bW k);have E:d*ak k<2^64:=by
  rcases R with rfl|R
  ·rw[show d*ak 0=d by unfold ak;simp];exact d1
  ·exact zl 0xf3ebc1eb947c141a68a0cc773 rfl b1 N R
 have b:k≤19:=by
  have h1:ak k≤d*ak k:=by
   have:=Int.mul_le_mul_of_nonneg_right (show 1≤d from zl 180251176 rfl hd) (Int.le_of_lt (bW k));exact zl 46058652547 rfl this
  have:k<20:=B9 (by rw[show ak 20=100000000000000000000 from rfl];exact zl 0x146db940f045906629 rfl E h1);exact zl 468772104554 rfl this
 refine A6 (λ_ h=>⟨by decide,B (Int.le_of_lt p) (zl 0xbdc698e7d06629 rfl E),h⟩) (λq=> ?_) λq=> ?_
 ·have q:=of_decide_eq_true q
  refine⟨B (Int.le_of_lt p) (zl 0xbdc698e7d06629 rfl E),by decide,?_⟩;have e:d*ak k*10=d*ak (k+1):=by rw[cZ,Int.mul_assoc]
  refine Z _ ⟨k+1,?_,.inr (zl 0x102a736e2d693e4bf43 rfl q e)⟩ ?_
  ·show[.j (nv a d),vi n,vi (d*ak k*10),vi (k+1)]=_
   rw[e];rfl
  ·show n.toNat-(d*ak k*10).toNat<n.toNat-(d*ak k).toNat
   exact zl 0x13baba75d624dd9ad08a1e66b228 rfl p q
 ·have q:=of_decide_eq_false q
  have C:d*ak (k+1)=d*ak k*10:=by rw[cZ,Int.mul_assoc]
  have A:d≤n→d*ak k≤n:=λz=>by
   rcases R with rfl|R
   ·rw[show d*ak 0=d by unfold ak;simp];exact z
   ·exact R
  generalize O:d*ak k=D at*;refine jJ (λρ=>∃j,ρ=[.j (nv a d),vi (n*ak j),vi D,vi (k-j)]∧(j=0∨(n*ak j<10*D∧n<D))) (λρ=>match ρ with|[_,.j (.int x),.j (.int y),_]=>y.toNat-x.toNat|_=>0) ⟨0,by rw[show n*ak 0=n by unfold ak;simp,show k-((0:Nat):Int)=k from zm 24312129987 rfl _],.inl rfl⟩ ?_;rintro ρ ⟨j,rfl,J⟩ I Z;have P:=Int.mul_pos Y (bW j);have F:n*ak j<2^68:=by
   rcases J with rfl|J
   ·rw[show n*ak 0=n by unfold ak;simp];exact zl 0x289ff71805e9a68a0cc773 rfl b1 N
   ·exact zl 0x513fee2f368ce64c506629 rfl E J.1
  have g:j≤20:=by
   have h1:ak j≤n*ak j:=by
    have:=Int.mul_le_mul_of_nonneg_right (show 1≤n from zl 180251176 rfl Y) (Int.le_of_lt (bW j));exact zl 46058652547 rfl this
   have:j<21:=B9 (by rw[show ak 21=1000000000000000000000 from rfl];exact zl 0x14778dacf046096629 rfl F h1);exact zl 474354754154 rfl this
  refine A6 (λ_ h=>h) (λq=> ?_) λq=> ?_
  ·have q:=of_decide_eq_true q
   refine⟨B (Int.le_of_lt P) (zl 0xbdc698e8496629 rfl F),by decide,?_⟩;have e:n*ak j*10=n*ak (j+1):=by rw[cZ,Int.mul_assoc]
   have nl:n≤n*ak j:=by
    have:=Int.mul_le_mul_of_nonneg_left (show 1≤ak j by have:=bW j;exact zl 180251176 rfl this) (Int.le_of_lt Y);exact zl 46059113315 rfl this
   refine Z _ ⟨j+1,?_,.inr ⟨zl 0x1023e02c7ca72d693e1 rfl q e,zl 1110939450913 rfl q nl⟩⟩ ?_
   ·show[.j (nv a d),vi (n*ak j*10),vi D,vi (k-j-1)]=_
    rw[e,show k-j-1=k-((j+1:Nat):Int)from zm 0xc7b9ad4e378353843 rfl _ _]
   ·show D.toNat-(n*ak j*10).toNat<D.toNat-(n*ak j).toNat
    exact zl 0x13baba75d624dd9ad0886028 rfl P q
  ·have q:=of_decide_eq_false q
   refine h _ (zl 0xa78eb57b5124a95f rfl g) (zl 0x59addf24f17b05f rfl b) (λz=> ?_) ?_
   ·have f:=A z
    have u:j=0:=by
     rcases J with J|J
     ·exact J
     ·exact zl 2952961929814 rfl f J.2
    subst u;have:((k:Int)-((0:Nat):Int)).toNat=k:=zm 25026705522 rfl _;rw[this,O];exact⟨zm 4357175493 rfl _,f⟩
   ·rcases J with rfl|J
    ·rw[show(k-((0:Nat):Int)).toNat=k from zm 25026705522 rfl _,show(0-(k-((0:Nat):Int))).toNat=0 from zm 0x828ed4e31872 rfl _,O]
     rw[show n*ak 0=n by unfold ak;simp];exact zl 0x1414ab9f33b5437e7 rfl ‹_›
    ·have k0:k=0:=by
      rcases R with R|R
      ·exact R
      ·exact zl 2952961844641 rfl J.2 R
     subst k0;have U:D=d:=by rw[←O];unfold ak;simp
     rw[show(0-(((0:Nat):Int)-j)).toNat=j from zm 24277552404594 rfl _,show(((0:Nat):Int)-j).toNat=0 from zm 138867357810 rfl _,O];exact zl 0x2a7c4a7a475f9f9 rfl J.1
theorem Be(l):hW (l.map V.str)=some l:=by
 induction l with
 |nil=>rfl
 |cons s l I=>
  show(hW (l.map V.str)).map (s:: ·)=_;rw[I];rfl
theorem DL{l}(h:∀s∈l,Tx n s):Tx (n*l.length) (dS l):=by
 induction l with
 |nil=>exact⟨zero_le _,λc H=>by cases H⟩
 |cons s l I=>
  have:=(h s (.head _)).add (I λt T=>h t (.tail _ T));exact this.le (by rw[length_cons,mul_succ];exact zm 186019342 rfl ..)
theorem qc(h:Tx n s)(H:c<0x110000):Tx (n+m) (eG s m c):=by
 constructor
 ·show(replicate ((m:Int).toNat-s.cps.toList.length) c++s.cps.toList).toArray.toList.length≤_
  rw[List.length_append,length_replicate];have:=h.len;exact zl 0x1196afefe1837737 rfl this
 ·intro x X
  change x∈(replicate ((m:Int).toNat-s.cps.toList.length) c++s.cps.toList)at X;rcases mem_append.mp X with X|X
  ·rw[(mem_replicate.mp X).2];exact H
  ·exact h.ok x X
theorem BP{s:Str}(h:m≤s.cps.toList.length):eG s m c=s:=by
 show(⟨(List.replicate ((m:Int).toNat-s.cps.toList.length) c++s.cps.toList).toArray⟩:Str)=s;rw[show(m:Int).toNat-s.cps.toList.length=0 from zl 25591353748791 rfl h];cases s;simp
theorem H3(h:∀k,k (.j (.o (l.map V.str))) ρ1→ev G es ρ k X)(H:(dS l).cps.toList.length≤aA)(d:k (.j (.str (dS l))) ρ1):ev G (.join (.M ⟨#[]⟩) es) ρ k X:=by
 apply h _;show(match([]:List Nat),hW (l.map V.str)with|[],some ss=>(dS ss).cps.toList.length≤aA∧k (.j (.str (dS ss))) ρ1|_,_=>False);rw[Be];exact⟨H,d⟩
theorem Et(h:∀k,k (.j (.L [a,b])) ρ1→ev G e ρ k X)(f1:bp ρ1 i)(f:bp (ρ1.set i (.j a)) j)(h1:ex G r ((ρ1.set i (.j a)).set j (.j b)) x C t X):ex G (.cons (.jo [i,j] e) r) ρ x C t X:=h _ (aU f1 (aU f h1))
theorem rD(H:0≤n)(h1:n<ak 54)(h:∀s,Tx 200 s→(n<ak 18→s=aG n)→K (.j (.str s)) []):FF 15 [vi n] K X:=by
 refine de 15 rfl rfl rfl λG g=> ?_;have L:aA=1000000:=rfl;have T:ak 18=1000000000000000000:=rfl;have I:((10:Int)^(18:Int).toNat)=ak 18:=rfl;refine aw (λk d=>by
  show k (.j (.int (n.natAbs:Int))) _;rw[show(n.natAbs:Int)=n from zl 44761529885 rfl H];exact d) (aa rfl) (aw (λ_ h=>⟨af rfl,h⟩) (aa rfl) ?_)
 refine jJ (λρ=>∃l r Q,fu Q∧(∀s∈l,Tx 37 s)∧l.length≤2∧0≤r∧r<ak (54-18*l.length)∧((l=[]∧r=n)∨ak 18≤n)∧ρ=[vi n,vi r,.U (l.map V.str),Q]) (λρ=>match ρ with|[_,.j (.int r),_,_]=>r.toNat|_=>0) ⟨[],n,.y,.inl rfl,λs h=>(by cases h),by simp,H,h1,.inl ⟨rfl,rfl⟩,rfl⟩ ?_;rintro ρ ⟨l,r,Q,h3,x,J,O,R,eq,rfl⟩ t Z;have y:r<ak 54:=by
  refine Int.lt_of_lt_of_le R ?_;unfold ak;have:=Nat.pow_le_pow_right (show 0<10 by decide) (show 54-18*l.length≤54 from zm 0x51cab42e072c4 rfl _);exact zl 23879377143 rfl this
 have C:ak 54=1000000000000000000000000000000000000000000000000000000:=rfl;refine A6 (b:=decide (ak 18≤r)) (λ_ h=>⟨by decide,by decide,by decide,h⟩) (λq=> ?_) λq=> ?_
 ·have q:=of_decide_eq_true q
  have E:l.length≤1:=by
   refine Nat.le_of_not_lt λz=> ?_;have:l.length=2:=zl 4311155288831 rfl J z;rw[this]at R;change r<ak 18 at R;exact zl 5879022166 rfl q R
  have v:r.fdiv (ak 18)=r/ak 18:=Int.fdiv_eq_ediv_of_nonneg _ (by decide);have M:r.fmod (ak 18)=r%ak 18:=Int.fmod_eq_emod_of_nonneg _ (by decide);have m0:0≤r%ak 18:=Int.emod_nonneg _ (by decide);have m1:r%ak 18<ak 18:=Int.emod_lt_of_pos _ (by decide);have P:0≤r/ak 18:=Int.ediv_nonneg O (by decide);have d1:r/ak 18<ak (54-18*(l.length+1)):=by
   refine Int.ediv_lt_of_lt_mul (by decide) ?_;have e:ak (54-18*(l.length+1))*ak 18=ak (54-18*l.length):=by
    unfold ak;rw[←Int.natCast_mul,←Nat.pow_add,show 54-18*(l.length+1)+18=54-18*l.length from zl 0x5645382c7d87ac137b382c7aef06f rfl E]
   rw[e];exact R
  have d2:r/ak 18<r:=by
   have h:=Int.ediv_mul_le r (show(1000000000000000000:Int)≠0 by decide);rw[T]at q⊢;generalize r/1000000000000000000=X at h⊢;rename_i u;exact zl 0x1e9094d274ff8572c815f34 rfl T (dT u:) h
  refine Et (λk d=>⟨by decide,by decide,by decide,by decide,by decide,by
   show k (.j (.L [.int (r.fdiv (ak 18)),.int (r.fmod (ak 18))])) _;rw[v,M];exact d⟩) (aq rfl (.inr ⟨_,rfl⟩)) (aq rfl h3) ?_
  have p:Tx 19 (aG (r%ak 18)):=jU (k:=18) (by decide) (by rw[T]at m1 m0⊢;generalize r%1000000000000000000=X at m1 m0⊢;exact zl 0xb36dc443f13d715f29 rfl m1 m0);refine eY rfl (λk d=>⟨bg (i:=60) (by rw[T]at m1 m0⊢;generalize r%1000000000000000000=X at m1 m0⊢;exact zl 0x2bed8510df13d715f29 rfl m1 m0) (by decide),by decide,by decide,Nat.le_trans p.len (by decide),d⟩) rfl (by rw[List.length_map];exact zl 0x9ec2385319419da55 rfl L E) ?_;have e:l.map V.str++[V.str (eG (aG (r%ak 18)) 18 48)]=(l++[eG (aG (r%ak 18)) 18 48]).map V.str:=by rw[List.map_append];rfl
  refine Z _ ⟨l++[eG (aG (r%ak 18)) 18 48],r/ak 18,vi (r%ak 18),.inr ⟨_,rfl⟩,λs S=> ?_,by simp;exact zl 133677935 rfl E,P,by rw[List.length_append];exact d1,.inr ?_,by rw[←e];rfl⟩ (by show(r/ak 18).toNat<r.toNat;exact zl 0x7a18cbd835c0e3bcd96ba8791001cc234 rfl T q d2)
  ·rcases List.mem_append.mp S with S|S
   ·exact x s S
   ·rw[List.mem_singleton]at S;subst S
    exact qc (m:=18) p (by decide)
  ·rcases eq with⟨_,rfl⟩|h
   ·exact q
   ·exact h
 ·have q:=of_decide_eq_false q
  have tr:Tx 37 (aG r):=(jU (k:=18) (by decide) (by rw[T]at q;exact zl 0x54cee1c58e2b404f481d rfl O q)).le (by decide);refine eY rfl (λk d=>⟨by have:(lH:Nat)=2^200:=rfl;rw[T]at q;exact zl 0x19d82c9a3082b404f481d rfl O q,d⟩) rfl (by rw[List.length_map];exact zl 0x9ec31d1719419da55 rfl L J) ?_;refine ai (λ_ h=>h) (λz=>by have:=of_decide_eq_true z;exact(zl 31154702365 rfl H this).elim) λ_=>ae ?_;have e:(l.map V.str++[V.str (aG r)]).reverse=((l++[aG r]).reverse).map V.str:=by rw[List.map_reverse,List.map_append];rfl
  have j:∀s∈(l++[aG r]).reverse,Tx 37 s:=λs S=>by
   rcases List.mem_append.mp (List.mem_reverse.mp S)with S|S
   ·exact x s S
   ·rw[List.mem_singleton]at S;subst S;exact tr
  have j:=DL j;have D:(l++[aG r]).reverse.length≤3:=by simp;exact zl 139131647 rfl J
  refine bN (ρ':=[vi n,vi r,.U ((l.map V.str++[V.str (aG r)]).reverse),Q]) (λ_ h=>h) ?_;refine iB (H3 (ρ1:=[vi n,vi r,.j (.o (((l++[aG r]).reverse).map V.str)),Q]) (λk d=> ?_) (Nat.le_trans j.len (zl 0x9ede9f1ff1db19419da55 rfl L D)) (h _ (j.le (zl 7002314120190351 rfl D)) λz=> ?_))
  ·rw[e];exact d
  rcases eq with⟨rfl,rfl⟩|eq
  ·show dS [aG r]=_
   generalize aG r=s;cases s with
   |mk c=>
    show(⟨c++ #[]⟩:Str)=_;rw[Array.append_empty]
  ·exact(zl 5878936993 rfl z eq).elim
theorem tI(a b):ak (a+b)=ak a*ak b:=by unfold ak;rw[Nat.pow_add,Int.natCast_mul]
theorem gX(a):10^a=ak a:=by unfold ak;rw[Int.natCast_pow];rfl
theorem kM(h:a≤b):ak a≤ak b:=by
 unfold ak;have:=Nat.pow_le_pow_right (show 0<10 by decide) h;exact zl 23879377143 rfl this
theorem w7(h:k≤33):(ak k).natAbs<2^110:=by
 have:ak 33=1000000000000000000000000000000000:=rfl;exact zl 0x13952d2d6d73355682a0196 rfl (kM h) (bW k) this
noncomputable def Up(n d e:Int):Prop:=n*ak (0-e).toNat<d*ak e.toNat*10
theorem Up.Ry(n0:0≤n)(d0:0<d)(h:Up n d e):Up n d (e+1):=by
 unfold Up at*;rcases Int.lt_or_le e 0 with z|z
 ·rw[show(0-e).toNat=(0-(e+1)).toNat+1 from zl 0xd3f32a9c5d8860e1ac9 rfl z,cZ,show e.toNat=0 from zl 6893599433 rfl z,←Int.mul_assoc]at h
  rw[show(e+1).toNat=0 from zl 7103895657161 rfl z];have:0≤n*ak (0-(e+1)).toNat:=Int.mul_nonneg n0 (Int.le_of_lt (bW _));exact zl 0x1414bf339b172703d8de96e rfl h this
 ·rw[show(0-e).toNat=0 from zl 7061698898205 rfl z]at h
  rw[show(0-(e+1)).toNat=0 from zl 7274391806011677 rfl z,show(e+1).toNat=e.toNat+1 from zl 0xd2a3d2592d291d rfl z,cZ,←Int.mul_assoc];have:0<d*ak e.toNat:=Int.mul_pos d0 (bW _);exact zl 0x1414b77d87df785cf303cf9 rfl h this
theorem rU(hd:0<d)(h:K (.j .none) []):FF 16 [.j (nv n d)] K X:=by
 refine de 16 rfl rfl rfl λG H=> ?_;refine ai (b:=false) (λ_ h=>h) (λq=>by cases q) λ_=>ae ?_;exact ai (λ_ h=>h) (λ_=>h) λq=>absurd hd (of_decide_eq_false q)
theorem qu(H:n=1∨n= -1)(h:K (.j (.str (a6 (n,0)))) []):FF 16 [.j (nv n 0)] K X:=by
 refine de 16 rfl rfl rfl λG g=> ?_;refine ai (b:=false) (λ_ h=>h) (λq=>by cases q) λ_=>ae ?_;refine ai (b:=false) (ρ':=[.j (nv n 0)]) (λ_ h=>h) (λq=>by cases q) λ_=>ae ?_;refine ai (λ_ h=>h) (λq=>by have:=of_decide_eq_true q;exact(zl 0x6db6ea6ee3f268 rfl H (dT q:)).elim) λ_=>ae ?_;rcases H with rfl|rfl
 ·exact h
 ·exact h
theorem vo(hd:0<d)(b1:a.natAbs<2^64)(b2:d.natAbs<2^64)(J: -20≤e)(Q:e≤20)(g0:1≤g)(g1:g≤14)(u:Up a.natAbs d e)
 (h:∀q,0≤q→q≤ak g.toNat→(d=1→0≤e→e<g→q=a.natAbs*ak (g-1-e).toNat)→K (.j (.int q)) []):FF 17 [.j (nv a d),vi e,vi g] K X:=by
 refine de 17 rfl rfl rfl λG O=> ?_;generalize N:(a.natAbs:Int)=n at*;have Y:0≤n:=zl 185536859019 rfl N;refine aw (ρ1:=[.j (nv a d),vi e,vi g,.y]) (λk B=>B) (aa rfl) ?_;generalize H:g-1-e=s at*;refine ai (λ_ h=>h) (λz=> ?_) λz=>ae ?_
 ·have z:=of_decide_eq_true z
  have bs:=w7 (k:=s.toNat) (zl 0x1ed103f80537125bd3255a7a927 rfl J g1 H);have b:(a.natAbs:Int).natAbs<lH:=bg (i:=64) (zl 30037915692659 rfl b1) (by decide);refine⟨z,zl 0xfaae200c6c5925bd3255a7a927 rfl J g1 H,by decide,b,?_,?_⟩
  ·rw[gX];exact bg bs (by decide)
  rw[gX,N];have p0:0≤n*ak s.toNat:=Int.mul_nonneg Y (Int.le_of_lt (bW _));refine O.c 12 rfl _ _ _ (ma p0 hd (iQ (ml (zl 0xe533a588ba68e73 rfl b1 N) bs) (by decide)) (iQ b2 (by decide)) λq T t R=>h q T ?_ λd1 _ _=>R d1);have:n*ak s.toNat/d<ak g.toNat:=by
   apply Int.ediv_lt_of_lt_mul hd;unfold Up at u;rcases Int.lt_or_le e 0 with y|y
   ·rw[show s.toNat=(0-e).toNat+(g.toNat-1)from zl 0x3da2aefe6c4440eac770a6a64b370f rfl g0 H y,tI,←Int.mul_assoc]
    rw[show e.toNat=0 from zl 6893599433 rfl y,show ak 0=1 from rfl,Int.mul_one]at u;have:=Int.mul_lt_mul_of_pos_right u (bW (g.toNat-1));rw[show d*10*ak (g.toNat-1)=ak g.toNat*d by
     rw[show g.toNat=(g.toNat-1)+1 from zl 0xd3f39f8c79ca0f rfl g0,cZ,Nat.add_sub_cancel,Int.mul_comm d,Int.mul_comm (ak _) 10,Int.mul_assoc,Int.mul_assoc,Int.mul_comm d]]at this
    exact this
   ·rw[show(0-e).toNat=0 from zl 7061698898205 rfl y,show ak 0=1 from rfl,Int.mul_one]at u
    have:=Int.mul_lt_mul_of_pos_right u (bW s.toNat);rw[show d*ak e.toNat*10*ak s.toNat=ak g.toNat*d by
     rw[show g.toNat=e.toNat+s.toNat+1 by rename_i Z;exact zl 0xf6aff42294597191dc276494ee7 rfl H (dT Z:) y,cZ,tI,Int.mul_assoc,Int.mul_comm 10,←Int.mul_assoc,Int.mul_assoc d,Int.mul_assoc d,Int.mul_comm d]]at this
    exact this
  exact Int.le_trans t this
 ·have z:=of_decide_eq_false z
  have bs:=w7 (k:=(0-s).toNat) (zl 0xf68828ca216a1624b8d49fa93e rfl Q g0 H);refine⟨by rename_i Z;exact zl 22253757464901 rfl (dF Z:),zl 0x7d571084bc4a5464b8d49fa93e rfl Q g0 H,by decide,bg b2 (by decide),?_,?_⟩
  ·rw[gX];exact bg bs (by decide)
  rw[gX,N];have D:0<d*ak (0-s).toNat:=Int.mul_pos hd (bW _);refine O.c 12 rfl _ _ _ (ma Y D (iQ (zl 0xe533a588ba68e73 rfl b1 N) (by decide)) (iQ (ml b2 bs) (by decide)) λq T t R=>h q T ?_ λ_ _ _=>by rename_i Z _ _ L;exact zl 0x214c1248271c7155e494ee7 rfl H (dF Z:) L);have:n/(d*ak (0-s).toNat)<ak g.toNat:=by
   apply Int.ediv_lt_of_lt_mul D;unfold Up at u;rw[show(0-e).toNat=0 by rename_i Z;exact zl 0x744b2edb813f42890a64b370f rfl g0 H (dF Z:),show ak 0=1 from rfl,Int.mul_one]at u;rw[show ak g.toNat*(d*ak (0-s).toNat)=d*ak e.toNat*10 by
    rw[Int.mul_comm,Int.mul_assoc,←tI,Int.mul_assoc,←cZ,show(0-s).toNat+g.toNat=e.toNat+1 by rename_i Z;exact zl 0x1d241643c70566efd16aa690a64b370f rfl g0 H (dF Z:)]]
   exact u
  exact Int.le_trans t this
noncomputable def gp(l:List Nat):Nat→Nat
|0=>0
|1=>1
|k+2=>match l[k+1]? with
 |some c=>(match beq c 48 with|true=>gp l (k+1)|false=>k+2)
 |.none=>k+2
theorem ux(l):∀k,gp l k≤k
|0=>Nat.le_refl _
|1=>Nat.le_refl _
|k+2=>by
 show(match l[k+1]? with|some c=>(match Nat.beq c 48 with|true=>gp l (k+1)|false=>k+2)|.none=>k+2)≤_;cases l[k+1]? with
 |none=>exact Nat.le_refl _
 |some c=>
  show(match Nat.beq c 48 with|true=>gp l (k+1)|false=>k+2)≤_;cases beq c 48 with
  |true=>exact le_succ_of_le (ux l (k+1))
  |false=>exact Nat.le_refl _
theorem q7(l):∀k,1≤k→1≤gp l k
|1,_=>Nat.le_refl _
|k+2,_=>by
 show _≤(match l[k+1]? with|some c=>(match Nat.beq c 48 with|true=>gp l (k+1)|false=>k+2)|.none=>k+2);cases l[k+1]? with
 |none=>exact succ_le_succ (zero_le _)
 |some c=>
  show _≤(match Nat.beq c 48 with|true=>gp l (k+1)|false=>k+2);cases beq c 48 with
  |true=>exact q7 l (k+1) (succ_le_succ (zero_le _))
  |false=>exact succ_le_succ (zero_le _)
noncomputable abbrev dP(s:Str):Nat:=gp s.cps.toList s.cps.toList.length
theorem IB:∀m:Fin 10,0<m.1→dP (aG (m.1*100))≤1:=by decide+kernel
theorem Ih:∀m:Fin 15,dP (aG (((m.1+10:Nat))*10))≤2:=by decide+kernel
theorem H8:∀m:Fin 25,0<m.1→ax ((⟨#[45]⟩)++aG m.1) (aG (-m.1))=true:=by decide+kernel
theorem gH(h:0≤n):1≤(aG n).cps.toList.length:=by
 obtain⟨m,rfl⟩:=Int.eq_ofNat_of_zero_le h;show 1≤(Str.ofString (Nat.repr m)).cps.toList.length;rw[AN,length_map];exact length_repr_pos
theorem cP{Y:Type}(g:Y→V)(P:Y→Prop)(h:∀k:Rv→R→Prop,(∀p,P p→k (.j (g p)) ρ1)→ev G e ρ k X)(H:bp ρ1 i)(h1:∀p,P p→ex G r (ρ1.set i (.j (g p))) x C t X):ex G (.cons (.C i e) r) ρ x C t X:=h _ λp u=>aU H (h1 p u)
theorem iG(h:ρ[j]? =some (.j v)):bp ρ j:=aq h (.inr ⟨_,rfl⟩)
theorem qj(H:Tx 100 s)(g:1≤s.cps.toList.length)(h:∀t:Str,t.cps.toList.length=dP s→K (.j (.str t)) []):FF 19 [.j (.str s)] K X:=by
 refine de 19 rfl rfl rfl λG O=> ?_;have L:aA=1000000:=rfl;have sl:=H.len;refine aw (λk d=>⟨zl 0x27ab66bdf6b19419da55 rfl L sl,d⟩) (aa rfl) ?_;refine jJ (λρ=>∃j:Nat,ρ=[.j (.str s),vi j]∧1≤j∧j≤s.cps.toList.length∧gp s.cps.toList j=dP s) (λρ=>match ρ with|[_,.j (.int j)]=>j.toNat|_=>0) ⟨_,rfl,g,Nat.le_refl _,rfl⟩ ?_;rintro ρ ⟨j,rfl,M,J,T⟩ Q Z;have S:gp s.cps.toList j=j→ex G (.cons (.ret (.Y (.sl (.d 0) .no (.D (.d 1))))) .nil) [.j (.str s),vi (j:Int)] (λρ=>K (.j .none) []) (λ_=>False) (λr ρ=>K r []) X:=λe=>by
  refine⟨zl 0x27ab66bdf6b19419da55 rfl L sl,?_⟩;apply h _;show(List.take (ay s.cps.toList.length (j:Int)) s.cps.toList).length=_;rw[l7 J,length_take,←T,e];exact zl 5627380919 rfl J
 refine aT (λ_ h=>h) (λq=> ?_) λq=> ?_
 ·have q:=of_decide_eq_true q
  obtain⟨i,rfl⟩:∃i,j=i+2:=⟨j-2,zl 0x430ff189f11fa rfl q⟩;have I:i+1<s.cps.toList.length:=zl 24675295837088 rfl J;have E:=getElem?_eq_getElem I;generalize s.cps.toList[i+1]'I=c at E;have tr:gp s.cps.toList (i+2)=(match beq c 48 with|true=>gp s.cps.toList (i+1)|false=>i+2):=by
   show(match s.cps.toList[i+1]? with|some c=>(match Nat.beq c 48 with|true=>gp s.cps.toList (i+1)|false=>i+2)|.none=>i+2)=_;rw[E]
  have sx:ax ⟨#[c]⟩ ⟨#[48]⟩=beq c 48:=by
   show(match Nat.beq c 48 with|true=>true|false=>false)=_;cases beq c 48<;>rfl
  refine bK (λk d=>ko (a:=⟨#[c]⟩) ?_ rfl (λk d=> ?_) (λ_ h=>h) d) (λz=> ?_) λz=> ?_
  ·show(match blt c 0x110000 with|true=>true|false=>false)=true
   rw[show blt c 0x110000=true from ble_eq_true_of_le (H.ok c (List.mem_of_getElem? E))]
  ·refine⟨zl 0x27ab66bdf6b19419da55 rfl L sl,?_⟩
   rw[show(((i+2:Nat):Int)-1)=((i+1:Nat):Int)from zm 0x4361b30c435c3 rfl _,aC E];exact d
  ·rw[sx]at z
   rw[z]at tr;refine Z _ ⟨i+1,?_,zm 4416030 rfl _,zl 24675287907232 rfl J,?_⟩ ?_
   ·show[.j (.str s),vi (((i+2:Nat))-1)]=_
    rw[show(((i+2:Nat):Int)-1)=((i+1:Nat):Int)from zm 0x4361b30c435c3 rfl _]
   ·rw[←T,tr]
   ·show(((i+2):Int)-1).toNat<((i+2):Int).toNat
    exact zm 0x11886be61886b871 rfl _
  ·rw[sx]at z
   rw[z]at tr;exact S tr
 ·have q:=of_decide_eq_false q
  have:j=1:=zl 0x38fe281ef9ac30 rfl M q;subst this;exact S rfl
noncomputable def pJ(a d g:Int):Prop:=d=1∧a.natAbs≤24∧g=3
theorem zy(L:a≠0)(lo:d≤a.natAbs→0≤e∧d*ak e.toNat≤a.natAbs)(iQ:Up a.natAbs d e)(Q:d=1→0≤e→e<g→q=a.natAbs*ak (g-1-e).toNat):pJ a d g→0≤e∧e≤1∧q<ak g.toNat∧(dP (aG q))≤e+1:=by
 rintro⟨rfl,A,rfl⟩;have l:=lo (zl 22005806062114 rfl L);rw[Int.one_mul]at l;have E:e≤1:=by
  rcases Int.lt_or_le 1 e with y|y
  ·have:=kM (show 2≤e.toNat from zl 5665512474 rfl y)
   have t:ak 2=100:=rfl;exact zl 0xb0e12d8a4fe52fbb34d88f9ab68 rfl A l.2 this t
  ·exact y
 have C:=Q rfl l.1 (zl 231747918 rfl E);have T:ak (3:Int).toNat=1000:=rfl;unfold Up at iQ;rw[show(0-e).toNat=0 from zl 7061698898205 rfl l.1,show ak 0=1 from rfl,Int.mul_one,Int.one_mul]at iQ;rcases(by exact zl 0x2f0edf88f5ae51d rfl l.1 E:e=0∨e=1)with rfl|rfl
 ·rw[show ak (0:Int).toNat=1 from rfl]at iQ
  rw[show ak ((3:Int)-1-0).toNat=100 from rfl]at C;have:=IB ⟨a.natAbs,zl 0x16944770f13f02b80 rfl iQ⟩ (by show 0<a.natAbs;exact zl 688007817250 rfl L);rw[←C]at this;exact⟨zm 5445 rfl,zm 6149 rfl,zl 0x7918a8cb0510faf1391b9385fd915c4 rfl T iQ C,zl 4418732270959 rfl this⟩
 ·rw[show ak ((3:Int)-1-1).toNat=10 from rfl]at C
  have lb:10≤a.natAbs:=by
   have:=l.2;rw[show ak (1:Int).toNat=10 from rfl]at this;exact zl 0x54ad7a5c5c1ded rfl this
  have:=Ih ⟨a.natAbs-10,zl 0x2ec8d891c5861ab68 rfl A⟩;rw[show((a.natAbs-10+10:Nat):Int)=a.natAbs from zl 0x152bea93a2471257ddaae0e rfl lb,←C]at this;exact⟨zm 6149 rfl,zm 6171 rfl,zl 0xf4844421463e63e9dde1a9ab68 rfl A T C,zl 4424314891519 rfl this⟩
theorem jM(hd:0<d)(b1:a.natAbs<2^64)(b2:d.natAbs<2^64)(g0:1≤g)(g1:g≤14)
 (h:∀(L:Int)(t:Str)(e:Int),-20≤e→e≤20→Tx (g.toNat+2) t→1≤t.cps.toList.length→(pJ a d g→0≤e∧e≤1∧(dP t:Int)≤e+1)→K (.j (.L [.int L,.str t,.int e])) []):FF 18 [.j (nv a d),vi g] K X:=by
 refine de 18 rfl rfl rfl λG O=> ?_;refine ai (λ_ h=>h) (λz=> ?_) λz=>ae ?_
 ·have z:=of_decide_eq_true z
  refine⟨zl 179569935 rfl g0,zl 0xf7afb95133e rfl g1,af rfl,h _ _ _ (by decide) (by decide) ?_ ?_ λy=> ?_⟩
  ·constructor
   ·show(replicate g.toNat 48).toArray.toList.length≤_
    rw[length_replicate];exact zm 1915333456 rfl _
   ·intro c C
    have:=(mem_replicate).mp C;exact zl 0xfec301c65122575 rfl this.2
  ·show 1≤(replicate g.toNat 48).toArray.toList.length
   rw[length_replicate];exact zl 5664830991 rfl g0
  ·obtain⟨_,_,rfl⟩:=y
   exact⟨by decide,by decide,by decide⟩
 ·have z:=of_decide_eq_false z
  refine cP V.int (λe=> -20≤e∧e≤19∧(d≤a.natAbs→0≤e∧d*ak e.toNat≤a.natAbs)∧Up a.natAbs d e) (ρ1:=[.j (nv a d),vi g,.y,.y]) ?_ (aa rfl) ?_
  ·intro k H
   exact O.c 13 rfl _ _ _ (xg z hd b1 b2 λe F Y h1 h2=>H e ⟨F,Y,h1,h2⟩)
  rintro e ⟨F,Y,lo,iQ⟩;refine cP V.int (λq=>0≤q∧q≤ak g.toNat∧(d=1→0≤e→e<g→q=a.natAbs*ak (g-1-e).toNat)) (ρ1:=[.j (nv a d),vi g,vi e,.y]) ?_ (aa rfl) ?_
  ·intro k H
   exact O.c 17 rfl _ _ _ (vo hd b1 b2 F (zl 831636336702 rfl Y) g0 g1 iQ λq Q E R=>H q ⟨Q,E,R⟩)
  rintro q ⟨Q,E,R⟩;have f:=kM (show g.toNat≤14 from zl 25540639265598 rfl g1);have Z:ak 14=100000000000000:=rfl;have T:∀{q:Int},0≤q→q≤ak g.toNat→Tx (g.toNat+2) (aG q):=λ{q}N h1=>by
   refine jU (zm 233649673 rfl _) ?_;have h2:=cZ g.toNat;have h3:=bW g.toNat;have h4:ak (g.toNat+1)=((10^(g.toNat+1):Nat):Int):=rfl;exact zl 0xddfee0553ce435cd5898f702fed1d rfl N h1 h2 h3 h4
  have B:∀{q:Int},0≤q→q≤ak g.toNat→q.natAbs<lH:=λ{q}N h1=>bg (i:=60) (zl 0x7338dd3dbfab956cb2595c8516 rfl f Z N h1) (by decide);have a9:∀e q,-20≤e→e≤20→0≤q→q≤ak g.toNat→(pJ a d g→0≤e∧e≤1∧(dP (aG q):Int)≤e+1)→ex G (.cons (.ret (.L (.cons (.ite (.D (.ag .gt (.sub (.d 0) (.p 0)) (.p 0))) (.p 1) (.neg (.p 1))) (.cons (.b1 .str (.d 3)) (.cons (.d 2) .nil))))) .nil) [.j (nv a d),vi g,vi e,vi q] (λρ=>K (.j .none) []) (λ_=>False) (λr ρ=>K r []) X:=by
   intro e q F Y Q E ex;apply iB;refine bx (λ_ h=>h) (λ_=>⟨B Q E,af rfl,?_⟩) λ_=>⟨B Q E,af rfl,?_⟩
   ·exact h _ _ _ F Y (T Q E) (gH Q) ex
   ·exact h _ _ _ F Y (T Q E) (gH Q) ex
  have S:=zy z lo iQ R;refine ai (b:=decide (ak g.toNat≤q)) (ρ':=[.j (nv a d),vi g,vi e,vi q]) (λk H=>⟨zl 179569935 rfl g0,zl 0xf7afb95133e rfl g1,by decide,?_⟩) (λy=> ?_) λy=>ae ?_
  ·show k (decide (10^g.toNat≤q)) _
   rw[gX];exact H
  ·have y:=of_decide_eq_true y
   refine bN (λ_ h=>h) ?_;refine cP V.int (λq=>0≤q∧q≤ak g.toNat) (ρ1:=[.j (nv a d),vi g,vi (e+1),vi q]) ?_ (iG rfl) ?_
   ·intro k H
    exact O.c 17 rfl _ _ _ (vo hd b1 b2 (zl 0xd294f3a237fa927 rfl F) (zl 851689902321726 rfl Y) g0 g1 (iQ.Ry (zm 5871173 rfl _) hd) λq Q E R=>H q ⟨Q,E⟩)
   rintro j ⟨J,m⟩;exact ae (a9 _ _ (zl 0xd294f3a237fa927 rfl F) (zl 851689902321726 rfl Y) J m λw=>by have:=S w;exact zl 0x7597baca9082bf435d07ed1c1c8256 rfl y this.2.2.1)
  ·have y:=of_decide_eq_false y
   have x:pJ a d g→0≤e∧e≤1∧(dP (aG q):Int)≤e+1:=λw=>by
    obtain⟨W,P,_,A⟩:=S w;exact⟨W,P,A⟩
   have M:e≤20:=by omega
   have:=a9 e q F M Q E x;exact this
theorem uw(h:Tx n s)(a b):Tx n ⟨((s.cps.toList.take b).drop a).toArray⟩:=by
 constructor
 ·show((s.cps.toList.take b).drop a).length≤n
  rw[length_drop,length_take];have:=h.len;exact zl 0x68c9756d00b7 rfl this
 ·intro c H
  exact h.ok c (mem_of_mem_take (mem_of_mem_drop H))
theorem GQ(h:Tx n s){c i:Nat}(e:s.cps.toList[i]? =some c):Tx 1 ⟨#[c]⟩:=bu c (h.ok c (mem_of_getElem? e))
theorem GD(H:∀k,k x ρ1→ev G a ρ k X)(hb:∀k,k y Q→ev G b ρ1 k X)(h:JG o x.v y.v λr=>k r Q):ev G (.w o a b) ρ k X:=H _ (hb _ h)
theorem uD{Y:Type}(g1 g2 g3:Y→V)(P:Y→Prop)(h:∀k:Rv→R→Prop,(∀p,P p→k (.j (.L [g1 p,g2 p,g3 p])) ρ1)→ev G e ρ k X)(f:∀p,bp ρ1 i∧bp (ρ1.set i (.j (g1 p))) j∧bp ((ρ1.set i (.j (g1 p))).set j (.j (g2 p))) l)(h1:∀p,P p→ex G r (((ρ1.set i (.j (g1 p))).set j (.j (g2 p))).set l (.j (g3 p))) x C t X):ex G (.cons (.jo [i,j,l] e) r) ρ x C t X:=
 h _ λp H=>aU (f p).1 (aU (f p).2.1 (aU (f p).2.2 (h1 p H)))
structure Mm(a d g:Int)(p:Int×Str×Int):Prop where
 e0: -20≤p.2.2
 e1:p.2.2≤20
 tx:Tx (g.toNat+2) p.2.1
 pos:1≤p.2.1.cps.toList.length
 sm:pJ a d g→0≤p.2.2∧p.2.2≤1∧(dP p.2.1:Int)≤p.2.2+1
theorem sR(hd:0<d)(b1:a.natAbs<2^64)(b2:d.natAbs<2^64)(g0:1≤g)(g1:g≤14)(h:∀s,Tx 600 s→K (.j (.str s)) []):FF 20 [.j (nv a d),vi g] K X:=by
 refine fw 20 rfl rfl λG O=> ?_;have L:aA=1000000:=rfl;refine uD (ρ1:=[.j (nv a d),vi g,.y,.y,.y,.y]) (λp:Int×Str×Int=>V.int p.1) (λp=>V.str p.2.1) (λp=>V.int p.2.2) (Mm a d g) ?_ (λp=>⟨aa rfl,aa rfl,aa rfl⟩) ?_
 ·intro k H
  exact O.c 18 rfl _ _ _ (jM hd b1 b2 g0 g1 λS t e h1 h2 h3 h4 h5=>H (S,t,e) ⟨h1,h2,h3,h4,h5⟩)
 rintro⟨S,t,e⟩ ⟨F,Y,T,P,M⟩;have F: -20≤e:=F;have Y:e≤20:=Y;have T:=T.le (show g.toNat+2≤16 from zl 0x5e3a446cd6933e rfl g1);have P:=P;refine cP V.str (Tx 1) (ρ1:=[.j (nv a d),vi g,vi S,.j (.str t),vi e,.y]) ?_ (aa rfl) ?_
 ·intro k H
  exact bx (c:=decide (S<0)) (ρ':=[.j (nv a d),vi g,vi S,.j (.str t),vi e,.y]) (λ_ h=>h) (λ_=>H _ (bu 45 (by decide))) λ_=>H _ ⟨zero_le _,λc C=>by cases C⟩
 intro U I;refine cP V.str (Tx 2) (ρ1:=[.j (nv a d),vi g,vi S,.j (.str t),vi e,.j (.str U)]) ?_ (iG rfl) ?_
 ·intro k H
  have E:=getElem?_eq_getElem P;generalize t.cps.toList[0]'P=c at E;refine⟨Nat.le_trans T.len (zl 0x55f242d9419da55 rfl L),?_⟩;show(match cy t.cps.toList ((0:Nat):Int)with|some c=>_|.none=>False);rw[aC E];exact⟨rZ I (GQ T E) rfl,H _ (I.add (GQ T E))⟩
 intro R W;have a9:∀s,Tx 40 s→ex G (.cons (.ret (.w .add (.w .add (.d 5) (.ite (.D (.ag .lt (.d 4) (.p 0))) (.M ⟨#[101,45]⟩) (.M ⟨#[101,43]⟩))) (.jD (.b1 .str (.b1 .abs (.d 4))) (.p 2) (.M ⟨#[48]⟩)))) .nil) [.j (nv a d),vi g,vi S,.j (.str t),vi e,.j (.str s)] (λρ=>K (.j .none) (bf [.j (nv a d),vi g] ρ)) (λ_=>False) (λr ρ=>K r (bf [.j (nv a d),vi g] ρ)) X:=by
  intro s ts;have j:Tx 5 (eG (aG (e.natAbs:Int)) 2 48):=qc (m:=2) (jU (by decide) (zl 0x14a0d161e2b227f297a927 rfl ‹_› ‹_›)) (by decide);have u:Tx 3 (aG (e.natAbs:Int)):=jU (k:=2) (by decide) (zl 0x14a0d161e2b227f297a927 rfl ‹_› ‹_›);have b:(e.natAbs:Int).natAbs<lH:=bg (i:=10) (zl 0x140b4570432b227f297a927 rfl ‹_› ‹_›) (by decide);have o:∀c,c<0x110000→Tx 2 ⟨#[101,c]⟩:=λc C=>⟨Nat.le_refl _,λx Q=>by
   change x∈[101,c]at Q;simp only[mem_cons,List.not_mem_nil,or_false]at Q;exact zl 0x150d7afb11004d09ebfe28a400a534a rfl C Q⟩
  obtain⟨B,y,Z⟩:∃B,Tx 2 B∧∀k,k (.j (.str B)) [.j (nv a d),vi g,vi S,.j (.str t),vi e,.j (.str s)]→ev G (.ite (.D (.ag .lt (.d 4) (.p 0))) (.M ⟨#[101,45]⟩) (.M ⟨#[101,43]⟩)) [.j (nv a d),vi g,vi S,.j (.str t),vi e,.j (.str s)] k X:=by
   cases z:decide (e<0)with
   |true=>exact⟨_,o 45 (by decide),λk H=>bx (λ_ h=>h) (λ_=>H) λq=>by rw[z]at q;cases q⟩
   |false=>exact⟨_,o 43 (by decide),λk H=>bx (λ_ h=>h) (λq=>by rw[z]at q;cases q) λ_=>H⟩
  have A:=ts.add y;refine iB (GD (λk H=>GD (λ_ h=>h) Z ⟨rZ ts y rfl,H⟩) (λk H=>⟨b,by decide,by decide,Nat.le_trans u.len (by decide),H⟩) ⟨rZ A j rfl,h _ ((A.add j).le (by decide))⟩)
 refine ai (ρ':=[.j (nv a d),vi g,vi S,.j (.str t),vi e,.j (.str R)]) (λ_ h=>h) (λ_=> ?_) λ_=>ae (a9 R (W.le (by decide)));have D:=bu 46 (by decide);have tt:=uw T (ay t.cps.toList.length 1) t.cps.toList.length;refine aw (λk H=>⟨rZ W D rfl,Nat.le_trans T.len (zl 0x55f242d9419da55 rfl L),rZ (W.add D) tt rfl,H⟩) (iG rfl) (ae (a9 _ (((W.add D).add tt).le (by decide))))
theorem Fj(hd:0<d)(b1:a.natAbs<2^64)(b2:d.natAbs<2^64)(p0:0≤p)(p1:p≤33)(h:∀s,Tx 600 s→(d=1→a.natAbs≤24→p=0→s=aG a)→K (.j (.str s)) []):FF 21 [.j (nv a d),vi p] K X:=by
 refine de 21 rfl rfl rfl λG g=> ?_;have S:aA=1000000:=rfl;have bs:=w7 (k:=p.toNat) (zl 28934871977534 rfl p1);have pp:=bW p.toNat;generalize H:(a.natAbs:Int)=n;have D:0≤n*ak p.toNat:=Int.mul_nonneg (zl 185536859019 rfl H) (Int.le_of_lt pp);refine cP V.int (λq=>0≤q∧q<ak 54∧(d=1→p=0→q=n)) (ρ1:=[.j (nv a d),vi p,.y,.y]) ?_ (aa rfl) ?_
 ·intro k R
  refine⟨p0,zl 0xf7afb9e0e3e rfl p1,by decide,bg (zl 30037915692659 rfl b1) (by decide),?_,?_⟩
  ·rw[gX];exact bg bs (by decide)
  rw[gX,H];refine g.c 12 rfl _ _ _ (ma D hd (iQ (ml (zl 0xe533a588ba68e73 rfl b1 H) bs) (by decide)) (iQ b2 (by decide)) λq Q t N=>R q ⟨Q,?_,λd1 z=> ?_⟩)
  ·have h1:n*ak p.toNat/d≤n*ak p.toNat:=Int.ediv_le_self _ D
   have h2:n*ak p.toNat≤2^64*ak 33:=Int.mul_le_mul (zl 0x288c4e3e3c61a68a0cc773 rfl b1 H) (kM (zl 28934871977534 rfl p1)) (Int.le_of_lt pp) (by decide);have h3:(2^64*ak 33)+1<ak 54:=by decide
   exact Int.lt_of_le_of_lt t (Int.lt_of_le_of_lt (Int.add_le_add_right (Int.le_trans h1 h2) 1) h3)
  ·subst z
   rw[N d1,show ak (0:Int).toNat=1 from rfl,Int.mul_one]
 rintro q ⟨Q,t,N⟩;obtain⟨m,rfl⟩:=Int.eq_ofNat_of_zero_le p0;refine cP V.str (λs=>Tx 240 s∧(d=1→a.natAbs≤24→m=0→s=aG n)) (ρ1:=[.j (nv a d),vi (m:Nat),vi q,.y]) ?_ (aa rfl) ?_
 ·intro k R
  refine g.c 15 rfl _ _ _ (rD Q t λs ts ex=>⟨zm 141374981 rfl _,zl 0xa48011679099ca55 rfl p1,Nat.le_trans ts.len (zm 11544859714 rfl),R _ ⟨?_,λd1 P Z=> ?_⟩⟩)
  ·exact(qc ts (by decide)).le (zl 0x336138a49c11fdf1ca55 rfl p1)
  ·subst Z
   have e:=N d1 rfl;have C:ak 18=1000000000000000000:=rfl;have j:=ex (zl 0xe105689dec1021a901ee44269bf6dd54f5165f641ed5e4163c26cb8b rfl H d1 P N C);have:=gH Q;rw[←j]at this;show eG s ((1:Nat):Int) 48=_;rw[BP this,j,e]
 rintro s ⟨ts,E⟩;have a9:∀s,Tx 500 s→(d=1→a.natAbs≤24→m=0→s=aG n)→ex G (.cons (.iff (.D (.ag .lt (.sub (.d 0) (.p 0)) (.p 0))) (.cons (.ret (.w .add (.M ⟨#[45]⟩) (.d 3))) .nil) .nil) (.cons (.ret (.d 3)) .nil)) [.j (nv a d),vi m,vi q,.j (.str s)] (λρ=>K (.j .none) (bf [.j (nv a d),vi m] ρ)) (λ_=>False) (λr ρ=>K r (bf [.j (nv a d),vi m] ρ)) X:=by
  intro s ts E;refine ai (λ_ h=>h) (λz=> ?_) λz=>ae ?_
  ·have z:=of_decide_eq_true z
   refine⟨rZ (bu 45 (by decide)) ts rfl,h _ (((bu 45 (by decide)).add ts).le (by decide)) λd1 P Z=> ?_⟩;rw[E d1 P (zl 4105157227 rfl Z)];have:=H8 ⟨n.toNat,zl 0x52a0c90d48a0446cb8b rfl H P⟩ (by show 0<n.toNat;rename_i u;exact zl 0x28b102bd01fcb8b rfl H (dT u:));rw[aD,show(n.toNat)=n from zl 47360773573515 rfl H,show-n=a by rename_i u;exact zl 0x9dfab1ec1fcb8b rfl H (dT u:)]at this;exact this
  ·have z:=of_decide_eq_false z
   refine h _ (ts.le (by decide)) λd1 P Z=> ?_;rw[E d1 P (zl 4105157227 rfl Z),show n=a from zl 0x255560425ffcb8b rfl H z]
 refine ai (λ_ h=>h) (λz=> ?_) λ_=>ae (a9 s (ts.le (by decide)) E);have z:=of_decide_eq_true z;have T:=bu 46 (by decide);have L:s.cps.toList.length≤aA:=Nat.le_trans ts.len (zl 0x55a24a959419da55 rfl S);have I:=uw ts 0 (ay s.cps.toList.length (s.cps.toList.length-m));have W:=uw ts (ay s.cps.toList.length (s.cps.toList.length-m)) s.cps.toList.length;refine aw (λk R=>⟨L,L,rZ I T rfl,L,L,rZ (I.add T) W rfl,R⟩) (iG rfl) (ae (a9 _ (((I.add T).add W).le (by decide)) λ_ _ Z=>by rename_i u _ _;exact(zl 659245633800 rfl (dT u:) Z).elim))
noncomputable def mx(a b:Int):Int:=match decide (a<b)with
 |true=>b
 |false=>a
theorem uI(a b):mx a b=max a b:=by
 show(match decide (a<b)with|true=>b|false=>a)=_;cases h:decide (a<b)with
 |true=>have:=of_decide_eq_true h;exact zl 11521834913 rfl (dT h:)
 |false=>have:=of_decide_eq_false h;exact zl 1394122046961 rfl (dF h:)
noncomputable def oJ:Str:=⟨#[102,105,120,101,100]⟩
noncomputable def I8:Str:=⟨#[115,99,105,101,110,116,105,102,105,99]⟩
theorem IU(h:∀k,k [v] ρ→qY G I ρ k X)(H:bp ρ i)(h1:ex G b (ρ.set i (.j v)) (λρ=>ex G r ρ x C t X) (λρ=>ex G r ρ x C t X) t X):ex G (.cons (.bU i I b) r) ρ x C t X:=by
 apply h _;show bH ρ i (.j v) (λρ=>ex G b ρ (λρ=>ex G r ρ x C t X) (λρ=>ex G r ρ x C t X) t X);exact aU H h1
theorem IP(h:∀k,k [] ρ→qY G I ρ k X)(h1:ex G r ρ x C t X):ex G (.cons (.bU i I b) r) ρ x C t X:=h _ h1
structure Qj(a d g:Int)(p:Int×Int×Int×Int):Prop where
 c0:1≤p.1
 c1:p.1≤14
 l1:p.2.1≤24
 p0:0≤p.2.2.1
 p1:p.2.2.1≤33
 e0: -20≤p.2.2.2
 e1:p.2.2.2≤20
 sm:pJ a d g→p.2.2.1=0∧p.2.1≤3
noncomputable abbrev G1(p:Int×Int×Int×Int):V:=.L [.int p.1,.int p.2.1,.int p.2.2.1,.int p.2.2.2]
theorem w5(hd:0<d)(b1:a.natAbs<2^64)(b2:d.natAbs<2^64)(g0:3≤g)(g1:g≤12)(h:∀p,Qj a d g p→K (.j (G1 p)) []):FF 22 [.j (nv a d),vi g] K X:=by
 refine fw 22 rfl rfl λG O=> ?_;refine uD (ρ1:=[.j (nv a d),vi g,.y,.y,.y,.y,.y]) (λp:Int×Str×Int=>V.int p.1) (λp=>V.str p.2.1) (λp=>V.int p.2.2) (Mm a d g) ?_ (λp=>⟨aa rfl,aa rfl,aa rfl⟩) ?_
 ·intro k H
  exact O.c 18 rfl _ _ _ (jM hd b1 b2 (zl 180251891 rfl g0) (zl 798140408126 rfl g1) λS t e h1 h2 h3 h4 h5=>H (S,t,e) ⟨h1,h2,h3,h4,h5⟩)
 rintro⟨S,t,e⟩ ⟨E,Q,T,P,m⟩;have tl:dP t≤t.cps.toList.length:=ux ..;have L:=T.len;replace E: -20≤e:=E;replace Q:e≤20:=Q;replace L:t.cps.toList.length≤g.toNat+2:=L;refine aw (v:=.j (.int (dP t:Nat))) (ρ1:=[.j (nv a d),vi g,vi S,.j (.str t),vi e,.y,.y]) (λk H=> ?_) (aa rfl) ?_
 ·refine O.c 19 rfl _ _ _ (qj (T.le (zl 0x574975e6cd5a13e rfl g1)) P λj I=>⟨?_,?_⟩)
  ·show j.cps.toList.length≤aA
   have Y:aA=1000000:=rfl;refine Nat.le_trans (Nat.le_of_eq I) (Nat.le_trans tl (Nat.le_trans L ?_));exact zl 0x68ac806f6c4e069e13e rfl g1 Y
  ·show k (.j (.int j.cps.toList.length)) _
   rw[I];exact H
 refine aw (λk H=>H) (aa rfl) ?_;have a9:∀l,l≤mx e 0+2→ex G (.cons (.ret (.L (.cons (.d 5) (.cons (.d 6) (.cons (.b2 .max (.w .sub (.w .sub (.d 5) (.p 1)) (.d 4)) (.p 0)) (.cons (.d 4) .nil)))))) .nil) [.j (nv a d),vi g,vi S,.j (.str t),vi e,vi (dP t),vi l] (λρ=>K (.j .none) (bf [.j (nv a d),vi g] ρ)) (λ_=>False) (λr ρ=>K r (bf [.j (nv a d),vi g] ρ)) X:=by
  intro l R;have h1:=uI e 0;have h2:=uI (((dP t))-1-e) 0;refine⟨af rfl,h ((dP t),l,mx (((dP t))-1-e) 0,e) ⟨?_,?_,?_,?_,?_,E,Q,λz=> ?_⟩⟩
  ·exact zl 2873428784 rfl (q7 _ _ P)
  ·exact zl 0x10887ed97a9c31560f2613e rfl g1 tl L
  ·exact zl 0x1ea7293097fa2bd06b9e93e rfl ‹_› R h1
  ·exact zl 0x3bf19beeaa6af4b4 rfl h2
  ·exact zl 0x77a40864465d5703038f1d3671fbff43cf2e232613e rfl g1 tl E L h2
  ·obtain⟨W,w,N⟩:=m z
   replace W:0≤e:=W;replace w:e≤1:=w;replace N:(dP t)≤e+1:=N;exact⟨by show mx (((dP t))-1-e) 0=0;lia,by show l≤3;lia⟩
 refine ai (λ_ h=>h) (λ_=> ?_) λ_=>ae (a9 _ (zm 1914837771 rfl _));exact bN (λ_ h=>h) (ae (a9 _ (zm 1960795398507 rfl _)))
structure Ov(a d g:Int)(p:Str×Int):Prop where
 or:(p.1=oJ∧0≤p.2∧p.2≤33)∨(p.1=I8∧1≤p.2∧p.2≤14)
 sm:pJ a d g→p=(oJ,0)
theorem Fh(h:K (.j (.L [.str oJ,.int 0])) []):FF 23 [.j (.o []),vi g] K X:=by
 refine de 23 rfl rfl rfl λG H=> ?_;refine bN (ρ':=[.j (.o []),vi g,vi 1,.y,.y,.y,.y,.y,.y,.y,.y]) (λ_ h=>h) ?_;refine bN (ρ':=[.j (.o []),vi g,vi 1,vi 1,.y,.y,.y,.y,.y,.y,.y]) (λ_ h=>h) ?_;refine bN (ρ':=[.j (.o []),vi g,vi 1,vi 1,vi 0,.y,.y,.y,.y,.y,.y]) (λ_ h=>h) ?_;refine bN (λ_ h=>h) ?_;refine bN (λ_ h=>h) ?_;refine IP (λ_ h=>h) ?_;refine bN (λ_ h=>h) ?_;refine bN (λ_ h=>h) ?_;exact ai (b:=true) (λ_ h=>h) (λ_=>⟨af rfl,h⟩) λq=>by cases q
theorem FV(hd:0<d)(b1:a.natAbs<2^64)(b2:d.natAbs<2^64)(g0:3≤g)(g1:g≤12)(h:∀p,Ov a d g p→K (.j (.L [.str p.1,.int p.2])) []):FF 23 [.j (.o [nv a d]),vi g] K X:=by
 refine fw 23 rfl rfl λG O=> ?_;refine bN (ρ':=[.j (.o [nv a d]),vi g,vi 1,.y,.y,.y,.y,.y,.y,.y,.y]) (λ_ h=>h) ?_;refine bN (ρ':=[.j (.o [nv a d]),vi g,vi 1,vi 1,.y,.y,.y,.y,.y,.y,.y]) (λ_ h=>h) ?_;refine bN (λ_ h=>h) ?_;refine bN (λ_ h=>h) ?_;refine bN (λ_ h=>h) ?_;refine IU (v:=nv a d) (λ_ h=>h) (aa rfl) ?_;refine cP G1 (Qj a d g) (ρ1:=[.j (.o [nv a d]),vi g,vi 1,vi 1,vi 0,vi 0,vi 0,.j (nv a d),.y,.y,.y]) ?_ (aa rfl) ?_
 ·intro k H
  exact O.c 22 rfl _ _ _ (w5 hd b1 b2 g0 g1 H)
 rintro⟨c,l,p,e⟩ ⟨U,Y,L,p0,p1,E,Q,S⟩;have U:1≤c:=U;have Y:c≤14:=Y;have L:l≤24:=L;have p0:0≤p:=p0;have p1:p≤33:=p1;have E: -20≤e:=E;have Q:e≤20:=Q;have S:=S;refine bN (ρ':=[.j (.o [nv a d]),vi g,vi (mx 1 c),vi 1,vi 0,vi 0,vi 0,.j (nv a d),.j (G1 (c,l,p,e)),.y,.y]) (λ_ h=>h) ?_;refine bN (ρ':=[.j (.o [nv a d]),vi g,vi (mx 1 c),vi (mx 1 l),vi 0,vi 0,vi 0,.j (nv a d),.j (G1 (c,l,p,e)),.y,.y]) (λ_ h=>h) ?_;refine bN (ρ':=[.j (.o [nv a d]),vi g,vi (mx 1 c),vi (mx 1 l),vi (mx 0 p),vi 0,vi 0,.j (nv a d),.j (G1 (c,l,p,e)),.y,.y]) (λ_ h=>h) ?_;have h1:=uI 1 c;have h2:=uI 1 l;have h3:=uI 0 p;generalize mx 1 c=C at*;generalize mx 1 l=l' at*;generalize mx 0 p=P at*;refine ai (b:=decide (100≤(e.natAbs:Int))) (λ_ h=>h) (λz=>by have:=of_decide_eq_true z;rename_i Z B _;exact(zl 0x6c3fcd112dae0ff297a927 rfl Z B (dT z:)).elim) λ_=>ae ?_;have a9:∀m,0≤m→ex G (.cons (.C 9 (.w .add (.d 3) (.ite (.D (.ag .gt (.d 4) (.p 0))) (.w .add (.d 4) (.p 1)) (.p 0)))) (.cons (.C 10 (.w .add (.w .add (.w .add (.d 6) (.ite (.D (.ag .gt (.d 2) (.p 1))) (.w .add (.d 2) (.p 1)) (.p 1))) (.p 4)) (.d 5))) (.cons (.iff (.D (.ag .le (.d 9) (.d 10))) (.cons (.ret (.L (.cons (.M ⟨#[102,105,120,101,100]⟩) (.cons (.d 4) .nil)))) .nil) .nil) (.cons (.ret (.L (.cons (.M ⟨#[115,99,105,101,110,116,105,102,105,99]⟩) (.cons (.d 2) .nil)))) .nil))))
  [.j (.o [nv a d]),vi g,vi C,vi l',vi P,vi 0,vi m,.j (nv a d),.j (G1 (c,l,p,e)),.y,.y] (λρ=>K (.j .none) (bf [.j (.o [nv a d]),vi g] ρ)) (λ_=>False) (λr ρ=>K r (bf [.j (.o [nv a d]),vi g] ρ)) X:=by
  intro m m0;refine cP V.int (λw=>P=0→w=l') (ρ1:=[.j (.o [nv a d]),vi g,vi C,vi l',vi P,vi 0,vi m,.j (nv a d),.j (G1 (c,l,p,e)),.y,.y]) ?_ (aa rfl) ?_
  ·intro k H
   refine bx (c:=decide (0<P)) (λ_ h=>h) (λz=> ?_) λz=> ?_
   ·have z:=of_decide_eq_true z
    exact H (l'+(P+1)) λy=>by rename_i Z;exact zl 0x146fe8a064193b28 rfl (dT Z:) y
   ·exact H (l'+0) λy=>zm 1484045 rfl _
  intro w W;refine cP V.int (λu=>5≤u) (ρ1:=[.j (.o [nv a d]),vi g,vi C,vi l',vi P,vi 0,vi m,.j (nv a d),.j (G1 (c,l,p,e)),vi w,.y]) ?_ (aa rfl) ?_
  ·intro k H
   refine bx (c:=decide (1<C)) (λ_ h=>h) (λz=> ?_) λz=> ?_
   ·have z:=of_decide_eq_true z
    exact H (m+(C+1)+4+0) (by rename_i Z;exact zl 0x5378cb414b26e1123911d rfl m0 (dT Z:))
   ·exact H (m+1+4+0) (zl 0x33d1f842f74621d rfl m0)
  intro u F;refine ai (b:=decide (w≤u)) (λ_ h=>h) (λz=>⟨af rfl,?_⟩) λz=>ae ⟨af rfl,?_⟩
  ·refine h (oJ,P) ⟨.inl ⟨rfl,by show 0≤P;exact zl 179954679988 rfl h3,by show P≤33;exact zl 0x14f6d36b301ed8e3e rfl ‹_› h3⟩,λy=> ?_⟩
   have:=S y;rw[show P=0 by lia]
  ·have z:=of_decide_eq_false z
   refine h (I8,C) ⟨.inr ⟨rfl,by show 1≤C;exact zl 180129198772 rfl h1,by show C≤14;exact zl 0x143c0f68f9a64933e rfl ‹_› h1⟩,λy=> ?_⟩;have:=S y;have:=W (by lia)
   lia
 refine ai (b:=decide (a<0)) (λ_ h=>h) (λ_=> ?_) λ_=>ae (ae (a9 0 (zm 5445 rfl)));exact bN (λ_ h=>h) (ae (ae (a9 1 (zm 6149 rfl))))
structure NT(p:PR)(g:Int)(s:Str):Prop where
 tx:Tx 600 s
 ex:(p.2=0∨(p.2=1∧p.1.natAbs≤24))→g=3→s=a6 p
noncomputable abbrev Oe(p:Str×Int):V:=.L [.str p.1,.int p.2]
theorem tG(H:n=1∨n= -1)(h:K (.j (.str (a6 (n,0)))) []):FF 24 [.j (nv n 0),.j f] K X:=by
 refine de 24 rfl rfl rfl λG g=> ?_;refine aw (λk d=>g.c 16 rfl _ _ _ (qu H d)) (aa rfl) ?_;exact ai (b:=true) (λ_ h=>h) (λ_=>h) λq=>by cases q
theorem BB(hd:0<d)(b1:a.natAbs<2^64)(b2:d.natAbs<2^64)(H:Ov a d g p)(h:∀s,NT (a,d) g s→K (.j (.str s)) []):FF 24 [.j (nv a d),.j (Oe p)] K X:=by
 refine de 24 rfl rfl rfl λG O=> ?_;refine aw (λk R=>O.c 16 rfl _ _ _ (rU hd R)) (aa rfl) ?_;refine ai (ρ':=[.j (nv a d),.j (Oe p),.j .none]) (λ_ h=>h) (λq=>by cases q) λ_=>ae ?_;obtain⟨kd,P⟩:=p;have R:ku kd=true:=by
  rcases H.or with⟨e,_⟩|⟨e,_⟩
  ·have e:=e
   subst e;rfl
  ·have e:=e
   subst e;rfl
 refine ai (λk=>ko R rfl (λ_ h=>h) (λ_ h=>h)) (λz=> ?_) λz=>ae ?_
 ·rw[aD]at z
  rcases H.or with⟨e,p0,p1⟩|⟨e,_⟩
  ·refine O.c 21 rfl _ _ _ (Fj hd b1 b2 p0 p1 λs ts ex=>h s ⟨ts,λy g3=> ?_⟩)
   have y:=y;rcases y with y|y
   ·exact(zl 31155043112 rfl hd y).elim
   ·have q:=H.sm ⟨y.1,y.2,g3⟩
    have q:=congrArg Prod.snd q;rw[ex y.1 y.2 q];unfold a6;rw[if_neg (by show¬d=0;exact zl 31155057764 rfl y.1)]
  ·have e:kd=I8:=e
   rw[e]at z;have:=aD.mpr z;cases this
 ·rcases H.or with⟨e,_⟩|⟨e,p0,p1⟩
  ·have e:=e
   subst e;cases z
  ·refine O.c 20 rfl _ _ _ (sR hd b1 b2 p0 p1 λs ts=>h s ⟨ts,λy g3=> ?_⟩)
   have y:=y;rcases y with y|y
   ·exact(zl 31155043112 rfl hd y).elim
   ·have q:=H.sm ⟨y.1,y.2,g3⟩
    have q:kd=oJ:=congrArg Prod.fst q;subst q;cases z
theorem Bt(H:aK p)(g0:3≤g)(g1:g≤12)(h:∀s,NT p g s→K (.j (.o [.str s])) []):FF 25 [.j (.o [ah p]),vi g] K X:=by
 refine de 25 rfl rfl rfl λG O=> ?_;obtain⟨a,d⟩:=p;obtain⟨x,b1,b2⟩:=H;have x:=x;have b1:=b1;have b2:=b2;refine aw (ρ1:=[.j (.o [ah (a,d)]),vi g,.y,.y,.y,.y]) (λk R=>fR (jW (λ_ h=>h) (af rfl) (aa rfl) t7 (λv=>v) (λv V k R=> ?_) (λv V _ k R=>R (.j v) rfl) R)) (aa rfl) ?_
 ·rw[mem_singleton]at V;subst V
  refine aT (λ_ h=>h) (λ_=> ?_) λq=>by cases q
  refine bK (λ_ h=>h) (λq=> ?_) λq=> ?_
  ·change k (decide (0<d)) _ at R
   rw[q]at R;exact R
  ·change k (decide (0<d)) _ at R
   rw[q]at R;exact R
 rcases x with⟨hd,_⟩|⟨rfl,n⟩
 ·have e:(([ah (a,d)].filter t7).map λv=>v)=[nv a d]:=by
   show((match decide (0<d)with|true=>[nv a d]|false=>[]).map λv=>v)=_;rw[decide_eq_true hd];rfl
  rw[e];refine cP Oe (Ov a d g) (λk R=>O.c 23 rfl _ _ _ (FV hd b1 b2 g0 g1 R)) (aa rfl) λp H=> ?_;refine⟨af rfl,O.c 24 rfl _ _ _ (BB hd b1 b2 H λs S=> ?_)⟩;exact h s S
 ·refine aw (λk R=>O.c 23 rfl _ _ _ (Fh R)) (aa rfl) ?_
  refine⟨af rfl,O.c 24 rfl _ _ _ (tG n ?_)⟩;exact h _ ⟨(qd ⟨.inr ⟨rfl,n⟩,b1,b2⟩).le (by decide),λ_ _=>rfl⟩
theorem qH(H:aK p)(g0:3≤g)(g1:g≤12)(h:∀s,NT p g s→K (.j (.str s)) []):FF 26 [.j (ah p),vi g] K X:=by
 refine fw 26 rfl rfl λG O=> ?_;exact⟨af rfl,O.c 25 rfl _ _ _ (Bt H g0 g1 λs S=>h s S)⟩
noncomputable def lR{Y U:Type}(Qv:Y→U→Prop)(as:List Y):List U→Prop:=List.rec (λbs=>bs=[]) (λa _ r bs=>∃b B,bs=b::B∧Qv a b∧r B) as
theorem lR.len{Qv:α→β→Prop}:∀{bs},lR Qv as bs→bs.length=as.length:=by
 induction as with
 |nil=>exactλh=>congrArg List.length h
 |cons a as I=>exactλ⟨b,B,e,_,h⟩=>e▸congrArg (·+1) (I h)
theorem lR.mem{Qv:α→β→Prop}{P:β→Prop}(f:∀a b,Qv a b→P b):∀{bs},lR Qv as bs→∀b∈bs,P b:=by
 induction as with
 |nil=>exactλh b hb=>by rw[(h:_=[])]at hb;cases hb
 |cons a as I=>
  intro bs ⟨c,B,e,q,h⟩ b hb;rw[e]at hb;rcases mem_cons.mp hb with z|z
  ·rw[z];exact f a c q
  ·exact I h b z
theorem lR.eq{Qv:α→β→Prop}{f:α→β}:∀{bs},(∀a∈as,∀b,Qv a b→b=f a)→lR Qv as bs→bs=as.map f:=by
 induction as with
 |nil=>exactλ_ h=>h
 |cons a as I=>exactλg⟨b,B,e,q,h⟩=>by rw[e,g a (.head _) b q,I (λa H=>g a (.tail _ H)) h];rfl
theorem Dc{k:Rv→R→Prop}(g)(f:U→V)(Qv)(H:bp ρ j){items:List Y}(O:∀a∈items,∀k:Rv→R→Prop,(∀b r,Qv a b→r.v=f b→k r (ρ.set j (.j (g a))))→ev G J (ρ.set j (.j (g a))) k (λ_=>False))
 (C)(ρ1)(h1:AL ρ j ρ1)(h:∀bs,lR Qv items bs→k (.U (C++bs.map f)) (ρ.set j .y)):
 ((items.map g).foldr (λv t C ρ=>bH ρ j (.j v) λρ=>Gb G .no ρ (λc ρ=>match c with
  |true=>ev G J ρ (λr ρ=>t (C++[r.v]) ρ) (λ_=>False)
  |false=>t C ρ) (λ_=>False)) (λC ρ=>bH ρ j .y λρ=>k (.U C) ρ)) C ρ1:=by
 rw[List.foldr_map];exact lV (λl C ρ1=>AL ρ j ρ1∧∀bs,lR Qv l bs→k (.U (C++bs.map f)) (ρ.set j .y)) (λC ρ1 h=>k7 H h.1 (List.append_nil C▸h.2 [] rfl))
  (λv u l C ρ1 h t y=>k7 H h.1 (O v u _ λb r hb e=>y _ _ ⟨.inr ⟨_,rfl⟩,λbs s=>by rw[e,List.append_assoc];exact h.2 (b::bs) ⟨b,bs,rfl,hb,s⟩⟩)) C ρ1 ⟨h1,h⟩
theorem Ie(g:Y→V)(f:U→V)(Qv)(H:∀k,k (items.map g) ρ→qY G I ρ k X)(L:items.length≤aA)(J:bp ρ j)
 (O:∀a∈items,∀k:Rv→R→Prop,(∀b r,Qv a b→r.v=f b→k r (ρ.set j (.j (g a))))→ev G t (ρ.set j (.j (g a))) k (λ_=>False))(h:∀bs,lR Qv items bs→k (.U (bs.map f)) (ρ.set j .y)):ev G (.comp j I .no t) ρ k X:=
 H _ ⟨by rw[List.length_map];exact L,Dc g f Qv J O [] ρ (.inl rfl) (by simpa using h)⟩
noncomputable def jz(bs:List PR):Prop:=∀p∈bs,p.2=0∨(p.2=1∧p.1.natAbs≤24)
noncomputable def EF(i:Nat):Str:=match blt i 49 with
 |true=>aG (i-24)
 |false=>match beq i 49 with
  |true=>My
  |false=>GX
theorem A0:∀i j:Fin 51,ax (EF i.1) (EF j.1)=true→i=j:=by decide+kernel
noncomputable def DU(p:PR):Nat:=if p.2=0 then(if 0<p.1 then 49 else 50)else(p.1+24).toNat
theorem yh(H:aK p)(h:p.2=0∨(p.2=1∧p.1.natAbs≤24)):DU p<51∧a6 p=EF (DU p):=by
 unfold DU a6
 by_cases z:p.2=0
 ·rw[if_pos z,if_pos z]
  by_cases y:0<p.1
  ·rw[if_pos y,if_pos y];exact⟨by decide,rfl⟩
  ·rw[if_neg y,if_neg y];exact⟨by decide,rfl⟩
 ·rw[if_neg z,if_neg z]
  refine⟨zl 0x9258dc008628c4c94391c5f8d19038 rfl ‹_› z,?_⟩;unfold EF;rw[show Nat.blt (p.1+24).toNat 49=true from Nat.ble_eq_true_of_le (by show _+1≤49;exact zl 0x24751466e9bc3f988378f39c5f8d19038 rfl ‹_› z)];rw[show(((p.1+24).toNat:Nat):Int)-24=p.1 from zl 0x113a43517635b9efe9c5dda1c5f8d19038 rfl ‹_› z]
theorem zZ(H:aK p)(Q:aK q)(h1:p.2=0∨(p.2=1∧p.1.natAbs≤24))(h2:q.2=0∨(q.2=1∧q.1.natAbs≤24))(h:a6 p=a6 q):p=q:=by
 obtain⟨W,M⟩:=yh H h1;obtain⟨b1,b2⟩:=yh Q h2;rw[M,b2]at h;have e:=congrArg Fin.val (A0 ⟨_,W⟩ ⟨_,b1⟩ (aD.mpr h));have e:=e;unfold DU at e;obtain⟨P,pb⟩:=p;obtain⟨A,b⟩:=q;have E:=H.ext;have j:=Q.ext;simp only at E j e h1 h2
 by_cases z:pb=0
 ·subst z
  by_cases y:b=0
  ·subst y
   simp only[if_true]at e;have E:P=1∨P= -1:=zl 0x3b3027112957cc383f33d50e2fd29f rfl E;have j:A=1∨A= -1:=zl 0x3b3027112957cc383f33d50e2fd29f rfl j;rcases E with rfl|rfl<;>rcases j with rfl|rfl<;>first|rfl|(simp at e)
  ·rw[if_pos rfl,if_neg y]at e
   split at e<;>(first|exact(zl 0x4635fd4d2d58f603690669c5f8d19038 rfl h2 y e).elim|exact(zl 0x4635fd4d3033aeebff9769c5f8d19038 rfl h2 y e).elim)
 ·by_cases y:b=0
  ·subst y
   rw[if_neg z,if_pos rfl]at e;split at e<;>(first|exact(zl 0x467d5c73705687eeea69a9c5f8d19038 rfl h1 z e).elim|exact(zl 0x4680372c58ed18eeea69a9c5f8d19038 rfl h1 z e).elim)
  ·rw[if_neg z,if_neg y]at e
   rw[show pb=b from zl 0x3f13de1e6c86b5b28cb78ca0b2a268bb3355f8d19038 rfl h1 h2 z y,show P=A from zl 0x7735ccfdcfba914c75a4ef8746fa9e745cf030f06a268bb3355f8d19038 rfl h1 h2 e z y]
theorem zv(H:∀t∈ts,Tx 600 t)(g:ts≠[])(L:ts.length≤100)(h:∀b,(b=true→∃(i:Nat)(t:Str),ts[i]? =some t∧ts[i+1]? =some t)→K (.j (.bool b)) []):FF 71 [.j (.o (ts.map V.str))] K X:=by
 refine de 71 rfl rfl rfl λG O=> ?_;refine cQ (items:=ao 0 ((ts.length:Int)-1).toNat 1) (λk d=> ?_) (λj ρ=>∃S,fu S∧ρ=[.j (.o (ts.map V.str)),S]) ⟨.y,.inl rfl,rfl⟩ ?_ ?_
 ·refine hI (m:=((ts.map V.str).length:Int)-1) ?_ (by rw[length_map];exact zl 4379253220425 rfl (List.length_pos_iff.mpr g)) (by rw[List.length_map];exact zl 0x2db170b3f113b1cf rfl L) (by rw[List.length_map];exact d)
  exactλ_ h=>h
 ·rintro j v ρ e ⟨S,h1,rfl⟩
  refine⟨aq rfl h1,λR r=> ?_⟩;obtain⟨J,rfl⟩:j+1<ts.length∧v=.int (0+1*j):=by
   unfold ao at e;rw[getElem?_map]at e;obtain⟨N,E,rfl⟩:=Option.map_eq_some_iff.mp e;obtain⟨h1,h2⟩:=List.getElem?_eq_some_iff.mp E;simp at h1 h2;subst h2;exact⟨zl 24675297543562 rfl h1,rfl⟩
  have F:ts[j]? =some ts[j]:=by simp[(zl 23760357803 rfl J:j<ts.length)]
  have E:ts[j+1]? =some ts[j+1]:=by simp[J]
  have m0:=H _ (mem_of_getElem? F);have m1:=H _ (mem_of_getElem? E);generalize ts[j]=a at F m0;generalize ts[j+1]=b at E m1;refine ai (b:=ax a b) (ρ':=[.j (.o (ts.map V.str)),vi (0+1*(j:Int))]) (λk d=> ?_) (λq=> ?_) λq=>ae (ae (r _ ⟨_,.inr ⟨_,rfl⟩,rfl⟩))
  ·rw[show(0+1*j)=(j:Int)from zm 776670703789 rfl _]at d⊢
   refine az (aC (by rw[getElem?_map,F];rfl)) (az ?_ (cX (nU m0.strOk m1.strOk) d));rw[show((j)+1)=((j+1):Int)from zm 1157607680429 rfl _];exact aC (by rw[getElem?_map,E];rfl)
  ·exact h true λ_=>⟨j,a,F,by rw[aD]at q;rw[E,q]⟩
 ·rintro ρ ⟨S,h1,rfl⟩
  exact h false λz=>by cases z
theorem ph(H:Sub 72 G)(hb:∀p∈bs,aK p)(L:bs.length≤100)(g0:3≤g)(g1:g≤12)(J:bp ρ j)(I:j≠2)(C:ρ[0]? =some (.j (.o (bs.map ah))))(f:ρ[2]? =some (vi g))
 (h:∀ts:List Str,lR (λp s=>NT p g s) bs ts→k (.U (ts.map V.str)) (ρ.set j .y)):ev G (.comp j (.D (.d 0)) .no (.call 26 (.cons (.d j) (.cons (.d 2) .nil)))) ρ k X:=by
 have d:aA=1000000:=rfl;obtain⟨s,S,_,_⟩:=J;refine Ie ah V.str (λp=>NT p g) (λk K=> ?_) (zl 0x29d4ecdc00e2926bb1cf rfl L d) ⟨s,S,‹_›,‹_›⟩ (λp P k K=> ?_) h
 ·show DA ρ 0 _
  unfold DA;rw[C];exact K
 ·have O:j<ρ.length:=by
   obtain⟨z,_⟩:=List.getElem?_eq_some_iff.mp S;exact z
  show DA (ρ.set j (.j (ah p))) j _;unfold DA;rw[getElem?_set_self O];show DA (ρ.set j (.j (ah p))) 2 _;unfold DA;rw[getElem?_set_ne I,f];exact H.c 26 rfl _ _ _ (qH (hb p P) g0 g1 λs S=>K s _ S rfl)
theorem qF(hb:GJ bs)(h:∀ts:List Str,ts.length=bs.length→(∀t∈ts,Tx 600 t)→(jz bs→ts=bs.map a6)→K (.j (.o (ts.map V.str))) []):FF 72 [.j (.o (bs.map ah)),vi 3] K X:=by
 refine de 72 rfl rfl rfl λG O=> ?_;have L:=hb.Dy;refine aw (λ_ h=>h) (aa rfl) ?_;refine cP (λts:List Str=>V.o (ts.map V.str)) (lR (λp s=>NT p 3 s) bs) (λk d=>fR (ph O hb.num L (by decide) (by decide) (aa rfl) (by decide) rfl rfl λts H=>d ts H)) (aa rfl) λW F=> ?_;refine jJ (λρ=>∃g ts,3≤g∧g≤12∧lR (λp=>NT p g) bs ts∧(jz bs→g=3)∧ρ=[.j (.o (bs.map ah)),vi 3,vi g,.j (.o (ts.map V.str)),.y,.y]) (λρ=>match ρ with|[_,_,.j (.int g),_,_,_]=>(12-g).toNat|_=>0) ⟨3,W,by decide,by decide,F,λ_=>rfl,rfl⟩ ?_;rintro ρ ⟨g,ts,g0,g1,H,B,rfl⟩ I Z;have len:=H.len;have T:=H.mem (λa b q=>q.tx);have E:=λw=>H.eq λp u s q=>q.ex (w p u) (B w);refine aT (λ_ h=>h) (λq=> ?_) λq=>h ts len T E;have q:=of_decide_eq_true q;refine O.c 71 rfl _ _ _ (zv T (λz=>by subst z;simp at len;exact zl 20207877410 rfl hb.vF len) (zl 0x2849ae447e0bb1cf rfl L len) λb J=> ?_);cases b with
 |false=>exact h ts len T E
 |true=>
  obtain⟨i,t,Q,j⟩:=J rfl;refine bN (λ_ h=>h) ?_;refine cP (λts:List Str=>V.o (ts.map V.str)) (λts=>lR (λp s=>NT p (g+1) s) bs ts) (λk d=>fR (ph O hb.num L (zl 226114115827 rfl g0) (zl 805957090337097 rfl q) (aa rfl) (by decide) rfl rfl λts H=>d ts H)) (iG rfl) λD h1=> ?_;refine ae (Z _ ⟨g+1,D,zl 226114115827 rfl g0,zl 805957090337097 rfl q,h1,λw=> ?_,rfl⟩ (by show(12-(g+1)).toNat<(12-g).toNat;exact zl 0xa87b8ce484a0633606149 rfl q));exfalso;rw[(E w),getElem?_map]at Q j;obtain⟨p,p1,p2⟩:=Option.map_eq_some_iff.mp Q;obtain⟨P,N,R⟩:=Option.map_eq_some_iff.mp j;have m1:=mem_of_getElem? p1;have m2:=mem_of_getElem? N;have e:=zZ (hb.num p m1) (hb.num P m2) (w p m1) (w P m2) (p2.trans R.symm);subst e;have:=gA hb.num hb.strict (lt_succ_self i) p1 N;have:=cJ p;exact zl 31155055817 rfl ‹_› this
theorem xY{a b:Str}(h:a.cps.toList=b.cps.toList):a=b:=by
 cases a;cases b;simp only[Str.mk.injEq];exact Array.toList_inj.mp h
noncomputable def BM(right:Bool):Str:=match right with
 |true=>⟨#[40]⟩
 |false=>⟨#[91]⟩
noncomputable def qv(right:Bool):Str:=match right with
 |true=>⟨#[93]⟩
 |false=>⟨#[41]⟩
noncomputable def eO(right:Bool)(a b:Str):Str:=(((BM right++a)++⟨#[44]⟩)++b)++qv right
theorem Bb(r):Tx 1 (BM r):=by cases r<;>exact bu _ (by decide)
theorem Ci(r):Tx 1 (qv r):=by cases r<;>exact bu _ (by decide)
noncomputable def cu(right:Bool)(ts:List Str):List Str:=(range (ts.length-1)).map λi=>eO right (ts.getD i ⟨#[]⟩) (ts.getD (i+1) ⟨#[]⟩)
theorem iU(g:ts[i]? =some a)(j:ts[i+1]? =some b):(cu right ts)[i]? =some (eO right a b):=by
 unfold cu;rw[getElem?_map,getElem?_range (by exact zl 25950139074987 rfl ((List.getElem?_eq_some_iff.mp j).1))];simp[g,j]
theorem sq(g:ts[i]? =some a)(j:ts[i+1]? =some b):(bG right closed ts)[i]? =some (ny right closed ts.length i a b):=by
 unfold bG;rw[getElem?_map,getElem?_range (by exact zl 25950139074987 rfl ((List.getElem?_eq_some_iff.mp j).1))];simp[g,j]
theorem dB:(cu right ts).length=ts.length-1:=by unfold cu;simp
theorem kX:(bG right closed ts).length=ts.length-1:=by unfold bG;simp
theorem lY{ts:List Str}(h:i+1<ts.length):∃a b,ts[i]? =some a∧ts[i+1]? =some b:=⟨ts[i],ts[i+1],by simp[(zl 23760357803 rfl h:i<ts.length)],by simp[h]⟩
theorem oD(h:closed=true→right=true→i≠0)(h2:closed=true→right=false→i+2≠m):ny right closed m i a b=eO right a b:=by
 unfold ny eO;cases right<;>cases closed<;>simp_all [BM,qv]
theorem E7:bG right false ts=cu right ts:=by
 unfold bG cu;refine map_congr_left λi _=> ?_;exact oD (λq=>by cases q) λq=>by cases q
theorem BV(n):ay (n+1) (-1)=n:=by
 have e:bX (n+1) (-1)=n:=by
  exact zm 24900892457069 rfl _
 unfold ay;rw[e];exact zm 6215221858935666 rfl _
theorem AJ:(⟨#[91]⟩)++(⟨(((eO true a b).cps.toList.take (eO true a b).cps.toList.length).drop (ay (eO true a b).cps.toList.length 1)).toArray⟩)=ny true true m 0 a b:=by
 have l:(eO true a b).cps.toList=40::(a.cps.toList++[44]++b.cps.toList++[93]):=by
  unfold eO;rw[cV,cV,cV,cV];rfl
 have cl:ay (eO true a b).cps.toList.length ((1:Nat):Int)=1:=l7 (by rw[l];simp);have cl:ay (eO true a b).cps.toList.length 1=1:=cl;rw[cl,take_length,l];apply xY;unfold ny;rw[cV,cV,cV,cV,cV];simp
theorem Dd(i)(H:i+2=m):(⟨(((eO false a b).cps.toList.take (ay (eO false a b).cps.toList.length (-1))).drop 0).toArray⟩)++(⟨#[93]⟩)=ny false true m i a b:=by
 have l:(eO false a b).cps.toList=([91]++a.cps.toList++[44]++b.cps.toList)++[41]:=by
  unfold eO;rw[cV,cV,cV,cV];rfl
 have L:(eO false a b).cps.toList.length=([91]++a.cps.toList++[44]++b.cps.toList).length+1:=by rw[l,List.length_append];rfl
 have cl:ay (eO false a b).cps.toList.length (-1)=([91]++a.cps.toList++[44]++b.cps.toList).length:=L▸BV _;rw[cl,l,take_left,drop_zero];apply xY;unfold ny;rw[cV,cV,cV,cV,cV];simp[H]
theorem Eh(g:ts[0]? =some a)(j:ts[0+1]? =some b):(cu true ts).set 0 (ny true true ts.length 0 a b)=bG true true ts:=by
 refine ext_getElem? λi=> ?_;rcases Nat.lt_or_ge (i+1) ts.length with h|h
 ·obtain⟨A,B,f1,F⟩:=lY h
  rw[sq f1 F,getElem?_set,iU f1 F,dB]
  by_cases z:0=i
  ·subst z
   rw[g]at f1;rw[j]at F;cases f1;cases F;rw[if_pos rfl,if_pos (by exact zl 0x7f6a8c25078b rfl h)]
  ·rw[if_neg z,oD (λ_ _=>λq=>z q.symm) λ_ q=>by cases q]
 ·rw[getElem?_eq_none (by rw[length_set,dB];exact zl 24675464068591 rfl h),getElem?_eq_none (kX▸zl 24675464068591 rfl h)]
theorem FL(H:ts.length=n+2)(g:ts[n]? =some a)(j:ts[n+1]? =some b):(cu false ts).set n (ny false true ts.length n a b)=bG false true ts:=by
 refine ext_getElem? λi=> ?_;rcases Nat.lt_or_ge (i+1) ts.length with h|h
 ·obtain⟨A,B,f1,F⟩:=lY h
  rw[sq f1 F,getElem?_set,iU f1 F,dB]
  by_cases z:n=i
  ·subst z
   rw[g]at f1;rw[j]at F;cases f1;cases F;rw[if_pos rfl,if_pos (by exact zl 25905654844933 rfl H)]
  ·rw[if_neg z,oD (λ_ q=>by cases q) λ_ _=>by exact zl 0x1e8f4958025badbce05 rfl H z]
 ·rw[getElem?_eq_none (by rw[length_set,dB];exact zl 24675464068591 rfl h),getElem?_eq_none (kX▸zl 24675464068591 rfl h)]
theorem mq{l:List Str}:(l.map V.str).set n (.str s)=(l.set n s).map V.str:=by rw[map_set]
theorem xh(h:l.length=n+1):eZ l (-1) v=some (l.set n v):=by
 have e:bX l.length (-1)=n:=by
  exact zl 0xb1ea619ebc63e05 rfl h
 unfold eZ;rw[e,decide_eq_true (show(0:Int)≤n from zm 92741 rfl _),decide_eq_true (show(n:Int)<l.length from zl 23028924628485 rfl h)];rfl
theorem yY(h1:Tx n a)(h2:Tx n b):Tx (2*n+3) (eO right a b):=
 (((((Bb right).add h1).add (bu 44 (by decide))).add h2).add (Ci right)).le (zm 0x123e95e1bbbbb5ad6e rfl _)
theorem si(hb:GJ bs)(h:∀ls:List Str,ls.length+1=bs.length→(∀t∈ls,Tx 1300 t)→(jz bs→ls=bG right closed (bs.map a6))→K (.j (.o (ls.map V.str))) []):FF 73 [.j (.o (bs.map ah)),.j (.bool right),.j (.bool closed),vi 3] K X:=by
 refine de 73 rfl rfl rfl λG O=> ?_;have d:aA=1000000:=rfl;have L:=hb.vF;have F:=hb.Dy;refine cP (λts:List Str=>V.o (ts.map V.str)) (λts=>ts.length=bs.length∧(∀t∈ts,Tx 600 t)∧(jz bs→ts=bs.map a6)) (λk H=>O.c 72 rfl _ _ _ (qF hb λts h1 h2 h3=>H ts ⟨h1,h2,h3⟩)) (aa rfl) λts⟨len,T,B⟩=> ?_;refine aw (v:=.j (.str (BM right))) (ρ1:=[.j (.o (bs.map ah)),.j (.bool right),.j (.bool closed),vi 3,.j (.o (ts.map V.str)),.y,.y,.y,.y]) (λk H=>bx (c:=right) (λ_ h=>h) (λq=>by subst q;exact H) λq=>by subst q;exact H) (aa rfl) ?_;refine aw (v:=.j (.str (qv right))) (ρ1:=[.j (.o (bs.map ah)),.j (.bool right),.j (.bool closed),vi 3,.j (.o (ts.map V.str)),.j (.str (BM right)),.y,.y,.y]) (λk H=>bx (c:=right) (λ_ h=>h) (λq=>by subst q;exact H) λq=>by subst q;exact H) (aa rfl) ?_;refine aw (v:=.U []) (λ_ h=>⟨af rfl,h⟩) (aa rfl) ?_;refine cQ (items:=ao 0 ((ts.length:Int)-1).toNat 1) (λk H=> ?_) (λj ρ=>∃S,fu S∧ρ=[.j (.o (bs.map ah)),.j (.bool right),.j (.bool closed),vi 3,.j (.o (ts.map V.str)),.j (.str (BM right)),.j (.str (qv right)),.U (((cu right ts).take j).map V.str),S]) ⟨.y,.inl rfl,rfl⟩ ?_ ?_
 ·refine hI (m:=((ts.map V.str).length:Int)-1) ?_ (by rw[List.length_map];rename_i Z;exact zl 0x1650309af3c8022 rfl L Z.1) (by rw[List.length_map];rename_i Z;exact zl 0x1424d9a4ec112e0bb1cf rfl F Z.1) (by rw[List.length_map];exact H)
  exactλ_ h=>h
 ·rintro j v ρ e ⟨S,h8,rfl⟩
  refine⟨aq rfl h8,λs y=> ?_⟩;obtain⟨g,rfl⟩:j+1<ts.length∧v=.int (0+1*(j:Int)):=by
   unfold ao at e;rw[List.getElem?_map]at e;obtain⟨x,E,rfl⟩:=Option.map_eq_some_iff.mp e;obtain⟨h1,h2⟩:=List.getElem?_eq_some_iff.mp E;simp at h1 h2;subst h2;exact⟨zl 24675297543562 rfl h1,rfl⟩
  obtain⟨a,b,E,f⟩:=lY g;have I:=T a (List.mem_of_getElem? E);have W:=T b (List.mem_of_getElem? f);have M:=iU (right:=right) E f;have R:List.map V.str ((cu right ts).take (j+1))=List.map V.str ((cu right ts).take j)++[.str (eO right a b)]:=by
   rw[List.take_add_one,M,List.map_append];rfl
  have lt:(List.map V.str ((cu right ts).take j)).length<aA:=by
   rw[List.length_map,List.length_take];rename_i Z;exact zl 0x213c3b2c78f85d7550490f7d4465f55 rfl d F Z.1 g
  generalize List.map V.str ((cu right ts).take j)=tk at R lt;have u:(0+1*(j:Int))=((j:Nat):Int):=zm 776670703789 rfl _;rw[u];have Q:cy (ts.map V.str) ((j:Nat):Int)=some (.str a):=aC (by rw[List.getElem?_map,E];rfl);have P:cy (ts.map V.str) (((j:Nat):Int)+1)=some (.str b):=by
   rw[show(((j:Nat):Int)+1)=((j+1:Nat):Int)from zm 1157607680429 rfl _];exact aC (by rw[List.getElem?_map,f];rfl)
  have o:=Bb right;have C:=Ci right;have D:=bu 44 (by decide);refine eY (l:=tk) rfl (λk H=>az Q ⟨rZ o I rfl,rZ (o.add I) D rfl,az P ⟨rZ ((o.add I).add D) W rfl,rZ (((o.add I).add D).add W) C rfl,H⟩⟩) rfl lt (ae (y _ ⟨vi (j:Nat),.inr ⟨_,rfl⟩,?_⟩));rw[R];rfl
 ·rintro ρ ⟨S,h8,rfl⟩
  have A:(ao 0 ((ts.length:Int)-1).toNat 1).length=(cu right ts).length:=by
   unfold ao;rw[List.length_map,List.length_range,dB];exact zm 1157819611250 rfl _
  rw[A,List.take_length];have a9:∀ls,ls=bG right closed ts→ex G (.cons (.ret (.d 7)) .nil) [.j (.o (bs.map ah)),.j (.bool right),.j (.bool closed),vi 3,.j (.o (ts.map V.str)),.j (.str (BM right)),.j (.str (qv right)),.U (ls.map V.str),S] (λρ=>K (.j .none) (bf [.j (.o (bs.map ah)),.j (.bool right),.j (.bool closed),vi 3] ρ)) (λ_=>False) (λr ρ=>K r (bf [.j (.o (bs.map ah)),.j (.bool right),.j (.bool closed),vi 3] ρ)) X:=by
   rintro ls rfl;refine h _ (by rw[kX];rename_i Z;exact zl 0x9ff86276ddb4022 rfl L Z.1) (λt p=> ?_) λw=>by rw[B w]
   obtain⟨i,J⟩:=List.getElem?_of_mem p;have:i<ts.length-1:=by
    have:=(List.getElem?_eq_some_iff.mp J).1;rw[kX]at this;exact this
   obtain⟨a,b,E,f⟩:=lY (ts:=ts) (i:=i) (zl 24675297543562 rfl this);rw[sq E f]at J;cases J;exact(IF (T a (List.mem_of_getElem? E)) (T b (List.mem_of_getElem? f))).le (by decide)
  have qq:∀k,k (closed&&right) [.j (.o (bs.map ah)),.j (.bool right),.j (.bool closed),vi 3,.j (.o (ts.map V.str)),.j (.str (BM right)),.j (.str (qv right)),.U ((cu right ts).map V.str),S]→tr G (.Q (.cons (.D (.d 2)) (.cons (.D (.d 1)) .nil))) [.j (.o (bs.map ah)),.j (.bool right),.j (.bool closed),vi 3,.j (.o (ts.map V.str)),.j (.str (BM right)),.j (.str (qv right)),.U ((cu right ts).map V.str),S] k X:=by
   intro k H;cases closed<;>cases right<;>exact H
  refine ai (b:=closed&&right) qq (λq=> ?_) λq=> ?_
  ·rw[Bool.and_eq_true]at q
   obtain⟨rfl,rfl⟩:=q;obtain⟨a,b,E,f⟩:=lY (ts:=ts) (i:=0) (by rename_i Z;exact zl 0xa9ca146af0022 rfl L Z.1);have I:=T a (List.mem_of_getElem? E);have W:=T b (List.mem_of_getElem? f);have M:=iU (right:=true) E f;have tl:=yY (right:=true) I W;have Y:(eO true a b).cps.toList.length≤aA:=Nat.le_trans tl.len (zl 0x5a33c15c7abc59419da55 rfl d);refine iy (l':=((cu true ts).map V.str).set 0 (.str (ny true true ts.length 0 a b))) (j:=((0:Nat):Int)) (v:=.j (.str (ny true true ts.length 0 a b))) (ρ1:=[.j (.o (bs.map ah)),.j (.bool true),.j (.bool true),vi 3,.j (.o (ts.map V.str)),.j (.str (BM true)),.j (.str (qv true)),.U ((cu true ts).map V.str),S]) (λk H=> ?_) rfl rfl (eB (by rw[List.length_map,dB];rename_i Z;exact zl 0xb27d0f96d8022 rfl L Z.1)) (ae ?_)
   ·rw[←AJ]at H
    refine az (j:=((0:Nat):Int)) (v:=.str (eO true a b)) (aC (by rw[List.getElem?_map,M];rfl)) ⟨Y,rZ (bu 91 (by decide)) (uw tl _ _) rfl,H⟩
   ·have:=a9 _ (Eh E f)
    rw[mq];exact this
  ·refine ai (b:=closed) (λ_ h=>h) (λz=> ?_) λz=> ?_
   ·subst z
    cases right with
    |true=>cases q
    |false=>
     obtain⟨n,N⟩:∃n,ts.length=n+2:=⟨ts.length-2,by rename_i Z;exact zl 0xb55c97831100022 rfl L Z.1⟩;obtain⟨a,b,E,f⟩:=lY (ts:=ts) (i:=n) (zl 23251730288133 rfl N);have I:=T a (List.mem_of_getElem? E);have W:=T b (List.mem_of_getElem? f);have M:=iU (right:=false) E f;have tl:=yY (right:=false) I W;have Y:(eO false a b).cps.toList.length≤aA:=Nat.le_trans tl.len (zl 0x5a33c15c7abc59419da55 rfl d);have U:((cu false ts).map V.str).length=n+1:=by rw[List.length_map,dB];exact zl 0x5e66f6d53ece05 rfl N
     have la:((cu false ts).map V.str).getLast? =some (.str (eO false a b)):=by
      rw[List.getLast?_eq_getElem?,U,List.getElem?_map,Nat.add_sub_cancel,M];rfl
     refine iy (l':=((cu false ts).map V.str).set n (.str (ny false true ts.length n a b))) (j:= -1) (v:=.j (.str (ny false true ts.length n a b))) (ρ1:=[.j (.o (bs.map ah)),.j (.bool false),.j (.bool true),vi 3,.j (.o (ts.map V.str)),.j (.str (BM false)),.j (.str (qv false)),.U ((cu false ts).map V.str),S]) (λk H=> ?_) rfl rfl (xh U) (ae (ae ?_))
     ·rw[←Dd n N.symm]at H
      refine az (j:= -1) (gM la) ⟨Y,rZ (uw tl _ _) (bu 93 (by decide)) rfl,H⟩
     ·have:=a9 _ (FL N E f)
      rw[mq];exact this
   ·subst z
    exact ae (ae (a9 _ E7.symm))
theorem qJ(H:∀p∈l,aK p)(h:∀(i:Nat)(a b:PR),l[i]? =some a→l[i+1]? =some b→aM a b≤0):dJ l:=by
 refine pairwise_iff_getElem.mpr λi j I J W=> ?_;obtain⟨d,rfl⟩:∃d,j=i+1+d:=⟨j-(i+1),zl 0x178f4c90e21a5e82 rfl W⟩;clear W;induction d with
 |zero=>exact h i _ _ (getElem?_eq_getElem I) (getElem?_eq_getElem J)
 |succ d Q=>
  have m:=lt_of_succ_lt J;exact cU (H _ (getElem_mem I)) (H _ (getElem_mem m)) (H _ (getElem_mem _)) (Q m) (h (i+1+d) _ _ (List.getElem?_eq_getElem m) (List.getElem?_eq_getElem (show i+1+d+1<l.length from zl 0x468a88285e6ee9fe52fcb rfl J)))
theorem qP(H:∀p∈l,aK p):aI l=l↔dJ l:=
 ⟨λh=>by have:=dm H;rw[h]at this;exact this,λh=>(qQ H (Perm.refl _) h).symm⟩
noncomputable def mV:Str:=⟨#[39,118,101,99,39,32,109,117,115,116,32,98,101,32,115,111,114,116,101,100,32,110,111,110,45,100,101,99,114,101,97,115,105,110,103,108,121,32,97,110,100,32,110,111,116,32,99,111,110,116,97,105,110,32,78,65,115]⟩
noncomputable def zI(bs:List PR):It→V
|.nu x=>.int (bs.filter λb=>decide (aM b x≤0)).length
|_=>.none
noncomputable def N6(x:PR):V→Bool
|.L [.int a,.int b]=>decide (aM (a,b) x≤0)
|_=>false
theorem yl{bs:List PR}:(((bs.map ah).filter (N6 x)).map λv=>v).length=(bs.filter λb=>decide (aM b x≤0)).length:=by
 rw[length_map,filter_map,length_map];rfl
theorem lF{xs:List It}(Q:∀I∈xs,ik true I)(L:xs.length≤1000)(hb:∀p∈bs,aK p)(H:bs.length≤100)(g:bs≠[])(h1:aI bs=bs→K (.j (.o (xs.map (zI bs)))) [])(h2:aI bs≠bs→X mV):FF 74 [.j (.o (xs.map wv)),.j (.o (bs.map ah))] K X:=by
 refine de 74 rfl rfl rfl λG O=> ?_;have P:aA=1000000:=rfl;have Y:0<bs.length:=List.length_pos_iff.mpr g;refine cQ (λ_ h=>h) (λj ρ=>∃S,fu S∧ρ=[.j (.o (xs.map wv)),.j (.o (bs.map ah)),S,.y,.y,.y,.y]) ⟨.y,.inl rfl,rfl⟩ ?_ ?_
 ·rintro j v ρ e ⟨S,h2,rfl⟩
  refine⟨aq rfl h2,λR r=> ?_⟩;rw[getElem?_map]at e;obtain⟨p,E,rfl⟩:=Option.map_eq_some_iff.mp e;have y:=hb p (List.mem_of_getElem? E);refine ai (λk d=>O.c 65 rfl _ _ _ (sE (by rw[y.na];exact d))) (λq=>by cases q) λ_=>ae (ae (r _ ⟨_,.inr ⟨_,rfl⟩,rfl⟩))
 rintro ρ ⟨S,F,rfl⟩;refine cQ (items:=ao 0 ((bs.length:Int)-1).toNat 1) (λk d=> ?_) (λj ρ=>(∃Z,fu Z∧ρ=[.j (.o (xs.map wv)),.j (.o (bs.map ah)),S,Z,.y,.y,.y])∧∀i a b,i<j→bs[i]? =some a→bs[i+1]? =some b→aM a b≤0) ⟨⟨.y,.inl rfl,rfl⟩,λi a b M=>absurd M (not_lt_zero _)⟩ ?_ ?_
 ·refine hI (m:=((bs.map ah).length:Int)-1) ?_ (by rw[length_map];exact zl 4379253220425 rfl Y) (by rw[List.length_map];exact zl 0x2db170b3f113b1cf rfl H) (by rw[List.length_map];exact d)
  exactλ_ h=>h
 ·rintro j v ρ e ⟨⟨Z,h3,rfl⟩,A⟩
  refine⟨aq rfl h3,λR r=> ?_⟩;obtain⟨N,rfl⟩:j+1<bs.length∧v=.int (0+1*(j:Int)):=by
   unfold ao at e;rw[getElem?_map]at e;obtain⟨j',E,rfl⟩:=Option.map_eq_some_iff.mp e;obtain⟨h1,h2⟩:=List.getElem?_eq_some_iff.mp E;simp at h1 h2;subst h2;exact⟨zl 24675297543562 rfl h1,rfl⟩
  have J:bs[j]? =some bs[j]:=by simp[show j<bs.length from zl 23760357803 rfl N]
  have E:bs[j+1]? =some bs[j+1]:=by simp[N]
  have m0:=hb _ (mem_of_getElem? J);have m1:=hb _ (mem_of_getElem? E);generalize bs[j]=a at J m0;generalize bs[j+1]=b at E m1;have f:(0+1*(j:Int))=((j:Nat):Int):=zm 776670703789 rfl _;rw[f];have t:cy (bs.map ah) ((j:Nat):Int)=some (ah a):=aC (by rw[List.getElem?_map,J];rfl);have D:cy (bs.map ah) (((j:Nat):Int)+1)=some (ah b):=by
   rw[show(((j:Nat):Int)+1)=((j+1:Nat):Int)from zm 1157607680429 rfl _];exact aC (by rw[List.getElem?_map,E];rfl)
  refine ai (λk d=>az t (az D (O.c 14 rfl _ _ _ (cT m0 m1 d)))) (λq=> ?_) λq=> ?_
  ·have q:=of_decide_eq_true q
   refine h2 λz=> ?_;have s:=(qP hb).mp z;obtain⟨C,W⟩:=List.getElem?_eq_some_iff.mp J;obtain⟨U,T⟩:=List.getElem?_eq_some_iff.mp E;have:=pairwise_iff_getElem.mp s j (j+1) C U (zm 1103964 rfl _);rw[W,T]at this;rename_i u;exact zl 31154361640 rfl (dT u:) this
  ·have q:=of_decide_eq_false q
   refine ae (ae (r _ ⟨⟨_,.inr ⟨_,rfl⟩,rfl⟩,λi c n M f1 F=> ?_⟩))
   by_cases z:i=j
   ·subst z
    rw[J]at f1;rw[E]at F;cases f1;cases F;rename_i u;exact zl 26060190910 rfl (dF u:)
   ·exact A i c n (zl 0x4f1d2d4a6e3dfa rfl M z) f1 F
 rintro ρ ⟨⟨Z,f3,rfl⟩,A⟩;have l:(ao 0 ((bs.length:Int)-1).toNat 1).length=bs.length-1:=by
  unfold ao;rw[length_map,length_range];exact zm 1157819611250 rfl _
 rw[l]at A;have o:aI bs=bs:=(qP hb).mpr (qJ hb λi a b f1 F=>A i a b (by have:=(List.getElem?_eq_some_iff.mp F).1;exact zl 25950139074987 rfl this) f1 F);have h1:=h1 o;refine aw (λ_ h=>⟨af rfl,h⟩) (aa rfl) ?_;refine cQ (λ_ h=>h) (λj ρ=>∃B,fu B∧ρ=[.j (.o (xs.map wv)),.j (.o (bs.map ah)),S,Z,.U ((xs.take j).map (zI bs)),B,.y]) ⟨.y,.inl rfl,rfl⟩ ?_ ?_
 ·rintro j v ρ e ⟨B,h5,rfl⟩
  refine⟨aq rfl h5,λR r=> ?_⟩;rw[getElem?_map]at e;obtain⟨I,E,rfl⟩:=Option.map_eq_some_iff.mp e;have M:=Q I (mem_of_getElem? E);have w:(xs.take (j+1)).map (zI bs)=(xs.take j).map (zI bs)++[zI bs I]:=by
   rw[take_add_one,E,map_append];rfl
  have lt:((xs.take j).map (zI bs)).length<aA:=by
   rw[length_map,length_take];exact zl 0x825450b2dc00e2941515cf rfl L P
  rw[w]at r;generalize(xs.take j).map (zI bs)=tk at*;refine ai (λk d=>ji O rfl M d) (λq=> ?_) λq=> ?_
  ·have en:zI bs I=.none:=by cases I with|nu p=>cases q|na=>rfl|lI=>rfl
   rw[en]at r;exact eY rfl (λ_ h=>h) rfl lt (ae (ae (r _ ⟨.j (wv I),.inr ⟨_,rfl⟩,rfl⟩)))
  ·cases I with
   |na=>cases q
   |lI=>cases q
   |nu x=>
    have RC:aK x:=M.1.num;refine eY (ρ1:=[.j (.o (xs.map wv)),.j (.o (bs.map ah)),S,Z,.U tk,.j (ah x),.y]) (v:=.j (zI bs (.nu x))) rfl (λk d=> ?_) rfl lt (ae (ae (r _ ⟨.j (ah x),.inr ⟨_,rfl⟩,rfl⟩)));refine xa (jW (λ_ h=>h) (by rw[List.length_map];exact zl 0x29d4ecdc00e2926bb1cf rfl H P) (aa rfl) (N6 x) (λv=>v) ?_ (λv _ _ k d=>d _ rfl) ?_)
    ·intro v hv k d
     obtain⟨b,RD,rfl⟩:=mem_map.mp hv;exact O.c 14 rfl _ _ _ (cT (hb b RD) RC d)
    ·show k (.j (.int (((_:List V).length:Nat):Int))) _
     rw[yl];exact d
 ·rintro ρ ⟨B,f5,rfl⟩
  rw[length_map,take_length];exact h1
noncomputable def nQ:Str:=⟨#[102,97,99,116,111,114]⟩
noncomputable def MB:Str:=⟨#[111,114,100,101,114,101,100]⟩
noncomputable def wM(o:Bool):List Str:=match o with
 |true=>[MB,nQ]
 |false=>[nQ]
noncomputable abbrev LL(o:Bool):V:=gC bJ (.o ((wM o).map V.str)) .none
noncomputable abbrev Mp(ts:List Str):V:=gC bJ (.o (ts.map V.str)) .none
noncomputable abbrev KA(ts:List Str)(o:Bool):List (Str×V):=[(xJ,Mp ts),(Ir,LL o)]
noncomputable abbrev iF(l:List V)(ts:List Str)(o:Bool):V:=gC aS (.o l) (.lJ (KA ts o))
theorem pW(h:K (.j (LL o)) []):FF 76 [.j (.bool o)] K X:=by
 refine de 76 rfl rfl rfl λG H=> ?_;refine ai (λ_ h=>h) (λq=> ?_) λq=>ae ?_
 ·subst q
  exact⟨af rfl,H.c 31 rfl _ _ _ (iL h)⟩
 ·subst q
  exact⟨af rfl,H.c 31 rfl _ _ _ (iL h)⟩
noncomputable def HL(l:List V)(d:List (Str×V)):List (Nat×FK):=[(0,.j (.str aS)),(1,.j (.o l)),(2,.od d),(3,.j (.bool false)),(4,.j (.bool false))]
theorem jA(h:K (.j (iF l ts o)) []):FF 77 [.oi 0 (IM aS (.o l) .none),.j (.o (ts.map V.str)),.j (.bool o)] K X:=by
 refine de 77 rfl rfl rfl λG H=> ?_;refine ai (λ_ h=>h) (λ_=> ?_) λq=>by cases q
 refine bN (ρ':=[.oi 0 (HL l []),.j (.o (ts.map V.str)),.j (.bool o)]) (λ_ h=>h) (ae ?_);refine bN (ρ':=[.oi 0 (HL l [(xJ,Mp ts)]),.j (.o (ts.map V.str)),.j (.bool o)]) (λN h=>H.c 31 rfl _ _ _ (iL h)) ?_;refine bN (ρ':=[.oi 0 (HL l (KA ts o)),.j (.o (ts.map V.str)),.j (.bool o)]) (λN h=>H.c 76 rfl _ _ _ (pW h)) ?_;exact h
theorem sF(H:ts.length≤1000)(h:K (.j (.o (ts.map V.str))) []):FF 78 [.j (Mp ts)] K X:=by
 refine de 78 rfl rfl rfl λG g=> ?_;refine ai (b:=false) (λk d=>ko rfl rfl (λ_ h=>h) (λ_ h=>h) d) (λq=>by cases q) λ_=>ae ?_;refine ai (b:=false) (λk d=>g.c 34 rfl _ _ _ (dU rfl rfl d)) (λq=>by cases q) λ_=>ae ?_;exact g.c 37 rfl _ _ _ (jN H h)
theorem jR(H:ts.length≤1000)(h:K (.j (.o (ts.map V.str))) []):FF 75 [.j (iF l ts o)] K X:=by
 refine de 75 rfl rfl rfl λG g=> ?_;have L:aA=1000000:=rfl;refine aw (v:=.j (Mp ts)) (ρ1:=[.j (iF l ts o),.y,.y]) (λk d=>g.c 35 rfl _ _ _ (rH d)) (aa rfl) ?_;refine ai (λk d=>g.c 34 rfl _ _ _ (dU rfl rfl d)) (λq=>by cases q) λ_=>ae ?_;refine iB (fR (fA (λk d=>g.c 37 rfl _ _ _ (jN H d)) (by rw[length_map];exact zl 0x29d4ecdc00e2941515cf rfl H L) (aa rfl) (λv=>v) ?_ ?_))
 ·intro v R k d
  obtain⟨t,T,rfl⟩:=mem_map.mp R;exact d _ rfl
 ·rw[map_id']
  exact h
noncomputable abbrev cp(xs:List It):V:=gC aW (.o (xs.map wv)) .none
noncomputable abbrev aV(xs cut:List It)(right closed:Bool):List (Option Str×V):=[(none,cp xs),(none,cp cut),(some dA,bc right),(some cq,bc closed)]
theorem tL(H:Sub 79 G)(x:∀I∈xs,ik true I)(L:xs.length≤1000)(c:iv cut)
 (C:∀K:Rv→List Mine.Internal.S→Prop,K (.j (.o [cp xs,cp cut,e,bc closed,bc right,.none,f,.o []])) []→G 54 [.j as,.j (.o (lD.map V.str)),.j .none] K X)
 (h1:∀m,brk xs cut=.inl m→X m)(h2:∀bs,brk xs cut=.inr bs→ex G r [.j .none,.j as,.j .none,.j (.o (lD.map V.str)),.j (cp xs),.j (cp cut),.j e,.j (bc closed),.j (bc right),.j .none,.j f,.j (.o []),.j (.o (xs.map wv)),.j (.bool closed),.j (.bool right),.j (.o (bs.map ah)),.j (.o (xs.map (iO bs right closed))),.y,.y] t U Y X):
 ex G (.cons (.C 3 (.Y (.Z (.cons (.M ⟨#[120]⟩) (.cons (.M ⟨#[98,114,101,97,107,115]⟩) (.cons (.M ⟨#[108,97,98,101,108,115]⟩) (.cons (.M ⟨#[105,110,99,108,117,100,101,46,108,111,119,101,115,116]⟩) (.cons (.M ⟨#[114,105,103,104,116]⟩) (.cons (.M ⟨#[100,105,103,46,108,97,98]⟩) (.cons (.M ⟨#[111,114,100,101,114,101,100,95,114,101,115,117,108,116]⟩) (.cons (.M ⟨#[46,46,46]⟩) .nil))))))))))) (.cons (.jo [4,5,6,7,8,9,10,11] (.call 54 (.cons (.d 1) (.cons (.d 3) (.cons .dN .nil))))) (.cons (.iff (.D (.ag .eH (.J (.call 53 (.cons (.d 4) (.cons (.M ⟨#[120]⟩) .nil))) 0) (.L (.cons (.M ⟨#[105,110,116,101,103,101,114]⟩) (.cons (.M ⟨#[100,111,117,98,108,101]⟩) (.cons (.M ⟨#[108,111,103,105,99,97,108]⟩) .nil)))))) .K .nil) (.cons (.ex (.call 53 (.cons (.d 5) (.cons (.M ⟨#[98,114,101,97,107,115]⟩) .nil)))) (.cons (.C 12 (.J (.call 42 (.cons (.d 4) (.cons (.M ⟨#[100,111,117,98,108,101]⟩) (.cons (.Z .nil) .nil)))) 1)) (.cons (.C 13 (.call 44 (.cons (.d 7) (.cons (.cB false) .nil)))) (.cons (.C 14 (.call 44 (.cons (.d 8) (.cons (.cB true) .nil)))) (.cons (.C 15 (.call 68 (.cons (.d 12) (.cons (.J (.call 42 (.cons (.d 5) (.cons (.M ⟨#[100,111,117,98,108,101]⟩) (.cons (.Z .nil) .nil)))) 1) .nil)))) (.cons (.C 16 (.call 70 (.cons (.d 12) (.cons (.d 15) (.cons (.d 14) (.cons (.d 13) .nil)))))) r))))))))) [.j .none,.j as,.j .none,.y,.y,.y,.y,.y,.y,.y,.y,.y,.y,.y,.y,.y,.y,.y,.y] t U Y X:=by
 refine bN (ρ':=[.j .none,.j as,.j .none,.j (.o (lD.map V.str)),.y,.y,.y,.y,.y,.y,.y,.y,.y,.y,.y,.y,.y,.y,.y]) (λ_ h=>⟨af rfl,h⟩) ?_;refine bN (ρ':=[.j .none,.j as,.j .none,.j (.o (lD.map V.str)),.j (cp xs),.j (cp cut),.j e,.j (bc closed),.j (bc right),.j .none,.j f,.j (.o []),.y,.y,.y,.y,.y,.y,.y]) (λt h=>C _ h) ?_;refine ai (b:=false) (ρ':=[.j .none,.j as,.j .none,.j (.o (lD.map V.str)),.j (cp xs),.j (cp cut),.j e,.j (bc closed),.j (bc right),.j .none,.j f,.j (.o []),.y,.y,.y,.y,.y,.y,.y]) (λk d=>H.c 53 rfl _ _ _ (tY ⟨af rfl,Ck (s:=aW) (ss:=[aS,aW,eE]) rfl rfl d⟩)) (λq=>by cases q) λ_=>ae ?_;refine bN (ρ':=[.j .none,.j as,.j .none,.j (.o (lD.map V.str)),.j (cp xs),.j (cp cut),.j e,.j (bc closed),.j (bc right),.j .none,.j f,.j (.o []),.y,.y,.y,.y,.y,.y,.y]) (λt h=>H.c 53 rfl _ _ _ (tY h)) ?_;refine aw (v:=.j (.o (xs.map wv))) (ρ1:=[.j .none,.j as,.j .none,.j (.o (lD.map V.str)),.j (cp xs),.j (cp cut),.j e,.j (bc closed),.j (bc right),.j .none,.j f,.j (.o []),.y,.y,.y,.y,.y,.y,.y]) (λk d=>⟨af rfl,H.c 42 rfl _ _ _ (fU d)⟩) (aa rfl) ?_;refine aw (v:=.j (.bool closed)) (ρ1:=[.j .none,.j as,.j .none,.j (.o (lD.map V.str)),.j (cp xs),.j (cp cut),.j e,.j (bc closed),.j (bc right),.j .none,.j f,.j (.o []),.j (.o (xs.map wv)),.y,.y,.y,.y,.y,.y]) (λk d=>H.c 44 rfl _ _ _ (rE d)) (aa rfl) ?_;refine aw (v:=.j (.bool right)) (ρ1:=[.j .none,.j as,.j .none,.j (.o (lD.map V.str)),.j (cp xs),.j (cp cut),.j e,.j (bc closed),.j (bc right),.j .none,.j f,.j (.o []),.j (.o (xs.map wv)),.j (.bool closed),.y,.y,.y,.y,.y]) (λk d=>H.c 44 rfl _ _ _ (rE d)) (aa rfl) ?_;cases hb:brk xs cut with
 |inl m=>
  refine⟨af rfl,H.c 42 rfl _ _ _ (fU ?_)⟩;refine H.c 68 rfl _ _ _ (iw x L c ?_);rw[hb];exact h1 m hb
 |inr bs=>
  have ok:=pX x c hb;refine aw (v:=.j (.o (bs.map ah))) (ρ1:=[.j .none,.j as,.j .none,.j (.o (lD.map V.str)),.j (cp xs),.j (cp cut),.j e,.j (bc closed),.j (bc right),.j .none,.j f,.j (.o []),.j (.o (xs.map wv)),.j (.bool closed),.j (.bool right),.y,.y,.y,.y]) (λk d=>⟨af rfl,H.c 42 rfl _ _ _ (fU (H.c 68 rfl _ _ _ (iw x L c ?_)))⟩) (aa rfl) ?_
  ·rw[hb];exact d
  refine aw (v:=.j (.o (xs.map (iO bs right closed)))) (ρ1:=[.j .none,.j as,.j .none,.j (.o (lD.map V.str)),.j (cp xs),.j (cp cut),.j e,.j (bc closed),.j (bc right),.j .none,.j f,.j (.o []),.j (.o (xs.map wv)),.j (.bool closed),.j (.bool right),.j (.o (bs.map ah)),.y,.y,.y]) (λk d=>H.c 70 rfl _ _ _ (tX x L ok.num ok.strict ok.Dy ok.vF d)) (aa rfl) ?_;exact h2 bs hb
noncomputable def Jw:Str:=⟨#[110,117,109,98,101,114,32,111,102,32,105,110,116,101,114,118,97,108,115,32,97,110,100,32,108,101,110,103,116,104,32,111,102,32,39,108,97,98,101,108,115,39,32,100,105,102,102,101,114]⟩
theorem B5(H:∀I∈xs,ik true I)(L:xs.length≤1000)(c:iv cut)(h1:∀m,brk xs cut=.inl m→X m)(h2:∀bs,brk xs cut=.inr bs→K (.j (gC aS (.o (xs.map (iO bs right closed))) .none)) []):
 FF 79 [.j .none,.j (.o ([(none,cp xs),(none,cp cut),(some dA,bc right),(some cq,bc closed),(some ed,bc false)].map aX)),.j .none] K X:=by
 refine de 79 rfl rfl rfl λG g=> ?_;refine tL g H L c (λK h=>g.c 54 rfl _ _ _ (En h)) h1 λbs hb=> ?_;refine ai (λk d=>aT (λ_ h=>h) (λ_=>aT (b:=true) (λk d=>ko rfl rfl (λ_ h=>h) (λ_ h=>h) d) (λ_=>bK (λk d=>⟨af rfl,cX (b:=true) rfl d⟩) (λ_=>d) λq=>by cases q) λq=>by cases q) λq=>by cases q) (λ_=> ?_) λq=>by cases q
 exact g.c 29 rfl _ _ _ (jj (h2 bs hb))
theorem HJ(H:∀I∈xs,ik true I)(L:xs.length≤1000)(C:iv cut)(hb:brk xs cut=.inr bs)(h2:∀ls:List Str,ls.length+1=bs.length→(∀t∈ls,Tx 1300 t)→(jz bs→ls=bG right closed (bs.map a6))→K (.j (iF (xs.map (iO bs right closed)) ls false)) []):
 FF 79 [.j .none,.j (.o ((aV xs cut right closed).map aX)),.j .none] K X:=by
 refine de 79 rfl rfl rfl λG g=> ?_;refine tL g H L C (λK h=>g.c 54 rfl _ _ _ (Fo h)) (λm M=>by rw[hb]at M;cases M) λB J=> ?_;have e:B=bs:=by rw[hb]at J;cases J;rfl
 subst e;refine ai (λk d=>aT (λ_ h=>h) (λq=>by cases q) λ_=>d) (λq=>by cases q) λ_=>ae ?_;refine ai (λk d=>d8 (λ_ h=>h) (λ_=>d) λq=>by cases q) (λ_=> ?_) λq=>by cases q
 refine aw (λk d=>bx (λ_ h=>h) (λ_=>d) λq=>by cases q) (aa rfl) ?_;refine cP (λls:List Str=>V.o (ls.map V.str)) (λls=>ls.length+1=B.length∧(∀t∈ls,Tx 1300 t)∧(jz B→ls=bG right closed (B.map a6))) (λk d=>g.c 73 rfl _ _ _ (si (pX H C hb) λls a b c=>d ls ⟨a,b,c⟩)) (aa rfl) λls⟨a,b,c⟩=>ae ?_;refine g.c 29 rfl _ _ _ (jj ?_);refine g.c 44 rfl _ _ _ (sL ?_);exact g.c 77 rfl _ _ _ (jA (h2 ls a b c))
theorem HK(H:∀I∈xs,ik true I)(L:xs.length≤1000)(c:iv cut)(hb:brk xs cut=.inr bs)(t:ts.length≤1000)(h1:ts.length+1≠bs.length→X Jw)(h2:ts.length+1=bs.length→K (.j (iF (xs.map (iO bs right closed)) ts true)) []):
 FF 79 [.j .none,.j (.o ([(none,cp xs),(none,cp cut),(some dA,bc right),(some cq,bc closed),(some ed,Mp ts),(some iz,bc true)].map aX)),.j .none] K X:=by
 refine de 79 rfl rfl rfl λG g=> ?_;refine tL g H L c (λK h=>g.c 54 rfl _ _ _ (Eu h)) (λm M=>by rw[hb]at M;cases M) λB J=> ?_;have e:B=bs:=by rw[hb]at J;cases J;rfl
 subst e;have ok:=pX H c hb;refine ai (λk d=>aT (λ_ h=>h) (λ_=>aT (λk d=>ko rfl rfl (λ_ h=>h) (λ_ h=>h) d) (λq=>by cases q) λ_=>d) λq=>by cases q) (λq=>by cases q) λ_=>ae ?_;refine ai (λk d=>d8 (λ_ h=>h) (λq=>by cases q) λ_=>gh (λk d=>⟨af rfl,GU (ss:=[⟨#[78,85,76,76]⟩,eE]) rfl rfl d⟩) (λq=>by cases q) λ_=>d) (λq=>by cases q) λ_=> ?_;refine aw (λk d=>g.c 78 rfl _ _ _ (sF t d)) (aa rfl) ?_;refine ai (b:= !(decide ((((ts.map V.str).length:Nat):Int)=(((B.map ah).length:Nat):Int)-1))) (λk d=>d) (λq=> ?_) λq=>ae (ae ?_)
 ·rw[length_map,length_map]at q
  refine h1 λz=> ?_;rw[decide_eq_true (show((ts.length:Nat):Int)=((B.length:Nat):Int)-1 from zl 0x5e6a945e7d49b6 rfl z)]at q;cases q
 ·rw[length_map,length_map]at q
  have z:ts.length+1=B.length:=by
   by_cases w:(ts.length)=(B.length:Int)-1
   ·exact zl 0x59c4ab45534e6b rfl w
   ·rw[decide_eq_false w]at q;cases q
  refine g.c 29 rfl _ _ _ (jj ?_);refine g.c 44 rfl _ _ _ (rE ?_);exact g.c 77 rfl _ _ _ (jA (h2 z))
theorem Jc(H:∀I∈xs,ik true I)(L:xs.length≤1000)(hb:∀p∈bs,aK p)(C:bs.length≤100)(g:bs≠[])(h1:aI bs=bs→K (.j (gC aS (.o (xs.map (zI bs))) .none)) [])(h2:aI bs≠bs→X mV):
 FF 80 [.j .none,.j (.o ([((none:Option Str),cp xs),((none:Option Str),gC aW (.o (bs.map ah)) .none)].map aX)),.j .none] K X:=by
 refine de 80 rfl rfl rfl λG O=> ?_;refine bN (λN h=>⟨af rfl,O.c 54 rfl _ _ _ (D1 h)⟩) ?_;refine ai (b:=false) (λk d=>d8 (b:=false) (ρ':=[.j .none,.j (.o ([((none:Option Str),cp xs),((none:Option Str),gC aW (.o (bs.map ah)) .none)].map aX)),.j .none,.j (cp xs),.j (gC aW (.o (bs.map ah)) .none),.j (.o [])]) (λ_ h=>h) (λq=>by cases q) λ_=>d8 (b:=false) (λ_ h=>h) (λq=>by cases q) λ_=>d8 (b:=false) (λk d=>O.c 34 rfl _ _ _ (dU rfl rfl d)) (λq=>by cases q) λ_=>gh (b:=false) (ρ':=[.j .none,.j (.o ([((none:Option Str),cp xs),((none:Option Str),gC aW (.o (bs.map ah)) .none)].map aX)),.j .none,.j (cp xs),.j (gC aW (.o (bs.map ah)) .none),.j (.o [])]) (λk d=>O.c 34 rfl _ _ _ (dU rfl rfl d)) (λq=>by cases q) λ_=>d) (λq=>by cases q) λ_=>ae ?_;refine⟨af rfl,O.c 42 rfl _ _ _ (fU ?_)⟩;refine⟨af rfl,O.c 42 rfl _ _ _ (fU ?_)⟩;refine O.c 74 rfl _ _ _ (lF H L hb C g (λz=> ?_) h2);exact O.c 29 rfl _ _ _ (jj (h1 z))
theorem FI:brk xs cut=.inl m→ku m=true:=by
 refine lM (P:=λz=>z=.inl m→ku m=true) (λh=>Sum.inl.inj h▸rfl) (λp _=> ?_) λps _ _ h=> ?_
 ·exact lS (P:=λz=>z=.inl m→ku m=true) (λs e h=>Sum.inl.inj h▸e) λ_ _ _ _ h=>nomatch h
 ·by_cases na:Cx (aI ps)=true
  ·rw[if_pos na]at h;exact Sum.inl.inj h▸rfl
  ·rw[if_neg na]at h;cases h
theorem lQ(hd:0<d)(h:mC n d<2):d∣n:=by
 have h2:=L7 (n:=n) (d:=d);rw[show mC n d=1 from zl 6841381433321 rfl h (cn (n:=n) hd),Int.one_mul]at h2;have:=Int.gcd_dvd_left n d;rw[h2]at this;exact this
theorem yf(H:n≠0)(h:n.natAbs<2^8)(hd:(1000:Int)∣n):False:=by
 obtain⟨z,rfl⟩:=hd;rcases Int.lt_trichotomy z 0 with q|q|q
 ·exact zl 0x3a07b8fadc3c8b2413 rfl h q
 ·exact H (by rw[q];rfl)
 ·exact zl 0x394c1032dc3c8b2413 rfl h q
theorem vR(H:Sm low)(C:Sm top)(L:0<low.2)(t:0<top.2)(m2:2≤m):∃p∈eF low top m,2≤p.2:=by
 have b1:low.1.natAbs<2^5:=by rcases H with h|h<;>(first|exact zl 920200751983464 rfl h.2.2.2|exact zl 379053015251752 rfl L h.1)
 have b2:low.2.natAbs<2^2:=by rcases H with h|h<;>(first|exact zl 0xd5e355420528 rfl h.1 h.2.2.1|exact zl 0x674d8b933b28 rfl L h.1)
 have b:top.1.natAbs<2^5:=by rcases C with h|h<;>(first|exact zl 920200751983464 rfl h.2.2.2|exact zl 379053015251752 rfl t h.1)
 have I:top.2.natAbs<2^2:=by rcases C with h|h<;>(first|exact zl 0xd5e355420528 rfl h.1 h.2.2.1|exact zl 0x674d8b933b28 rfl t h.1)
 unfold eF;split
 ·generalize E:(if low.1≠0 then(low.1.natAbs:Int)else 1)=n
  have d:n.natAbs<2^8:=by subst E;split<;>(first|exact zl 0xbb3ededf4c6aab73 rfl b1|exact zm 92607431 rfl)
  have P:n≠0:=by subst E;split<;>(first|exact zl 0xdb6e2f9bf0a22 rfl ‹_›|exact zm 1299205 rfl)
  have g:0<low.2*low.2*1000:=by have:=Int.mul_pos L L;exact zl 0xf7afbc6e5d28 rfl this
  have S:0<(rd (low.1*low.2*1000-n*low.2) (low.2*low.2*1000)).2:=cn g;have s:Int.gcd (rd (low.1*low.2*1000-n*low.2) (low.2*low.2*1000)).1 (rd (low.1*low.2*1000-n*low.2) (low.2*low.2*1000)).2=1:=pN g;have B:¬(rd (low.1*low.2*1000-n*low.2) (low.2*low.2*1000)).2<2:=λz=>by
   obtain⟨z,Z⟩:=lQ g z;have e:low.2*n=low.2*(1000*(low.1-low.2*z)):=by
    have Q:low.2*n=low.1*low.2*1000-low.2*low.2*1000*z:=by rw[←Z,Int.mul_comm n];exact zm 0x1656041f85e041f80a rfl ..
    rw[Q,Int.mul_comm low.1,Int.mul_sub,Int.mul_sub];simp only[Int.mul_assoc,Int.mul_left_comm,Int.mul_comm]
   have e:=Int.eq_of_mul_eq_mul_left (zl 31155043112 rfl L) e;exact yf P d ⟨_,e⟩
  show∃p∈(List.range (m+1).toNat).map λ(i:Nat)=>rd ((rd (low.1*low.2*1000-n*low.2) (low.2*low.2*1000)).1*(low.2*1000)*m+(0+1*(i:Int))*(2*n)*(rd (low.1*low.2*1000-n*low.2) (low.2*low.2*1000)).2) ((rd (low.1*low.2*1000-n*low.2) (low.2*low.2*1000)).2*(low.2*1000)*m),2≤p.2;generalize rd (low.1*low.2*1000-n*low.2) (low.2*low.2*1000)=st at S s B;refine⟨_,mem_map.mpr ⟨0,mem_range.mpr (zl 7235504212481 rfl m2),rfl⟩,?_⟩;rcases Int.lt_or_le (mC (st.1*(low.2*1000)*m+(0+1*((0:Nat)))*(2*n)*st.2) (st.2*(low.2*1000)*m)) 2 with z|z
  ·exfalso
   have D:=lQ (dR S (zl 0xf7afbc6e5d28 rfl L) (zl 179601153 rfl m2)) z;rw[show(0+1*((0:Nat)))*(2*n)*st.2=0 by simp,Int.add_zero,Int.mul_assoc,Int.mul_assoc st.1]at D;have D:=Int.dvd_of_mul_dvd_mul_right (zl 31155043112 rfl (Int.mul_pos (zl 0xf7afbc6e5d28 rfl L) (zl 179601153 rfl m2))) D;have:=Int.dvd_coe_gcd D (Int.dvd_refl _);rw[s]at this;have:=Int.le_of_dvd (by decide) this;exact B (zl 7241483134 rfl this)
  ·exact z
 ·rename_i N
  unfold BN;generalize E:top.1*low.2-low.1*top.2=n at N;have M:n.natAbs<2^8:=E▸xK (ml b b2) (ml b1 I);have g:0<low.2*(top.2*low.2)*1000:=by have:=Int.mul_pos L (Int.mul_pos t L);exact zl 0xf7afbc6e5d28 rfl this
  refine⟨_,mem_of_getElem? (i:=0) (a:=rd (low.1*(top.2*low.2)*1000-n*low.2) (low.2*(top.2*low.2)*1000)) ?_,?_⟩
  ·rw[getElem?_set_ne (by exact zl 996961694977 rfl m2),getElem?_set_self (by simp;exact zl 226112102145 rfl m2)]
  ·rcases Int.lt_or_le (mC (low.1*(top.2*low.2)*1000-n*low.2) (low.2*(top.2*low.2)*1000)) 2 with z|z
   ·exfalso
    obtain⟨z,Z⟩:=lQ g z;have e:low.2*n=low.2*(1000*(top.2*(low.1-low.2*z))):=by
     have Q:low.2*n=low.1*(top.2*low.2)*1000-low.2*(top.2*low.2)*1000*z:=by rw[←Z,Int.mul_comm n];exact zm 0x1656041f85e041f80a rfl ..
     rw[Q,Int.mul_sub,Int.mul_sub,Int.mul_sub];simp only[Int.mul_assoc,Int.mul_left_comm,Int.mul_comm]
    exact yf N M ⟨_,Int.eq_of_mul_eq_mul_left (zl 31155043112 rfl L) e⟩
   ·exact z
theorem y7(x:∀I∈xs,ik true I)(c:iv cut)(h:brk xs cut=.inr l)(H:∀p∈l,p.2<2):jz l:=by
 revert h;refine lM (P:=λz=>z=.inr l→jz l) (λh=>nomatch h) (λp E=> ?_) λps L E h=> ?_
 ·refine lS (P:=λz=>z=.inr l→jz l) (λ_ _ h=>nomatch h) λm2 low r e h=> ?_
  cases h;have s:=x8 x;rw[e]at s;have h1:=s low (.head _);have h2:=s _ (getLast_mem (cons_ne_nil low r));obtain⟨q,Q,R⟩:=vR h1.1 h2.1 h1.2 h2.2 m2;exact absurd (H q Q) (Int.not_lt.mpr R)
 ·by_cases na:Cx (aI ps)=true
  ·rw[if_pos na]at h;cases h
  ·rw[if_neg na]at h
   cases h;intro p u;rcases(c.ok (.nu p) (E▸List.mem_map.mpr ⟨p,(aZ ps).mem_iff.mp u,rfl⟩)).1 with h2|h2
   ·right;exact zl 0x126cd55aae4f3bc4fd050afe9 rfl (H p u) h2.2.2.2 h2.1
   ·left;exact h2.1
theorem FJ(H:iv cut)(h:brk xs cut=.inr l):∃ps,cut=ps.map .nu∧ps≠[]∧(∀p∈ps,aK p)∧ps.length≤100:=by
 unfold brk at h;split at h
 ·cases h
 ·rename_i N
  have E:=nD λI i=>by
   cases q:hJ I with
   |false=>rfl
   |true=>exact absurd (.inr (mem_map.mpr ⟨I,i,q⟩)) N
  refine⟨DC cut,E,λz=>N (.inl (by rw[E,z];rfl)),λp P=>(H.ok (.nu p) (E▸List.mem_map.mpr ⟨p,P,rfl⟩)).1.num,?_⟩;have:=H.len;rw[E,length_map]at this;exact this
theorem Di(h:ik w I):ik true I:=by
 cases I with
 |na=>rfl
 |lI=>rfl
 |nu p=>exact⟨h.1,λq=>by cases q⟩
theorem gq{Y:Type}(st:Y→R)(P:Y→Prop)(h:∀x:R→Prop,(∀a,P a→x (st a))→ex G s ρ x C t X)(h1:∀a,P a→ex G r (st a) x C t X):ex G (.cons s r) ρ x C t X:=h _ h1
theorem BJ{k:Rv→R→Prop}{Y:Type}(f)(P:Y→Prop)(Pv:V→Prop)(Inv:R→Prop)(H:∀ρ,Inv ρ→bp ρ j)
 (O:∀ρ v,Inv ρ→Pv v→∀k:Rv→R→Prop,(∀a r ρ',P a→r.v=f a→Inv ρ'→k r ρ')→ev G J (ρ.set j (.j v)) k (λ_=>False))(items C:List V)(ρ)(p:∀v∈items,Pv v)(i:Inv ρ)
 (h:∀(as:List Y)ρ',as.length=items.length→(∀a∈as,P a)→Inv ρ'→k (.U (C++as.map f)) (ρ'.set j .y)):
 (items.foldr (λv t C ρ=>bH ρ j (.j v) λρ=>Gb G .no ρ (λc ρ=>match c with
  |true=>ev G J ρ (λr ρ=>t (C++[r.v]) ρ) (λ_=>False)
  |false=>t C ρ) (λ_=>False)) (λC ρ=>bH ρ j .y λρ=>k (.U C) ρ)) C ρ:=
 lV (λl C ρ=>Inv ρ∧∀(as:List Y)ρ',as.length=l.length→(∀a∈as,P a)→Inv ρ'→k (.U (C++as.map f)) (ρ'.set j .y)) (λC ρ h=>aU (H ρ h.1) (append_nil C▸h.2 [] ρ rfl (λ_ q=>nomatch q) h.1))
  (λv u l C ρ h t y=>aU (H ρ h.1) (O ρ v h.1 (p v u) _ λa r ρ' A e U=>y _ ρ' ⟨U,λas F h1 h2 h3=>by
   rw[e,List.append_assoc];exact h.2 (a::as) F (congrArg (·+1) h1) (λb hb=>(mem_cons.mp hb).elim (λz=>z▸A) (h2 b)) h3⟩)) C ρ ⟨i,h⟩
theorem xT{Y:Type}(f)(P:Y→Prop)(Pv:V→Prop)(N:Nat→Prop)(Inv:R→Prop)(H:∀n,N n→n≤1000)(i:∀k:List V→R→Prop,(∀items ρ',N items.length→(∀v∈items,Pv v)→Inv ρ'→k items ρ')→qY G I ρ k X)(J:∀ρ,Inv ρ→bp ρ j)
 (O:∀ρ v,Inv ρ→Pv v→∀k:Rv→R→Prop,(∀a r ρ',P a→r.v=f a→Inv ρ'→k r ρ')→ev G t (ρ.set j (.j v)) k (λ_=>False))(h:∀(as:List Y)ρ',N as.length→(∀a∈as,P a)→Inv ρ'→k (.U (as.map f)) (ρ'.set j .y)):ev G (.comp j I .no t) ρ k X:=
 i _ λitems ρ' U p u=>⟨Nat.le_trans (H _ U) (by decide),BJ f P Pv Inv J O items [] ρ' p u λas F h1 h2 h3=>h as F (h1▸U) h2 h3⟩
noncomputable abbrev LS(s:V)(U Q H I t y m f d J C j D O:Mine.Internal.S:=.y):R:=[.j s,U,Q,H,I,t,y,m,f,d,J,C,j,D,O,.y,.y,.y,.y,.y,.y,.y,.y]
noncomputable abbrev Lq(s:V)(l:List Int)(xs cut:List It)(w:Int)(right closed:Bool)(Q f d U C j H O:Mine.Internal.S:=.y):R:=LS s (.U (iV l)) (.j (.o (xs.map wv))) (vi w) (.j (.o (cut.map wv))) (.j (.bool right)) (.j (.bool closed)) Q f d U C j H O
theorem yE(h:v∈ao 0 m.toNat 1):∃i,v=.int i∧0≤i∧i<m:=by
 unfold ao at h;obtain⟨i,H,rfl⟩:=mem_map.mp h;have:=mem_range.mp H;exact⟨_,rfl,zm 97271027205 rfl _,zl 0x96da979a0b6caa rfl this⟩
theorem ue(H:Sub 93 G)(h1:ρ[1]? =some (.U (iV l)))(m0:0<m)(m1:m≤50)(d:∀items l',items.length<m.toNat→(∀v∈items,∃i:Int,v=.int i∧0≤i∧i<60)→k items (ρ.set 1 (.U (iV l')))):qY G (.eJ (.cons (.w .fmod (.P 81 1 .nil) (.p m)) .nil)) ρ k X:=by
 show(match ρ[1]?,me .nil ρ with
  |some o,some V=>(match mJ o with
   |some s=>G 81 (s::V.map .j) (λr ss=>match ss with|[S]=>(match pZ o S with|some O=>JG .fmod r.v (.int m) λr=>(match dG [r.v]with|some l=>k l (ρ.set 1 O)|.none=>False)|.none=>False)|_=>False) X
   |.none=>False)
  |_,_=>False)
 rw[h1];refine H.c 81 rfl _ _ _ (ba λi l'=>⟨zl 31155043112 rfl m0,?_⟩);obtain⟨a,b⟩:=fm m0 i;show(match dG [.int (i.fmod m)]with|some l=>k l (ρ.set 1 (.U (iV l')))|.none=>False);rw[iR a (zl 0x4f9b5d98992d73e rfl m1 b)];refine d _ l' ?_ λv R=> ?_
 ·unfold ao;rw[length_map,length_range];exact zl 0x4eeaec78ab228 rfl m0 b
 ·obtain⟨i,e,h1,h2⟩:=yE R
  exact⟨i,e,h1,zl 0x1f4e7554678a02d73e rfl m1 b h2⟩
theorem rf(H:Sub 93 G)(h1:ρ[1]? =some (.U (iV l)))(L:0≤a)(t:a≤5)(m0:0<m)(m1:m≤50)(d:∀items l',a.toNat≤items.length→items.length<a.toNat+m.toNat→(∀v∈items,∃i:Int,v=.int i∧0≤i∧i<60)→k items (ρ.set 1 (.U (iV l')))):qY G (.eJ (.cons (.w .add (.p a) (.w .fmod (.P 81 1 .nil) (.p m))) .nil)) ρ k X:=by
 show(match ρ[1]?,me .nil ρ with
  |some o,some V=>(match mJ o with
   |some s=>G 81 (s::V.map .j) (λr ss=>match ss with|[S]=>(match pZ o S with|some O=>JG .fmod r.v (.int m) λr=>JG .add (.int a) r.v λr=>(match dG [r.v]with|some l=>k l (ρ.set 1 O)|.none=>False)|.none=>False)|_=>False) X
   |.none=>False)
  |_,_=>False)
 rw[h1];refine H.c 81 rfl _ _ _ (ba λi l'=>⟨zl 31155043112 rfl m0,?_⟩);obtain⟨b,c⟩:=fm m0 i;show(match dG [.int (a+i.fmod m)]with|some l=>k l (ρ.set 1 (.U (iV l')))|.none=>False);rw[iR (by exact zl 5707093782690845 rfl L b) (by exact zl 0x7941b0681da0370af0e8e rfl t m1 c)];refine d _ l' ?_ ?_ λv R=> ?_
 ·unfold ao;rw[length_map,length_range];exact zl 45914881759005 rfl b
 ·unfold ao;rw[length_map,length_range];exact zl 0x1ffb9ecc06d0b72b228 rfl m0 c
 ·obtain⟨i,e,h1,h2⟩:=yE R
  exact⟨i,e,h1,zl 0xb1c5f6d744358f9acb0af0e8e rfl t m1 c h2⟩
theorem sM(H:Sub 93 G)(Y:j≠1){N:Nat→Prop}(g:∀n,N n→n≤1000){st:List Int→Mine.Internal.S→R}(d:∀l s,(st l s)[1]? =some (.U (iV l)))(Q:∀l s,(st l s)[j]? =some s)(m:∀l l' s,(st l s).set 1 (.U (iV l'))=st l' s)(U:∀l s t,(st l s).set j t=st l t)(M:∀k:List V→R→Prop,(∀items l',N items.length→k items (st l' .y))→qY G I ρ k X)(h:∀(J:List It)(l':List Int),N J.length→(∀i∈J,ik w i)→k (.U (J.map wv)) (st l' .y)):ev G (.comp j I .no (.P 84 1 (.cons (.cB w) .nil))) ρ k X:=by
 apply xT wv (ik w) (λ_=>True) N (λρ=>∃l s,fu s∧ρ=st l s) g (λk K=>M k λitems l' f=>K items _ f (λ_ _=>trivial) ⟨l',.y,.inl rfl,rfl⟩) (λρ⟨l,s,S,e⟩=>by subst e;exact aq (Q l s) S)
 ·rintro ρ v ⟨l,s,S,rfl⟩ _ k K
  rw[U];show(match(st l (.j v))[1]?,me (.cons (.cB w) .nil) (st l (.j v))with
   |some o,some C=>(match mJ o with
    |some s=>G 84 (s::C.map .j) (λr ss=>match ss with|[t]=>(match pZ o t with|some O=>k r ((st l (.j v)).set 1 O)|.none=>False)|_=>False) (λ_=>False)
    |.none=>False)
   |_,_=>False)
  rw[d];refine H.c 84 rfl _ _ _ (tw λI l' T=> ?_);show k (.j (wv I)) ((st l (.j v)).set 1 (.U (iV l')));rw[m];exact K I _ _ T rfl ⟨l',.j v,.inr ⟨_,rfl⟩,rfl⟩
 ·rintro as ρ' f A ⟨l,s,S,rfl⟩
  rw[U];exact h as l f A
theorem ja(h:∀I∈cut,ik true I)(l:cut.length≤100)(L:cut.length≠1):iv cut:=⟨h,l,λp e=>by subst e;exact absurd rfl L⟩
theorem qh(h:ev G e ρ (λr ρ=>bH ρ i r.s x) X):ex G (.C i e) ρ x C t X:=h
theorem Jh(h:∀k,k b ρ'→tr G c ρ k X)(h1:b=true→ex G A ρ' x C t X)(h2:b=false→ex G B ρ' x C t X):ex G (.iff c A B) ρ x C t X:=A6 h h1 h2
theorem DS(H:Sub 93 G){xs:List It}(h:∀(cut:List It)(l:List Int),iv cut→x (LS s (.U (iV l)) (.j (.o (xs.map wv))) (vi w) (.U (cut.map wv)))):ex G (.iff (.D (.ag .eq (.d 3) (.p 0))) (.cons (.C 4 (.Z (.cons (.L (.cons (.w .fmod (.P 81 1 .nil) (.p 6)) (.cons (.p 1) .nil))) .nil))) .nil) (.cons (.iff (.D (.ag .eq (.d 3) (.p 1))) (.cons (.C 4 (.comp 16 (.eJ (.cons (.w .fmod (.P 81 1 .nil) (.p 4)) .nil)) .no (.P 84 1 (.cons (.cB true) .nil)))) (.cons (.iff (.Q (.cons (.D (.ag .eq (.jZ (.v 4)) (.p 1))) (.cons (.D (.ag .dt (.dZ (.v 4) (.p 0)) .X)) (.cons (.cL (.cons (.D (.ag .ne (.sub (.dZ (.v 4) (.p 0)) (.p 1)) (.p 1))) (.cons (.D (.ag .gt (.sub (.dZ (.v 4) (.p 0)) (.p 0)) (.p 40))) .nil))) .nil)))) (.cons (.C 4 (.Z .nil)) .nil) .nil) .nil)) (.cons (.C 4 (.comp 17 (.eJ (.cons (.w .add (.p 2) (.w .fmod (.P 81 1 .nil) (.p 4))) .nil)) .no (.P 84 1 (.cons (.cB false) .nil)))) (.cons (.iff (.D (.ag .eq (.d 3) (.p 2))) (.cons (.dx (.v 4) (.p 0) (.L (.cons (.p 1) (.cons (.p 0) .nil)))) (.cons (.dx (.v 4) (.p 1) (.L (.cons (.neg (.p 1)) (.cons (.p 0) .nil)))) .nil)) .nil) .nil))) .nil)) (LS s (.U (iV l)) (.j (.o (xs.map wv))) (vi w)) x C t X:=by
 refine Jh (b:=decide (w=0)) (ρ':=(LS s (.U (iV l)) (.j (.o (xs.map wv))) (vi w))) (λ_ h=>h) (λ_=> ?_) λ_=> ?_
 ·refine H.c 81 rfl _ _ _ (ba λi l'=>⟨by decide,af rfl,af rfl,?_⟩)
  obtain⟨a,b⟩:=fm (show(0:Int)<6 by decide) i;exact h [.nu (i.fmod 6,1)] l' ⟨λT I=>by
   rw[List.mem_singleton]at I;subst I;exact⟨.inl ⟨(by decide:(0:Int)<1),Int.gcd_one_right _,(by decide:(1:Int)≤3),by show(i.fmod 6).natAbs≤24;lia⟩,λq=>by cases q⟩,by simp,λp e=>by cases e;exact⟨rfl,by show i.fmod 6≤40;lia⟩⟩
 refine ai (b:=decide (w=1)) (ρ':=(LS s (.U (iV l)) (.j (.o (xs.map wv))) (vi w))) (λ_ h=>h) (λ_=> ?_) λ_=> ?_
 ·refine gq (λp:List It×List Int=>(LS s (.U (iV p.2)) (.j (.o (xs.map wv))) (vi w) (.U (p.1.map wv)))) (λp=>(∀T∈p.1,ik true T)∧p.1.length<4) (λx h=>qh (sM (j:=16) (w:=true) H (by decide) (N:=λn=>n<4) (λn f=>zl 176629479978 rfl f) (st:=λl E=>[.j s,(.U (iV l)),(.j (.o (xs.map wv))),vi w,.y,.y,.y,.y,.y,.y,.y,.y,.y,.y,.y,.y,E,.y,.y,.y,.y,.y,.y]) (λ_ _=>rfl) (λ_ _=>rfl) (λ_ _ _=>rfl) (λ_ _ _=>rfl) (λk K=>ue H (l:=l) rfl (by decide) (by decide) λitems l' f _=>K items l' f) λS l' f I=>h (S,l') ⟨I,f⟩)) ?_
  rintro⟨cut,l⟩ ⟨I,f⟩
  match cut with
  |[]=>exact ai (b:=false) (λk K=>aT (b:=false) (ρ':=(LS s (.U (iV l)) (.j (.o (xs.map wv))) (vi w) (.U []))) (λ_ h=>h) (λq=>by cases q) λ_=>K) (λq=>by cases q) λ_=>ae (ae (ae (h [] l (ja I (by decide) (by decide)))))
  |a::b::r=>exact ai (b:=false) (λk K=>aT (b:=false) (λk K=>by
   show k (decide (((((a::b::r).map wv).length:Nat):Int)=1)) _;rw[decide_eq_false (by rw[List.length_map,List.length_cons,List.length_cons];exact zm 22396990256779 rfl _)];exact K) (λq=>by cases q) λ_=>K) (λq=>by cases q) λ_=>ae (ae (ae (h (a::b::r) l (ja I (Nat.le_of_lt (Nat.lt_of_lt_of_le f (by decide))) (by simp)))))
  |[.na]=>exact ai (b:=false) (λk K=>aT (b:=true) (ρ':=(LS s (.U (iV l)) (.j (.o (xs.map wv))) (vi w) (.U [.none]))) (λ_ h=>h) (λ_=>aT (b:=false) (λ_ h=>h) (λq=>by cases q) λ_=>K) (λq=>by cases q)) (λq=>by cases q) λ_=>ae (ae (ae (h [.na] l ⟨I,by decide,λp e=>by cases e⟩)))
  |[.lI]=>exact ai (b:=true) (λk K=>aT (b:=true) (λ_ h=>h) (λ_=>aT (b:=true) (ρ':=(LS s (.U (iV l)) (.j (.o (xs.map wv))) (vi w) (.U [nv 0 0]))) (λ_ h=>h) (λ_=>bK (b:=true) (λk K=>d8 (b:=true) (λ_ h=>h) (λ_=>K) λq=>by cases q) (λ_=>K) λq=>by cases q) λq=>by cases q) (λq=>by cases q)) (λ_=>⟨af rfl,h [] l (ja (λT I=>by cases I) (by decide) (by decide))⟩) λq=>by cases q
  |[.nu (a,d)]=>
   refine ai (b:= !decide (d=1)||decide (40<a)) (ρ':=(LS s (.U (iV l)) (.j (.o (xs.map wv))) (vi w) (.U [nv a d]))) (λk K=>aT (b:=true) (λ_ h=>h) (λ_=>aT (b:=true) (ρ':=(LS s (.U (iV l)) (.j (.o (xs.map wv))) (vi w) (.U [nv a d]))) (λ_ h=>h) (λ_=> ?_) λq=>by cases q) (λq=>by cases q)) (λ_=>⟨af rfl,h [] l (ja (λT I=>by cases I) (by decide) (by decide))⟩) λq=> ?_
   ·refine bK (b:= !decide (d=1)||decide (40<a)) (DY (λ_ h=>h) λ_=>yF λ_ h=>h) (λq=>by rw[q]at K;exact K) λq=>by rw[q]at K;exact K
   ·rw[Bool.or_eq_false_iff]at q
    have Q:d=1:=by
     by_cases z:d=1
     ·exact z
     ·have:=q.1;rw[decide_eq_false z]at this;cases this
    have R:=of_decide_eq_false q.2;exact ae (ae (ae (h [.nu (a,d)] l ⟨I,by simp,λp e=>by cases e;exact⟨Q,by show a≤40;exact zl 0x67ced7a420ee rfl (dF q.2:)⟩⟩)))
 ·refine gq (λp:List It×List Int=>(LS s (.U (iV p.2)) (.j (.o (xs.map wv))) (vi w) (.U (p.1.map wv)))) (λp=>(∀T∈p.1,ik false T)∧2≤p.1.length∧p.1.length<6) (λx h=>qh (sM (j:=17) (w:=false) H (by decide) (N:=λn=>2≤n∧n<6) (λn f=>zl 0xa47fbec0b6a rfl f.2) (st:=λl m=>[.j s,(.U (iV l)),(.j (.o (xs.map wv))),(vi w),.y,.y,.y,.y,.y,.y,.y,.y,.y,.y,.y,.y,.y,m,.y,.y,.y,.y,.y]) (λ_ _=>rfl) (λ_ _=>rfl) (λ_ _ _=>rfl) (λ_ _ _=>rfl) (λk K=>rf H (l:=l) rfl (by decide) (by decide) (by decide) (by decide) λitems l' f P _=>K items l' ⟨f,P⟩) λS l' f I=>h (S,l') ⟨I,f⟩)) ?_
  rintro⟨cut,l⟩ ⟨I,h2,h6⟩
  match cut,h2 with
  |a::b::r,_=>
   have h6:=h6;refine ai (b:=decide (w=2)) (λ_ h=>h) (λ_=> ?_) λ_=>ae (ae (ae (h (a::b::r) l (ja (λT h=>Di (I T h)) (by lia) (by simp)))));refine iy (l:=(a::b::r).map wv) (l':=(.nu (1,0)::b::r).map wv) (j:=((0:Nat):Int)) (v:=.j (wv (.nu (1,0)))) (λk K=>⟨af rfl,K⟩) rfl rfl (eB (by simp)) ?_;refine iy (l:=(.nu (1,0)::b::r).map wv) (l':=(.nu (1,0)::.nu (-1,0)::r).map wv) (j:=((1:Nat):Int)) (v:=.j (wv (.nu (-1,0)))) (λk K=>⟨af rfl,K⟩) rfl rfl (eB (by simp)) ?_;refine ae (ae (ae (h (.nu (1,0)::.nu (-1,0)::r) l (ja (λT h=> ?_) (by rw[List.length_cons,List.length_cons]at h6⊢;exact zl 0x5b62e4064342cd4a52fcb rfl h6) (by simp)))));rcases List.mem_cons.mp h with rfl|h
   ·exact⟨.inr ⟨rfl,.inl rfl⟩,λq=>by cases q⟩
   ·rcases List.mem_cons.mp h with rfl|h
    ·exact⟨.inr ⟨rfl,.inr rfl⟩,λq=>by cases q⟩
    ·exact Di (I T (.tail _ (.tail _ h)))
theorem zx(H:Sub 93 G)(h:∀(xs cut:List It)(w:Int)(l:List Int),(∀I∈xs,ik true I)→xs.length≤8→iv cut→ex G (.cons (.C 5 (.ag .eq (.w .fmod (.P 81 1 .nil) (.p 2)) (.p 1))) (.cons (.C 6 (.ag .eq (.w .fmod (.P 81 1 .nil) (.p 2)) (.p 1))) (.cons (.C 7 (.Y (.Z (.cons (.L (.cons .X (.cons (.new 0 27 (.cons (.M ⟨#[100,111,117,98,108,101]⟩) (.cons (.d 2) (.cons .dN .nil)))) .nil))) (.cons (.L (.cons .X (.cons (.new 0 27 (.cons (.M ⟨#[100,111,117,98,108,101]⟩) (.cons (.d 4) (.cons .dN .nil)))) .nil))) (.cons (.L (.cons (.M ⟨#[114,105,103,104,116]⟩) (.cons (.call 32 (.cons (.d 5) .nil)) .nil))) (.cons (.L (.cons (.M ⟨#[105,110,99,108,117,100,101,46,108,111,119,101,115,116]⟩) (.cons (.call 32 (.cons (.d 6) .nil)) .nil))) .nil))))))) (.cons (.C 8 (.call 89 (.cons (.d 2) (.cons (.d 4) .nil)))) (.cons (.C 9 (.dj 94 [7] (.call 79 (.cons .X (.cons (.w .add (.d 7) (.Z (.cons (.L (.cons (.M ⟨#[108,97,98,101,108,115]⟩) (.cons (.call 32 (.cons (.cB false) .nil)) .nil))) .nil))) (.cons .X .nil)))))) (.cons (.iff (.cL (.cons (.D (.tV (.d 8) 3)) (.cons (.D (.tV (.d 9) 3)) .nil))) (.cons (.ret (.ag .eq (.d 9) (.d 8))) .nil) .nil) (.cons (.C 10 (.Y (.comp 18 (.D (.d 2)) .no (.call 90 (.cons (.d 18) (.cons (.d 8) (.cons (.d 5) (.cons (.d 6) .nil)))))))) (.cons (.iff (.cL (.cons (.D (.ag .ne (.J (.d 9) 0) (.M ⟨#[105,110,116,101,103,101,114]⟩))) (.cons (.D (.ag .ne (.J (.d 9) 1) (.d 10))) (.cons (.D (.ag .dt (.J (.d 9) 2) .X)) .nil)))) (.cons (.ret (.cB false)) .nil) .nil) (.cons (.C 9 (.call 79 (.cons .X (.cons (.d 7) (.cons .X .nil))))) (.cons (.iff (.cL (.cons (.D (.ag .ne (.J (.d 9) 1) (.d 10))) (.cons (.D (.ag .ne (.J (.sub (.J (.d 9) 2) (.M ⟨#[99,108,97,115,115]⟩)) 1) (.Z (.cons (.M ⟨#[102,97,99,116,111,114]⟩) .nil)))) .nil))) (.cons (.ret (.cB false)) .nil) .nil) (.cons (.iff (.Q (.cons (.D (.ag .eH (.cB false) (.comp 19 (.D (.d 8)) .no (.ag .lt (.sub (.d 19) (.p 1)) (.p 2))))) (.cons (.D (.ag .ne (.call 75 (.cons (.d 9) .nil)) (.call 92 (.cons (.d 8) (.cons (.d 5) (.cons (.d 6) .nil)))))) .nil))) (.cons (.ret (.cB false)) .nil) .nil) (.cons (.C 11 (.Y (.comp 20 (.eJ (.cons (.w .add (.p 1) (.w .fmod (.P 81 1 .nil) (.p 5))) .nil)) .no (.w .add (.M ⟨#[107]⟩) (.b1 .str (.d 20)))))) (.cons (.C 9 (.dj 94 [7,11] (.call 79 (.cons .X (.cons (.w .add (.d 7) (.Z (.cons (.L (.cons (.M ⟨#[108,97,98,101,108,115]⟩) (.cons (.new 0 27 (.cons (.M ⟨#[99,104,97,114,97,99,116,101,114]⟩) (.cons (.d 11) (.cons .dN .nil)))) .nil))) (.cons (.L (.cons (.M ⟨#[111,114,100,101,114,101,100,95,114,101,115,117,108,116]⟩) (.cons (.call 32 (.cons (.cB true) .nil)) .nil))) .nil)))) (.cons .X .nil)))))) (.cons (.iff (.D (.ag .ne (.b1 .len (.d 11)) (.w .sub (.b1 .len (.d 8)) (.p 1)))) (.cons (.iff (.D (.ag .ne (.d 9) (.M ⟨#[110,117,109,98,101,114,32,111,102,32,105,110,116,101,114,118,97,108,115,32,97,110,100,32,108,101,110,103,116,104,32,111,102,32,39,108,97,98,101,108,115,39,32,100,105,102,102,101,114]⟩))) (.cons (.ret (.cB false)) .nil) .nil) .nil) (.cons (.iff (.cL (.cons (.D (.ag .ne (.call 75 (.cons (.d 9) .nil)) (.d 11))) (.cons (.D (.ag .ne (.J (.d 9) 1) (.d 10))) (.cons (.D (.ag .ne (.J (.sub (.J (.d 9) 2) (.M ⟨#[99,108,97,115,115]⟩)) 1) (.Z (.cons (.M ⟨#[111,114,100,101,114,101,100]⟩) (.cons (.M ⟨#[102,97,99,116,111,114]⟩) .nil))))) .nil)))) (.cons (.ret (.cB false)) .nil) .nil) .nil)) (.cons (.C 12 (.Y (.sl (.d 4) .no .no))) (.cons (.C 13 (.ite (.D (.ag .gt (.w .fmod (.P 81 1 .nil) (.p 3)) (.p 0))) (.d 8) (.d 12))) (.cons (.C 14 (.Y (.Z (.cons (.L (.cons .X (.cons (.new 0 27 (.cons (.M ⟨#[100,111,117,98,108,101]⟩) (.cons (.d 2) (.cons .dN .nil)))) .nil))) (.cons (.L (.cons .X (.cons (.new 0 27 (.cons (.M ⟨#[100,111,117,98,108,101]⟩) (.cons (.d 13) (.cons .dN .nil)))) .nil))) .nil))))) (.cons (.C 9 (.dj 94 [14] (.call 80 (.cons .X (.cons (.d 14) (.cons .X .nil)))))) (.cons (.iff (.D (.ag .ne (.call 87 (.cons (.d 13) .nil)) (.d 13))) (.cons (.ret (.ag .eq (.d 9) (.M ⟨#[39,118,101,99,39,32,109,117,115,116,32,98,101,32,115,111,114,116,101,100,32,110,111,110,45,100,101,99,114,101,97,115,105,110,103,108,121,32,97,110,100,32,110,111,116,32,99,111,110,116,97,105,110,32,78,65,115]⟩))) .nil) .nil) (.cons (.ret (.ag .eq (.J (.d 9) 1) (.comp 21 (.D (.d 2)) .no (.ite (.D (.call 86 (.cons (.d 21) .nil))) .X (.b1 .len (.comp 22 (.D (.d 13)) (.D (.D (.ag .le (.call 85 (.cons (.d 22) (.cons (.d 21) .nil))) (.p 0)))) (.d 22))))))) .nil)))))))))))))))))))) (LS (.o (iV s)) (.U (iV l)) (.j (.o (xs.map wv))) (vi w) (.U (cut.map wv))) x C t X):
 ex G yn (LS (.o (iV s))) x C t X:=by
 refine gq (λl=>(LS (.o (iV s)) (.U (iV l)))) (λ_=>True) (λx h=>H.c 82 rfl _ _ _ (Ae λl'=>h l' trivial)) ?_;intro l _;refine gq (λp:List It×List Int=>(LS (.o (iV s)) (.U (iV p.2)) (.j (.o (p.1.map wv))))) (λp=>(∀I∈p.1,ik true I)∧p.1.length<9) (λx h=>qh (fR (sM H (by decide) (N:=λn=>n<9) (λn=>zl 0xa47fbed766a rfl) (st:=λl S=>[.j (.o (iV s)),(.U (iV l)),.y,.y,.y,.y,.y,.y,.y,.y,.y,.y,.y,.y,.y,S,.y,.y,.y,.y,.y,.y,.y]) (λ_ _=>rfl) (λ_ _=>rfl) (λ_ _ _=>rfl) (λ_ _ _=>rfl) (λk K=>ue H rfl (by decide) (by decide) λitems l' f _=>K items l' f) λJ l' f M=>h (J,l') ⟨M,f⟩))) ?_;rintro⟨xs,l⟩ ⟨Q,L⟩;refine gq (λp:Int×List Int=>(LS (.o (iV s)) (.U (iV p.2)) (.j (.o (xs.map wv))) (vi p.1))) (λ_=>True) (λx h=>H.c 81 rfl _ _ _ (ba λi l'=>⟨by decide,h (i.fmod 8,l') trivial⟩)) ?_;rintro⟨w,l⟩ _;refine gq (λp:List It×List Int=>(LS (.o (iV s)) (.U (iV p.2)) (.j (.o (xs.map wv))) (vi w) (.U (p.1.map wv)))) (λp=>iv p.1) (λx h=>DS H λcut l c=>h (cut,l) c) ?_;rintro⟨cut,l⟩ c;exact h xs cut w l Q (le_of_lt_succ L) c
noncomputable abbrev aN(xs:List It)(bs:List PR)(right closed:Bool):List V:=xs.map (iO bs right closed)
theorem oz:∀v∈aN xs bs right closed,Sc v:=by
 intro v H;obtain⟨I,_,rfl⟩:=mem_map.mp H;cases I with
 |na=>exact .inl rfl
 |lI=>exact .inl rfl
 |nu x=>
  show Sc (DB bs right closed x);unfold DB;split
  ·exact .inr (.inl ⟨_,rfl⟩)
  ·split
   ·exact .inr (.inl ⟨_,rfl⟩)
   ·split
    ·exact .inr (.inl ⟨_,rfl⟩)
    ·exact .inl rfl
theorem Jn{xs:List It}:∀v∈xs.map (zI bs),Sc v:=by
 intro v H;obtain⟨I,_,rfl⟩:=mem_map.mp H;cases I with
 |na=>exact .inl rfl
 |lI=>exact .inl rfl
 |nu x=>exact .inr (.inl ⟨_,rfl⟩)
theorem n7{ts:List Str}(h:∀t∈ts,Tx n t):∀v∈ts.map V.str,Sc v:=by
 intro v H;obtain⟨t,T,rfl⟩:=mem_map.mp H;exact .inr (.inr ⟨t,rfl,(h t T).strOk⟩)
theorem LI(H:∀k,k x ρ1→ev G a ρ k X)(hb:ev G b ρ1 (λy ρ=>oM o x.v y.v λc=>k (.j (.bool c)) ρ) X):ev G (.ag o a b) ρ k X:=H _ hb
theorem G9{Y:Type}(st:Y→R)(h:∀k,(∀b l',k b (st l'))→tr G t ρ k X)(h1:∀l',ev G a (st l') k X)(h2:∀l',ev G b (st l') k X):ev G (.ite t a b) ρ k X:=h _ λc l'=>by
 cases c
 ·exact h2 l'
 ·exact h1 l'
theorem Ke(H:Sub 93 G)(L:∀I∈xs,ik true I)(J:xs.length≤8)(ok:GJ bs)(C:cut=ps.map .nu)(p0:ps≠[])(d:∀p∈ps,aK p)(f:ps.length≤100)(m:∀ρ,M (.j (.bool true)) (.j s::ρ)):
 ex G (.cons (.C 12 (.Y (.sl (.d 4) .no .no))) (.cons (.C 13 (.ite (.D (.ag .gt (.w .fmod (.P 81 1 .nil) (.p 3)) (.p 0))) (.d 8) (.d 12))) (.cons (.C 14 (.Y (.Z (.cons (.L (.cons .X (.cons (.new 0 27 (.cons (.M ⟨#[100,111,117,98,108,101]⟩) (.cons (.d 2) (.cons .dN .nil)))) .nil))) (.cons (.L (.cons .X (.cons (.new 0 27 (.cons (.M ⟨#[100,111,117,98,108,101]⟩) (.cons (.d 13) (.cons .dN .nil)))) .nil))) .nil))))) (.cons (.C 9 (.dj 94 [14] (.call 80 (.cons .X (.cons (.d 14) (.cons .X .nil)))))) (.cons (.iff (.D (.ag .ne (.call 87 (.cons (.d 13) .nil)) (.d 13))) (.cons (.ret (.ag .eq (.d 9) (.M ⟨#[39,118,101,99,39,32,109,117,115,116,32,98,101,32,115,111,114,116,101,100,32,110,111,110,45,100,101,99,114,101,97,115,105,110,103,108,121,32,97,110,100,32,110,111,116,32,99,111,110,116,97,105,110,32,78,65,115]⟩))) .nil) .nil) (.cons (.ret (.ag .eq (.J (.d 9) 1) (.comp 21 (.D (.d 2)) .no (.ite (.D (.call 86 (.cons (.d 21) .nil))) .X (.b1 .len (.comp 22 (.D (.d 13)) (.D (.D (.ag .le (.call 85 (.cons (.d 22) (.cons (.d 21) .nil))) (.p 0)))) (.d 22))))))) .nil)))))) (Lq s l xs cut w right closed t (.j (.o (bs.map ah))) (.j U) Q u) Y j M X:=by
 have S:aA=1000000:=rfl;refine aw (v:=.j (.o (cut.map wv))) (ρ1:=(Lq s l xs cut w right closed t (.j (.o (bs.map ah))) (.j U) Q u)) (λk K=> ?_) (aa rfl) ?_
 ·show k (.j (.o (((cut.map wv).take (cut.map wv).length).drop 0))) _
  rw[take_length,drop_zero];exact K
 refine gq (λp:List PR×List Int=>(Lq s p.2 xs cut w right closed t (.j (.o (bs.map ah))) (.j U) Q u (.j (.o (cut.map wv))) (.j (.o (p.1.map ah))))) (λp=>p.1≠[]∧(∀q∈p.1,aK q)∧p.1.length≤100) (λY h=>qh (G9 (λl=>(Lq s l xs cut w right closed t (.j (.o (bs.map ah))) (.j U) Q u (.j (.o (cut.map wv))))) (λk K=>H.c 81 rfl _ _ _ (ba λi l'=>⟨by decide,K _ l'⟩)) (λl'=>h (bs,l') ⟨λz=>by have:=ok.vF;have z:bs=[]:=z;rw[z]at this;simp at this,ok.num,ok.Dy⟩) λl'=> ?_)) ?_
 ·have:=h (ps,l') ⟨p0,d,f⟩
  have e:(ps.map ah)=cut.map wv:=by rw[C,map_map];rfl
  rw[e]at this;exact this
 rintro⟨F,l⟩ ⟨Z,fn,xI⟩;have xI:F.length≤100:=xI;have fn:=fn;have Z:F≠[]:=Z;refine bN (ρ':=(Lq s l xs cut w right closed t (.j (.o (bs.map ah))) (.j U) Q u (.j (.o (cut.map wv))) (.j (.o (F.map ah))) (.j (.o ([((none:Option Str),cp xs),((none:Option Str),gC aW (.o (F.map ah)) .none)].map aX))))) (λY h=>H.c 27 rfl _ _ _ (dc ⟨af rfl,H.c 27 rfl _ _ _ (dc ⟨af rfl,af rfl,h⟩)⟩)) ?_;refine gq (λv=>(Lq s l xs cut w right closed t (.j (.o (bs.map ah))) (.j v) Q u (.j (.o (cut.map wv))) (.j (.o (F.map ah))) (.j (.o ([((none:Option Str),cp xs),((none:Option Str),gC aW (.o (F.map ah)) .none)].map aX))))) (λv=>(aI F=F→v=gC aS (.o (xs.map (zI F))) .none)∧(aI F≠F→v=.str mV)) (λY h=>H.c 80 rfl _ _ _ (Jc L (zl 0xa47fbecfd5f rfl J) fn xI Z (λz=>h _ ⟨λ_=>rfl,λy=>absurd z y⟩) λz=>h _ ⟨λy=>absurd y z,λ_=>rfl⟩)) ?_;rintro v ⟨v1,A⟩;refine ai (λk K=>H.c 87 rfl _ _ _ (gO fn (by lia) (gV (k:=λc=>k c (Lq s l xs cut w right closed t (.j (.o (bs.map ah))) (.j v) Q u (.j (.o (cut.map wv))) (.j (.o (F.map ah))) (.j (.o ([((none:Option Str),cp xs),((none:Option Str),gC aW (.o (F.map ah)) .none)].map aX))))) (A4 (aI F) F) K))) (λq=> ?_) λq=>ae ?_
 ·have z:aI F≠F:=λz=>by rw[decide_eq_true z]at q;cases q
  rw[A z];exact Dw rfl rfl (m _)
 ·have z:aI F=F:=by
   by_cases z:aI F=F
   ·exact z
   ·rw[decide_eq_false z]at q;cases q
  rw[v1 z];refine iB (LI (λ_ h=>h) (fA (λ_ h=>h) (by rw[length_map];exact zl 0x29d4ecdc00e2927fd5f rfl J S) (aa rfl) (λv=>zI F (JP v)) ?_ ?_))
  ·intro v R k K
   obtain⟨I,N,rfl⟩:=mem_map.mp R;rw[rX (L I N)]at K;refine bx (λk K=>lC H rfl (L I N) K) (λq=> ?_) λq=> ?_
   ·refine K (.j .none) ?_
    cases I with|nu p=>cases q|na=>rfl|lI=>rfl
   ·cases I with
    |na=>cases q
    |lI=>cases q
    |nu x=>
     refine xa (jW (λ_ h=>h) (by rw[length_map];lia) (aa rfl) (N6 x) (λv=>v) ?_ (λv _ _ k K=>K _ rfl) ?_)
     ·intro v R k K
      obtain⟨b,g,rfl⟩:=mem_map.mp R;exact H.c 85 rfl _ _ _ (iP (fn b g) (L _ N).1.num K)
     ·show k (.j (.int (((_:List V).length:Nat):Int))) _
      rw[yl];exact K _ rfl
  ·rw[wV L]
   exact cX (dW Jn) (m _)
noncomputable def mK:Str:=⟨#[107]⟩
theorem LU(H:Sub 93 G){xs cut:List It}{bs:List PR}{w:Int}{right closed:Bool}{U:V}(Q:∀I∈xs,ik true I)(L:xs.length≤8)(C:iv cut)(hb:brk xs cut=.inr bs)(m:∀ρ,f (.j (.bool true)) (.j s::ρ)):
 ex G (.cons (.C 11 (.Y (.comp 20 (.eJ (.cons (.w .add (.p 1) (.w .fmod (.P 81 1 .nil) (.p 5))) .nil)) .no (.w .add (.M ⟨#[107]⟩) (.b1 .str (.d 20)))))) (.cons (.C 9 (.dj 94 [7,11] (.call 79 (.cons .X (.cons (.w .add (.d 7) (.Z (.cons (.L (.cons (.M ⟨#[108,97,98,101,108,115]⟩) (.cons (.new 0 27 (.cons (.M ⟨#[99,104,97,114,97,99,116,101,114]⟩) (.cons (.d 11) (.cons .dN .nil)))) .nil))) (.cons (.L (.cons (.M ⟨#[111,114,100,101,114,101,100,95,114,101,115,117,108,116]⟩) (.cons (.call 32 (.cons (.cB true) .nil)) .nil))) .nil)))) (.cons .X .nil)))))) (.cons (.iff (.D (.ag .ne (.b1 .len (.d 11)) (.w .sub (.b1 .len (.d 8)) (.p 1)))) (.cons (.iff (.D (.ag .ne (.d 9) (.M ⟨#[110,117,109,98,101,114,32,111,102,32,105,110,116,101,114,118,97,108,115,32,97,110,100,32,108,101,110,103,116,104,32,111,102,32,39,108,97,98,101,108,115,39,32,100,105,102,102,101,114]⟩))) (.cons (.ret (.cB false)) .nil) .nil) .nil) (.cons (.iff (.cL (.cons (.D (.ag .ne (.call 75 (.cons (.d 9) .nil)) (.d 11))) (.cons (.D (.ag .ne (.J (.d 9) 1) (.d 10))) (.cons (.D (.ag .ne (.J (.sub (.J (.d 9) 2) (.M ⟨#[99,108,97,115,115]⟩)) 1) (.Z (.cons (.M ⟨#[111,114,100,101,114,101,100]⟩) (.cons (.M ⟨#[102,97,99,116,111,114]⟩) .nil))))) .nil)))) (.cons (.ret (.cB false)) .nil) .nil) .nil)) (.cons (.C 12 (.Y (.sl (.d 4) .no .no))) (.cons (.C 13 (.ite (.D (.ag .gt (.w .fmod (.P 81 1 .nil) (.p 3)) (.p 0))) (.d 8) (.d 12))) (.cons (.C 14 (.Y (.Z (.cons (.L (.cons .X (.cons (.new 0 27 (.cons (.M ⟨#[100,111,117,98,108,101]⟩) (.cons (.d 2) (.cons .dN .nil)))) .nil))) (.cons (.L (.cons .X (.cons (.new 0 27 (.cons (.M ⟨#[100,111,117,98,108,101]⟩) (.cons (.d 13) (.cons .dN .nil)))) .nil))) .nil))))) (.cons (.C 9 (.dj 94 [14] (.call 80 (.cons .X (.cons (.d 14) (.cons .X .nil)))))) (.cons (.iff (.D (.ag .ne (.call 87 (.cons (.d 13) .nil)) (.d 13))) (.cons (.ret (.ag .eq (.d 9) (.M ⟨#[39,118,101,99,39,32,109,117,115,116,32,98,101,32,115,111,114,116,101,100,32,110,111,110,45,100,101,99,114,101,97,115,105,110,103,108,121,32,97,110,100,32,110,111,116,32,99,111,110,116,97,105,110,32,78,65,115]⟩))) .nil) .nil) (.cons (.ret (.ag .eq (.J (.d 9) 1) (.comp 21 (.D (.d 2)) .no (.ite (.D (.call 86 (.cons (.d 21) .nil))) .X (.b1 .len (.comp 22 (.D (.d 13)) (.D (.D (.ag .le (.call 85 (.cons (.d 22) (.cons (.d 21) .nil))) (.p 0)))) (.d 22))))))) .nil))))))))) (Lq s l xs cut w right closed (.j (.o ((aV xs cut right closed).map aX))) (.j (.o (bs.map ah))) (.j U) (.j (.o (aN xs bs right closed)))) Y g f X:=by
 have d:aA=1000000:=rfl;have ok:=pX Q C hb;have o:=ok.vF;obtain⟨ps,P,p0,N,Z⟩:=FJ C hb;refine gq (λp:List Str×List Int=>(Lq s p.2 xs cut w right closed (.j (.o ((aV xs cut right closed).map aX))) (.j (.o (bs.map ah))) (.j U) (.j (.o (aN xs bs right closed))) (.j (.o (p.1.map V.str))))) (λp=>p.1.length≤6∧∀t∈p.1,Tx 30 t) (λY h=>qh (fR (xT (j:=20) V.str (Tx 30) (λv=>∃i,v=.int i∧0≤i∧i<60) (λn=>n≤6) (λρ=>∃l S,fu S∧ρ=[.j s,.U (iV l),.j (.o (xs.map wv)),vi w,.j (.o (cut.map wv)),.j (.bool right),.j (.bool closed),.j (.o ((aV xs cut right closed).map aX)),.j (.o (bs.map ah)),.j U,.j (.o (aN xs bs right closed)),.y,.y,.y,.y,.y,.y,.y,.y,.y,S,.y,.y]) (λn O=>zl 0xa47fbec0b5f rfl O) (λk K=>rf H (l:=l) rfl (by decide) (by decide) (by decide) (by decide) λitems l' h1 h2 h3=>K items _ (by change items.length<6 at h2;exact zl 396197628778 rfl h2) h3 ⟨l',.y,.inl rfl,rfl⟩) (λρ⟨l,S,B,e⟩=>by subst e;exact aq rfl B) ?_ ?_))) ?_
 ·rintro ρ v ⟨l,S,B,rfl⟩ ⟨i,rfl,E,A⟩ k K
  have M:=jU (k:=2) (by decide) (zl 0xa5068b320cab881d rfl E A);have tk:=bu 107 (by decide);exact⟨bg (i:=10) (zl 0xa05a2b8448cab881d rfl E A) (by decide),rZ tk M rfl,K (mK++aG i) (.j (.str (mK++aG i))) _ ((tk.add M).le (by decide)) rfl ⟨l,vi i,.inr ⟨_,rfl⟩,rfl⟩⟩
 ·rintro as ρ' h6 W ⟨l,S,B,rfl⟩
  exact h (as,l) ⟨h6,W⟩
 rintro⟨ts,l⟩ ⟨T,D⟩;have T:=T;have D:∀t∈ts,Tx 30 t:=D;refine gq (λv=>(Lq s l xs cut w right closed (.j (.o ((aV xs cut right closed).map aX))) (.j (.o (bs.map ah))) (.j v) (.j (.o (aN xs bs right closed))) (.j (.o (ts.map V.str))))) (λv=>(ts.length+1≠bs.length→v=.str Jw)∧(ts.length+1=bs.length→v=iF (aN xs bs right closed) ts true)) (λY h=>H.c 27 rfl _ _ _ (dc ⟨af rfl,H.c 32 rfl _ _ _ (ou ⟨af rfl,af rfl,af rfl,?_⟩)⟩)) ?_
 ·exact H.c 79 rfl _ _ _ (HK (xs:=xs) (cut:=cut) (right:=right) (closed:=closed) (ts:=ts) Q (zl 0xa47fbecfd5f rfl L) C hb (Nat.le_trans T (by decide)) (λz=>h (.str Jw) ⟨λ_=>rfl,λy=>absurd y z⟩) λz=>h (iF (aN xs bs right closed) ts true) ⟨λy=>absurd z y,λ_=>rfl⟩)
 rintro v ⟨v1,u⟩;have a9:∀v,ex G (.cons (.C 12 (.Y (.sl (.d 4) .no .no))) (.cons (.C 13 (.ite (.D (.ag .gt (.w .fmod (.P 81 1 .nil) (.p 3)) (.p 0))) (.d 8) (.d 12))) (.cons (.C 14 (.Y (.Z (.cons (.L (.cons .X (.cons (.new 0 27 (.cons (.M ⟨#[100,111,117,98,108,101]⟩) (.cons (.d 2) (.cons .dN .nil)))) .nil))) (.cons (.L (.cons .X (.cons (.new 0 27 (.cons (.M ⟨#[100,111,117,98,108,101]⟩) (.cons (.d 13) (.cons .dN .nil)))) .nil))) .nil))))) (.cons (.C 9 (.dj 94 [14] (.call 80 (.cons .X (.cons (.d 14) (.cons .X .nil)))))) (.cons (.iff (.D (.ag .ne (.call 87 (.cons (.d 13) .nil)) (.d 13))) (.cons (.ret (.ag .eq (.d 9) (.M ⟨#[39,118,101,99,39,32,109,117,115,116,32,98,101,32,115,111,114,116,101,100,32,110,111,110,45,100,101,99,114,101,97,115,105,110,103,108,121,32,97,110,100,32,110,111,116,32,99,111,110,116,97,105,110,32,78,65,115]⟩))) .nil) .nil) (.cons (.ret (.ag .eq (.J (.d 9) 1) (.comp 21 (.D (.d 2)) .no (.ite (.D (.call 86 (.cons (.d 21) .nil))) .X (.b1 .len (.comp 22 (.D (.d 13)) (.D (.D (.ag .le (.call 85 (.cons (.d 22) (.cons (.d 21) .nil))) (.p 0)))) (.d 22))))))) .nil)))))) (Lq s l xs cut w right closed (.j (.o ((aV xs cut right closed).map aX))) (.j (.o (bs.map ah))) (.j v) (.j (.o (aN xs bs right closed))) (.j (.o (ts.map V.str)))) Y g f X:=λv=>Ke H Q L ok P p0 N Z m;refine ai (b:= !decide (((ts.map V.str).length:Nat)=(((bs.map ah).length:Nat):Int)-1)) (ρ':=(Lq s l xs cut w right closed (.j (.o ((aV xs cut right closed).map aX))) (.j (.o (bs.map ah))) (.j v) (.j (.o (aN xs bs right closed))) (.j (.o (ts.map V.str))))) (λk K=>K) (λq=> ?_) λq=> ?_
 ·rw[List.length_map,List.length_map]at q
  have z:ts.length+1≠bs.length:=λz=>by
   rw[decide_eq_true (show((ts.length:Nat):Int)=((bs.length:Nat):Int)-1 from zl 0x5e6a945e7d49b6 rfl z)]at q;cases q
  have e:=v1 z;subst e;exact ai (b:=false) (ρ':=(Lq s l xs cut w right closed (.j (.o ((aV xs cut right closed).map aX))) (.j (.o (bs.map ah))) (.j (.str Jw)) (.j (.o (aN xs bs right closed))) (.j (.o (ts.map V.str))))) (λk K=>u6 (a:=Jw) (b:=Jw) rfl rfl (λ_ h=>h) (λ_ h=>h) K) (λq=>by cases q) λ_=>ae (ae (a9 _))
 ·rw[List.length_map,List.length_map]at q
  have z:ts.length+1=bs.length:=by
   by_cases w:((ts.length:Nat):Int)=((bs.length:Nat):Int)-1
   ·exact zl 0x59c4ab45534e6b rfl w
   ·rw[decide_eq_false w]at q;cases q
  have e:=u z;subst e;refine ai (b:=false) (ρ':=(Lq s l xs cut w right closed (.j (.o ((aV xs cut right closed).map aX))) (.j (.o (bs.map ah))) (.j (iF (aN xs bs right closed) ts true)) (.j (.o (aN xs bs right closed))) (.j (.o (ts.map V.str))))) (λk K=>d8 (b:=false) (ρ':=(Lq s l xs cut w right closed (.j (.o ((aV xs cut right closed).map aX))) (.j (.o (bs.map ah))) (.j (iF (aN xs bs right closed) ts true)) (.j (.o (aN xs bs right closed))) (.j (.o (ts.map V.str))))) (λk K=>H.c 75 rfl _ _ _ (jR (Nat.le_trans T (by decide)) (gV (x:=.o (ts.map V.str)) (y:=.o (ts.map V.str)) (k:=λc=>k c (Lq s l xs cut w right closed (.j (.o ((aV xs cut right closed).map aX))) (.j (.o (bs.map ah))) (.j (iF (aN xs bs right closed) ts true)) (.j (.o (aN xs bs right closed))) (.j (.o (ts.map V.str))))) (b:=true) (dW (n7 D)) K))) (λq=>by cases q) λ_=>d8 (b:=false) (ρ':=(Lq s l xs cut w right closed (.j (.o ((aV xs cut right closed).map aX))) (.j (.o (bs.map ah))) (.j (iF (aN xs bs right closed) ts true)) (.j (.o (aN xs bs right closed))) (.j (.o (ts.map V.str))))) (λk K=>gV (x:=.o (aN xs bs right closed)) (y:=.o (aN xs bs right closed)) (k:=λc=>k c (Lq s l xs cut w right closed (.j (.o ((aV xs cut right closed).map aX))) (.j (.o (bs.map ah))) (.j (iF (aN xs bs right closed) ts true)) (.j (.o (aN xs bs right closed))) (.j (.o (ts.map V.str))))) (b:=true) (dW oz) K) (λq=>by cases q) λ_=>gh (b:=false) (ρ':=(Lq s l xs cut w right closed (.j (.o ((aV xs cut right closed).map aX))) (.j (.o (bs.map ah))) (.j (iF (aN xs bs right closed) ts true)) (.j (.o (aN xs bs right closed))) (.j (.o (ts.map V.str))))) (λk K=>⟨af rfl,gV (x:=.o ((wM true).map V.str)) (y:=.o ((wM true).map V.str)) (k:=λc=>k c (Lq s l xs cut w right closed (.j (.o ((aV xs cut right closed).map aX))) (.j (.o (bs.map ah))) (.j (iF (aN xs bs right closed) ts true)) (.j (.o (aN xs bs right closed))) (.j (.o (ts.map V.str))))) (b:=true) (dW (l:=(wM true).map V.str) (n7 (n:=100) ?_)) K⟩) (λq=>by cases q) λ_=>K) (λq=>by cases q) λ_=>ae (ae (a9 _));intro t J;change t∈[MB,nQ]at J;simp only[List.mem_cons,List.not_mem_nil,or_false]at J;rcases J with rfl|rfl
  ·exact⟨by decide,by decide⟩
  ·exact⟨by decide,by decide⟩
noncomputable def QN:V→V
|.L [_,.int d]=>.bool (decide (d<2))
|_=>.none
theorem Lg(g:Sub 93 G)(H:∀I∈xs,ik true I)(L:xs.length≤8)(C:iv cut)(hb:brk xs cut=.inr bs)(m:∀ρ,Y (.j (.bool true)) (.j s::ρ)):
 ex G (.cons (.C 10 (.Y (.comp 18 (.D (.d 2)) .no (.call 90 (.cons (.d 18) (.cons (.d 8) (.cons (.d 5) (.cons (.d 6) .nil)))))))) (.cons (.iff (.cL (.cons (.D (.ag .ne (.J (.d 9) 0) (.M ⟨#[105,110,116,101,103,101,114]⟩))) (.cons (.D (.ag .ne (.J (.d 9) 1) (.d 10))) (.cons (.D (.ag .dt (.J (.d 9) 2) .X)) .nil)))) (.cons (.ret (.cB false)) .nil) .nil) (.cons (.C 9 (.call 79 (.cons .X (.cons (.d 7) (.cons .X .nil))))) (.cons (.iff (.cL (.cons (.D (.ag .ne (.J (.d 9) 1) (.d 10))) (.cons (.D (.ag .ne (.J (.sub (.J (.d 9) 2) (.M ⟨#[99,108,97,115,115]⟩)) 1) (.Z (.cons (.M ⟨#[102,97,99,116,111,114]⟩) .nil)))) .nil))) (.cons (.ret (.cB false)) .nil) .nil) (.cons (.iff (.Q (.cons (.D (.ag .eH (.cB false) (.comp 19 (.D (.d 8)) .no (.ag .lt (.sub (.d 19) (.p 1)) (.p 2))))) (.cons (.D (.ag .ne (.call 75 (.cons (.d 9) .nil)) (.call 92 (.cons (.d 8) (.cons (.d 5) (.cons (.d 6) .nil)))))) .nil))) (.cons (.ret (.cB false)) .nil) .nil) (.cons (.C 11 (.Y (.comp 20 (.eJ (.cons (.w .add (.p 1) (.w .fmod (.P 81 1 .nil) (.p 5))) .nil)) .no (.w .add (.M ⟨#[107]⟩) (.b1 .str (.d 20)))))) (.cons (.C 9 (.dj 94 [7,11] (.call 79 (.cons .X (.cons (.w .add (.d 7) (.Z (.cons (.L (.cons (.M ⟨#[108,97,98,101,108,115]⟩) (.cons (.new 0 27 (.cons (.M ⟨#[99,104,97,114,97,99,116,101,114]⟩) (.cons (.d 11) (.cons .dN .nil)))) .nil))) (.cons (.L (.cons (.M ⟨#[111,114,100,101,114,101,100,95,114,101,115,117,108,116]⟩) (.cons (.call 32 (.cons (.cB true) .nil)) .nil))) .nil)))) (.cons .X .nil)))))) (.cons (.iff (.D (.ag .ne (.b1 .len (.d 11)) (.w .sub (.b1 .len (.d 8)) (.p 1)))) (.cons (.iff (.D (.ag .ne (.d 9) (.M ⟨#[110,117,109,98,101,114,32,111,102,32,105,110,116,101,114,118,97,108,115,32,97,110,100,32,108,101,110,103,116,104,32,111,102,32,39,108,97,98,101,108,115,39,32,100,105,102,102,101,114]⟩))) (.cons (.ret (.cB false)) .nil) .nil) .nil) (.cons (.iff (.cL (.cons (.D (.ag .ne (.call 75 (.cons (.d 9) .nil)) (.d 11))) (.cons (.D (.ag .ne (.J (.d 9) 1) (.d 10))) (.cons (.D (.ag .ne (.J (.sub (.J (.d 9) 2) (.M ⟨#[99,108,97,115,115]⟩)) 1) (.Z (.cons (.M ⟨#[111,114,100,101,114,101,100]⟩) (.cons (.M ⟨#[102,97,99,116,111,114]⟩) .nil))))) .nil)))) (.cons (.ret (.cB false)) .nil) .nil) .nil)) (.cons (.C 12 (.Y (.sl (.d 4) .no .no))) (.cons (.C 13 (.ite (.D (.ag .gt (.w .fmod (.P 81 1 .nil) (.p 3)) (.p 0))) (.d 8) (.d 12))) (.cons (.C 14 (.Y (.Z (.cons (.L (.cons .X (.cons (.new 0 27 (.cons (.M ⟨#[100,111,117,98,108,101]⟩) (.cons (.d 2) (.cons .dN .nil)))) .nil))) (.cons (.L (.cons .X (.cons (.new 0 27 (.cons (.M ⟨#[100,111,117,98,108,101]⟩) (.cons (.d 13) (.cons .dN .nil)))) .nil))) .nil))))) (.cons (.C 9 (.dj 94 [14] (.call 80 (.cons .X (.cons (.d 14) (.cons .X .nil)))))) (.cons (.iff (.D (.ag .ne (.call 87 (.cons (.d 13) .nil)) (.d 13))) (.cons (.ret (.ag .eq (.d 9) (.M ⟨#[39,118,101,99,39,32,109,117,115,116,32,98,101,32,115,111,114,116,101,100,32,110,111,110,45,100,101,99,114,101,97,115,105,110,103,108,121,32,97,110,100,32,110,111,116,32,99,111,110,116,97,105,110,32,78,65,115]⟩))) .nil) .nil) (.cons (.ret (.ag .eq (.J (.d 9) 1) (.comp 21 (.D (.d 2)) .no (.ite (.D (.call 86 (.cons (.d 21) .nil))) .X (.b1 .len (.comp 22 (.D (.d 13)) (.D (.D (.ag .le (.call 85 (.cons (.d 22) (.cons (.d 21) .nil))) (.p 0)))) (.d 22))))))) .nil)))))))))))))) (Lq s l xs cut w right closed (.j (.o ((aV xs cut right closed).map aX))) (.j (.o (bs.map ah))) (.j (gC aS (.o (aN xs bs right closed)) .none))) D U Y X:=by
 have S:aA=1000000:=rfl;have ok:=pX H C hb;have o:=ok.vF;have F:=ok.Dy;refine aw (v:=.j (.o (aN xs bs right closed))) (ρ1:=(Lq s l xs cut w right closed (.j (.o ((aV xs cut right closed).map aX))) (.j (.o (bs.map ah))) (.j (gC aS (.o (aN xs bs right closed)) .none)))) (λk K=>fR (fA (items:=xs.map wv) (λ_ h=>h) (by rw[List.length_map];exact zl 0x29d4ecdc00e2927fd5f rfl L S) (aa rfl) (λv=>iO bs right closed (JP v)) ?_ ?_)) (aa rfl) ?_
 ·intro v R k K
  obtain⟨I,i,rfl⟩:=List.mem_map.mp R;refine g.c 90 rfl _ _ _ (w8 (H I i) ok.num F (λz=>by rw[z]at o;simp at o) (K _ ?_));rw[rX (H I i)];rfl
 ·rw[wV H]
  exact K
 refine ai (b:=false) (λk K=>d8 (b:=false) (λk K=>u6 (a:=aS) (b:=aS) rfl rfl (λ_ h=>h) (λ_ h=>h) K) (λq=>by cases q) λ_=>d8 (b:=false) (λk K=>(gV (x:=.o (aN xs bs right closed)) (y:=.o (aN xs bs right closed)) (k:=λc=>k c (Lq s l xs cut w right closed (.j (.o ((aV xs cut right closed).map aX))) (.j (.o (bs.map ah))) (.j (gC aS (.o (aN xs bs right closed)) .none)) (.j (.o (aN xs bs right closed))))) (b:=true) (dW oz) K)) (λq=>by cases q) λ_=>gh (b:=false) (λ_ h=>h) (λq=>by cases q) λ_=>K) (λq=>by cases q) λ_=>ae ?_;refine gq (λls:List Str=>(Lq s l xs cut w right closed (.j (.o ((aV xs cut right closed).map aX))) (.j (.o (bs.map ah))) (.j (iF (aN xs bs right closed) ls false)) (.j (.o (aN xs bs right closed))))) (λls=>ls.length+1=bs.length∧(∀t∈ls,Tx 1300 t)∧(jz bs→ls=bG right closed (bs.map a6))) (λD h=>g.c 79 rfl _ _ _ (HJ (xs:=xs) (cut:=cut) (right:=right) (closed:=closed) H (zl 0xa47fbecfd5f rfl L) C hb λls a b c=>h ls ⟨a,b,c⟩)) ?_;rintro ls ⟨J,Q,W⟩;refine ai (b:=false) (λk K=>d8 (b:=false) (λk K=>(gV (x:=.o (aN xs bs right closed)) (y:=.o (aN xs bs right closed)) (k:=λc=>k c (Lq s l xs cut w right closed (.j (.o ((aV xs cut right closed).map aX))) (.j (.o (bs.map ah))) (.j (iF (aN xs bs right closed) ls false)) (.j (.o (aN xs bs right closed))))) (b:=true) (dW oz) K)) (λq=>by cases q) λ_=>gh (b:=false) (λk K=>⟨af rfl,gV (x:=.o ((wM false).map V.str)) (y:=.o ((wM false).map V.str)) (b:=true) (dW (l:=(wM false).map V.str) (n7 (n:=100) ?_)) K⟩) (λq=>by cases q) λ_=>K) (λq=>by cases q) λ_=>ae ?_
 ·intro t T
  change t∈[nQ]at T;simp only[List.mem_cons,List.not_mem_nil,or_false]at T;subst T;exact⟨by decide,by decide⟩
 refine ai (b:=false) (λk K=>aT (b:= !decide (false∈bs.map λp=>decide (p.2<2))) (ρ':=(Lq s l xs cut w right closed (.j (.o ((aV xs cut right closed).map aX))) (.j (.o (bs.map ah))) (.j (iF (aN xs bs right closed) ls false)) (.j (.o (aN xs bs right closed))))) (λk K=>HN (fA (items:=bs.map ah) (λ_ h=>h) (by rw[List.length_map];exact zl 0x27ab66bdf6b19419da55 rfl S F) (aa rfl) QN ?_ ?_)) (λq=> ?_) λ_=>K) (λq=>by cases q) λ_=>ae ?_
 ·intro v R k K
  obtain⟨p,P,rfl⟩:=List.mem_map.mp R;exact K _ rfl
 ·have e:(bs.map ah).map QN=(bs.map λp=>decide (p.2<2)).map V.bool:=by rw[List.map_map,List.map_map];rfl
  rw[e];exact Ej (um false _) K
 ·have wb:=y7 H C hb λp P=>by
   by_cases z:p.2<2
   ·exact z
   ·rw[decide_eq_true (List.mem_map.mpr ⟨p,P,decide_eq_false z⟩)]at q
    cases q
  have e:=W wb;refine bK (b:=false) (λk K=>g.c 75 rfl _ _ _ (jR (zl 0xc3b584c86f8d47b1cf rfl F J) (g.c 92 rfl _ _ _ (sP ok.num F ?_)))) (λq=>by cases q) λ_=>K;rw[←e];exact gV (x:=.o (ls.map V.str)) (y:=.o (ls.map V.str)) (b:=true) (dW (n7 Q)) K
 ·exact LU g H L C hb m
theorem Me(H:Sub 93 G){s:V}{w:Int}(x:∀I∈xs,ik true I)(L:xs.length≤8)(C:iv cut)(y:∀ρ,Y (.j (.bool true)) (.j s::ρ)):
 ex G (.cons (.C 8 (.call 89 (.cons (.d 2) (.cons (.d 4) .nil)))) (.cons (.C 9 (.dj 94 [7] (.call 79 (.cons .X (.cons (.w .add (.d 7) (.Z (.cons (.L (.cons (.M ⟨#[108,97,98,101,108,115]⟩) (.cons (.call 32 (.cons (.cB false) .nil)) .nil))) .nil))) (.cons .X .nil)))))) (.cons (.iff (.cL (.cons (.D (.tV (.d 8) 3)) (.cons (.D (.tV (.d 9) 3)) .nil))) (.cons (.ret (.ag .eq (.d 9) (.d 8))) .nil) .nil) (.cons (.C 10 (.Y (.comp 18 (.D (.d 2)) .no (.call 90 (.cons (.d 18) (.cons (.d 8) (.cons (.d 5) (.cons (.d 6) .nil)))))))) (.cons (.iff (.cL (.cons (.D (.ag .ne (.J (.d 9) 0) (.M ⟨#[105,110,116,101,103,101,114]⟩))) (.cons (.D (.ag .ne (.J (.d 9) 1) (.d 10))) (.cons (.D (.ag .dt (.J (.d 9) 2) .X)) .nil)))) (.cons (.ret (.cB false)) .nil) .nil) (.cons (.C 9 (.call 79 (.cons .X (.cons (.d 7) (.cons .X .nil))))) (.cons (.iff (.cL (.cons (.D (.ag .ne (.J (.d 9) 1) (.d 10))) (.cons (.D (.ag .ne (.J (.sub (.J (.d 9) 2) (.M ⟨#[99,108,97,115,115]⟩)) 1) (.Z (.cons (.M ⟨#[102,97,99,116,111,114]⟩) .nil)))) .nil))) (.cons (.ret (.cB false)) .nil) .nil) (.cons (.iff (.Q (.cons (.D (.ag .eH (.cB false) (.comp 19 (.D (.d 8)) .no (.ag .lt (.sub (.d 19) (.p 1)) (.p 2))))) (.cons (.D (.ag .ne (.call 75 (.cons (.d 9) .nil)) (.call 92 (.cons (.d 8) (.cons (.d 5) (.cons (.d 6) .nil)))))) .nil))) (.cons (.ret (.cB false)) .nil) .nil) (.cons (.C 11 (.Y (.comp 20 (.eJ (.cons (.w .add (.p 1) (.w .fmod (.P 81 1 .nil) (.p 5))) .nil)) .no (.w .add (.M ⟨#[107]⟩) (.b1 .str (.d 20)))))) (.cons (.C 9 (.dj 94 [7,11] (.call 79 (.cons .X (.cons (.w .add (.d 7) (.Z (.cons (.L (.cons (.M ⟨#[108,97,98,101,108,115]⟩) (.cons (.new 0 27 (.cons (.M ⟨#[99,104,97,114,97,99,116,101,114]⟩) (.cons (.d 11) (.cons .dN .nil)))) .nil))) (.cons (.L (.cons (.M ⟨#[111,114,100,101,114,101,100,95,114,101,115,117,108,116]⟩) (.cons (.call 32 (.cons (.cB true) .nil)) .nil))) .nil)))) (.cons .X .nil)))))) (.cons (.iff (.D (.ag .ne (.b1 .len (.d 11)) (.w .sub (.b1 .len (.d 8)) (.p 1)))) (.cons (.iff (.D (.ag .ne (.d 9) (.M ⟨#[110,117,109,98,101,114,32,111,102,32,105,110,116,101,114,118,97,108,115,32,97,110,100,32,108,101,110,103,116,104,32,111,102,32,39,108,97,98,101,108,115,39,32,100,105,102,102,101,114]⟩))) (.cons (.ret (.cB false)) .nil) .nil) .nil) (.cons (.iff (.cL (.cons (.D (.ag .ne (.call 75 (.cons (.d 9) .nil)) (.d 11))) (.cons (.D (.ag .ne (.J (.d 9) 1) (.d 10))) (.cons (.D (.ag .ne (.J (.sub (.J (.d 9) 2) (.M ⟨#[99,108,97,115,115]⟩)) 1) (.Z (.cons (.M ⟨#[111,114,100,101,114,101,100]⟩) (.cons (.M ⟨#[102,97,99,116,111,114]⟩) .nil))))) .nil)))) (.cons (.ret (.cB false)) .nil) .nil) .nil)) (.cons (.C 12 (.Y (.sl (.d 4) .no .no))) (.cons (.C 13 (.ite (.D (.ag .gt (.w .fmod (.P 81 1 .nil) (.p 3)) (.p 0))) (.d 8) (.d 12))) (.cons (.C 14 (.Y (.Z (.cons (.L (.cons .X (.cons (.new 0 27 (.cons (.M ⟨#[100,111,117,98,108,101]⟩) (.cons (.d 2) (.cons .dN .nil)))) .nil))) (.cons (.L (.cons .X (.cons (.new 0 27 (.cons (.M ⟨#[100,111,117,98,108,101]⟩) (.cons (.d 13) (.cons .dN .nil)))) .nil))) .nil))))) (.cons (.C 9 (.dj 94 [14] (.call 80 (.cons .X (.cons (.d 14) (.cons .X .nil)))))) (.cons (.iff (.D (.ag .ne (.call 87 (.cons (.d 13) .nil)) (.d 13))) (.cons (.ret (.ag .eq (.d 9) (.M ⟨#[39,118,101,99,39,32,109,117,115,116,32,98,101,32,115,111,114,116,101,100,32,110,111,110,45,100,101,99,114,101,97,115,105,110,103,108,121,32,97,110,100,32,110,111,116,32,99,111,110,116,97,105,110,32,78,65,115]⟩))) .nil) .nil) (.cons (.ret (.ag .eq (.J (.d 9) 1) (.comp 21 (.D (.d 2)) .no (.ite (.D (.call 86 (.cons (.d 21) .nil))) .X (.b1 .len (.comp 22 (.D (.d 13)) (.D (.D (.ag .le (.call 85 (.cons (.d 22) (.cons (.d 21) .nil))) (.p 0)))) (.d 22))))))) .nil))))))))))))))))) (Lq s l xs cut w right closed (.j (.o ((aV xs cut right closed).map aX)))) t U Y X:=by
 have S:aA=1000000:=rfl;have d:xs.length≤1000:=zl 0xa47fbecfd5f rfl L;cases hb:brk xs cut with
 |inl m=>
  have O:=FI hb;refine bN (ρ':=(Lq s l xs cut w right closed (.j (.o ((aV xs cut right closed).map aX))) (.j (.str m)))) (λt h=>H.c 89 rfl _ _ _ (kU x d C (by rw[hb];exact h))) ?_;refine bN (ρ':=(Lq s l xs cut w right closed (.j (.o ((aV xs cut right closed).map aX))) (.j (.str m)) (.j (.str m)))) (λt h=>H.c 32 rfl _ _ _ (ou ⟨af rfl,af rfl,af rfl,H.c 79 rfl _ _ _ (B5 (xs:=xs) (cut:=cut) (right:=right) (closed:=closed) x d C (λm' M=> ?_) λbs J=>by rw[hb]at J;cases J)⟩)) ?_
  ·rw[hb]at M;cases M;exact h
  refine ai (b:=true) (ρ':=(Lq s l xs cut w right closed (.j (.o ((aV xs cut right closed).map aX))) (.j (.str m)) (.j (.str m)))) (λk K=>d8 (b:=true) (ρ':=(Lq s l xs cut w right closed (.j (.o ((aV xs cut right closed).map aX))) (.j (.str m)) (.j (.str m)))) (λ_ h=>h) (λ_=>K) λq=>by cases q) (λ_=> ?_) λq=>by cases q
  refine Dw (a:=m) (b:=m) (k:=λc=>Y (.j (.bool c)) (Lq s l xs cut w right closed (.j (.o ((aV xs cut right closed).map aX))) (.j (.str m)) (.j (.str m)))) O O ?_;rw[aD.mpr rfl];exact y _
 |inr bs=>
  refine bN (ρ':=(Lq s l xs cut w right closed (.j (.o ((aV xs cut right closed).map aX))) (.j (.o (bs.map ah))))) (λt h=>H.c 89 rfl _ _ _ (kU x d C (by rw[hb];exact h))) ?_;refine bN (ρ':=(Lq s l xs cut w right closed (.j (.o ((aV xs cut right closed).map aX))) (.j (.o (bs.map ah))) (.j (gC aS (.o (aN xs bs right closed)) .none)))) (λt h=>H.c 32 rfl _ _ _ (ou ⟨af rfl,af rfl,af rfl,H.c 79 rfl _ _ _ (B5 (xs:=xs) (cut:=cut) (right:=right) (closed:=closed) x d C (λm' M=>by rw[hb]at M;cases M) λB J=> ?_)⟩)) ?_
  ·rw[hb]at J;cases J;exact h
  refine ai (b:=false) (ρ':=(Lq s l xs cut w right closed (.j (.o ((aV xs cut right closed).map aX))) (.j (.o (bs.map ah))) (.j (gC aS (.o (aN xs bs right closed)) .none)))) (λk K=>d8 (b:=false) (ρ':=(Lq s l xs cut w right closed (.j (.o ((aV xs cut right closed).map aX))) (.j (.o (bs.map ah))) (.j (gC aS (.o (aN xs bs right closed)) .none)))) (λ_ h=>h) (λq=>by cases q) λ_=>gh (b:=false) (ρ':=(Lq s l xs cut w right closed (.j (.o ((aV xs cut right closed).map aX))) (.j (.o (bs.map ah))) (.j (gC aS (.o (aN xs bs right closed)) .none)))) (λ_ h=>h) (λq=>by cases q) λ_=>K) (λq=>by cases q) λ_=>ae ?_;exact Lg H x L C hb y
theorem MJ(H:Sub 93 G){xs cut:List It}(Q:∀I∈xs,ik true I)(L:xs.length≤8)(C:iv cut)(m:∀ρ,Y (.j (.bool true)) (.j s::ρ)):
 ex G (.cons (.C 5 (.ag .eq (.w .fmod (.P 81 1 .nil) (.p 2)) (.p 1))) (.cons (.C 6 (.ag .eq (.w .fmod (.P 81 1 .nil) (.p 2)) (.p 1))) (.cons (.C 7 (.Y (.Z (.cons (.L (.cons .X (.cons (.new 0 27 (.cons (.M ⟨#[100,111,117,98,108,101]⟩) (.cons (.d 2) (.cons .dN .nil)))) .nil))) (.cons (.L (.cons .X (.cons (.new 0 27 (.cons (.M ⟨#[100,111,117,98,108,101]⟩) (.cons (.d 4) (.cons .dN .nil)))) .nil))) (.cons (.L (.cons (.M ⟨#[114,105,103,104,116]⟩) (.cons (.call 32 (.cons (.d 5) .nil)) .nil))) (.cons (.L (.cons (.M ⟨#[105,110,99,108,117,100,101,46,108,111,119,101,115,116]⟩) (.cons (.call 32 (.cons (.d 6) .nil)) .nil))) .nil))))))) (.cons (.C 8 (.call 89 (.cons (.d 2) (.cons (.d 4) .nil)))) (.cons (.C 9 (.dj 94 [7] (.call 79 (.cons .X (.cons (.w .add (.d 7) (.Z (.cons (.L (.cons (.M ⟨#[108,97,98,101,108,115]⟩) (.cons (.call 32 (.cons (.cB false) .nil)) .nil))) .nil))) (.cons .X .nil)))))) (.cons (.iff (.cL (.cons (.D (.tV (.d 8) 3)) (.cons (.D (.tV (.d 9) 3)) .nil))) (.cons (.ret (.ag .eq (.d 9) (.d 8))) .nil) .nil) (.cons (.C 10 (.Y (.comp 18 (.D (.d 2)) .no (.call 90 (.cons (.d 18) (.cons (.d 8) (.cons (.d 5) (.cons (.d 6) .nil)))))))) (.cons (.iff (.cL (.cons (.D (.ag .ne (.J (.d 9) 0) (.M ⟨#[105,110,116,101,103,101,114]⟩))) (.cons (.D (.ag .ne (.J (.d 9) 1) (.d 10))) (.cons (.D (.ag .dt (.J (.d 9) 2) .X)) .nil)))) (.cons (.ret (.cB false)) .nil) .nil) (.cons (.C 9 (.call 79 (.cons .X (.cons (.d 7) (.cons .X .nil))))) (.cons (.iff (.cL (.cons (.D (.ag .ne (.J (.d 9) 1) (.d 10))) (.cons (.D (.ag .ne (.J (.sub (.J (.d 9) 2) (.M ⟨#[99,108,97,115,115]⟩)) 1) (.Z (.cons (.M ⟨#[102,97,99,116,111,114]⟩) .nil)))) .nil))) (.cons (.ret (.cB false)) .nil) .nil) (.cons (.iff (.Q (.cons (.D (.ag .eH (.cB false) (.comp 19 (.D (.d 8)) .no (.ag .lt (.sub (.d 19) (.p 1)) (.p 2))))) (.cons (.D (.ag .ne (.call 75 (.cons (.d 9) .nil)) (.call 92 (.cons (.d 8) (.cons (.d 5) (.cons (.d 6) .nil)))))) .nil))) (.cons (.ret (.cB false)) .nil) .nil) (.cons (.C 11 (.Y (.comp 20 (.eJ (.cons (.w .add (.p 1) (.w .fmod (.P 81 1 .nil) (.p 5))) .nil)) .no (.w .add (.M ⟨#[107]⟩) (.b1 .str (.d 20)))))) (.cons (.C 9 (.dj 94 [7,11] (.call 79 (.cons .X (.cons (.w .add (.d 7) (.Z (.cons (.L (.cons (.M ⟨#[108,97,98,101,108,115]⟩) (.cons (.new 0 27 (.cons (.M ⟨#[99,104,97,114,97,99,116,101,114]⟩) (.cons (.d 11) (.cons .dN .nil)))) .nil))) (.cons (.L (.cons (.M ⟨#[111,114,100,101,114,101,100,95,114,101,115,117,108,116]⟩) (.cons (.call 32 (.cons (.cB true) .nil)) .nil))) .nil)))) (.cons .X .nil)))))) (.cons (.iff (.D (.ag .ne (.b1 .len (.d 11)) (.w .sub (.b1 .len (.d 8)) (.p 1)))) (.cons (.iff (.D (.ag .ne (.d 9) (.M ⟨#[110,117,109,98,101,114,32,111,102,32,105,110,116,101,114,118,97,108,115,32,97,110,100,32,108,101,110,103,116,104,32,111,102,32,39,108,97,98,101,108,115,39,32,100,105,102,102,101,114]⟩))) (.cons (.ret (.cB false)) .nil) .nil) .nil) (.cons (.iff (.cL (.cons (.D (.ag .ne (.call 75 (.cons (.d 9) .nil)) (.d 11))) (.cons (.D (.ag .ne (.J (.d 9) 1) (.d 10))) (.cons (.D (.ag .ne (.J (.sub (.J (.d 9) 2) (.M ⟨#[99,108,97,115,115]⟩)) 1) (.Z (.cons (.M ⟨#[111,114,100,101,114,101,100]⟩) (.cons (.M ⟨#[102,97,99,116,111,114]⟩) .nil))))) .nil)))) (.cons (.ret (.cB false)) .nil) .nil) .nil)) (.cons (.C 12 (.Y (.sl (.d 4) .no .no))) (.cons (.C 13 (.ite (.D (.ag .gt (.w .fmod (.P 81 1 .nil) (.p 3)) (.p 0))) (.d 8) (.d 12))) (.cons (.C 14 (.Y (.Z (.cons (.L (.cons .X (.cons (.new 0 27 (.cons (.M ⟨#[100,111,117,98,108,101]⟩) (.cons (.d 2) (.cons .dN .nil)))) .nil))) (.cons (.L (.cons .X (.cons (.new 0 27 (.cons (.M ⟨#[100,111,117,98,108,101]⟩) (.cons (.d 13) (.cons .dN .nil)))) .nil))) .nil))))) (.cons (.C 9 (.dj 94 [14] (.call 80 (.cons .X (.cons (.d 14) (.cons .X .nil)))))) (.cons (.iff (.D (.ag .ne (.call 87 (.cons (.d 13) .nil)) (.d 13))) (.cons (.ret (.ag .eq (.d 9) (.M ⟨#[39,118,101,99,39,32,109,117,115,116,32,98,101,32,115,111,114,116,101,100,32,110,111,110,45,100,101,99,114,101,97,115,105,110,103,108,121,32,97,110,100,32,110,111,116,32,99,111,110,116,97,105,110,32,78,65,115]⟩))) .nil) .nil) (.cons (.ret (.ag .eq (.J (.d 9) 1) (.comp 21 (.D (.d 2)) .no (.ite (.D (.call 86 (.cons (.d 21) .nil))) .X (.b1 .len (.comp 22 (.D (.d 13)) (.D (.D (.ag .le (.call 85 (.cons (.d 22) (.cons (.d 21) .nil))) (.p 0)))) (.d 22))))))) .nil)))))))))))))))))))) (LS s (.U (iV l)) (.j (.o (xs.map wv))) (vi w) (.U (cut.map wv))) t U Y X:=by
 refine gq (λp:Bool×List Int=>(LS s (.U (iV p.2)) (.j (.o (xs.map wv))) (vi w) (.U (cut.map wv)) (.j (.bool p.1)))) (λ_=>True) (λt h=>H.c 81 rfl _ _ _ (ba λi l'=>⟨by decide,cX (x:=.int (i.fmod 2)) (y:=.int 1) (k:=λc=>t (LS s (.U (iV l')) (.j (.o (xs.map wv))) (vi w) (.U (cut.map wv)) (.j (.bool c)))) rfl (h (_,l') trivial)⟩)) ?_;rintro⟨right,l⟩ _;refine gq (λp:Bool×List Int=>(LS s (.U (iV p.2)) (.j (.o (xs.map wv))) (vi w) (.U (cut.map wv)) (.j (.bool right)) (.j (.bool p.1)))) (λ_=>True) (λt h=>H.c 81 rfl _ _ _ (ba λi l'=>⟨by decide,cX (x:=.int (i.fmod 2)) (y:=.int 1) (b:=decide (i.fmod 2=1)) (k:=λc=>t (LS s (.U (iV l')) (.j (.o (xs.map wv))) (vi w) (.U (cut.map wv)) (.j (.bool right)) (.j (.bool c)))) rfl (h (_,l') trivial)⟩)) ?_;rintro⟨closed,l⟩ _;refine bN (ρ':=(Lq s l xs cut w right closed (.j (.o ((aV xs cut right closed).map aX))))) (λt h=>H.c 27 rfl _ _ _ (dc ⟨af rfl,H.c 27 rfl _ _ _ (dc ⟨af rfl,H.c 32 rfl _ _ _ (ou ⟨af rfl,H.c 32 rfl _ _ _ (ou ⟨af rfl,af rfl,h⟩)⟩)⟩)⟩)) ?_;exact Me H Q L C m
theorem JA(l:List Int):wb (Ly 93) (ft 93).sl.length (ft 93).code [.j (.o (l.map V.int))] (λr _=>r=.j (.bool true)) (λ_=>False):=by
 rw[show(ft 93).sl.length=23 by kernel_rfl,show(ft 93).code=yn by kernel_rfl];have H:Sub 93 (Ly 93):=⟨λg G args K X c=>(CC (Nat.le_of_ble_eq_true G))▸c⟩;exact zx H λxs cut w l x L C=>MJ H x L C λ_=>rfl
end Mine.Internal
namespace Mine.Internal
open PySem PySem.W PySem.Calls PyProof.Rows
open List Nat Heap Str
noncomputable abbrev cw:=Addr→Nat×Nat
noncomputable def IG:List String:=["kind","items","attrs","shared","loose","formals","tags","used","places"]
noncomputable def an(n:Nat):Str:=ofString (IG.getD n "")
noncomputable def cK:Nat→Addr
|0=>318
|_=>614
noncomputable abbrev xk(v:List Value)(n:Nat):Obj:=⟨.type "tuple",none,.seq v.toArray n,#[]⟩
noncomputable abbrev tA(es:List DictEntry)(n:Nat):Obj:=⟨.type "dict",none,.dict es.toArray n,#[]⟩
noncomputable abbrev dk(v:List Value)(n:Nat):Obj:=⟨.type "list",none,.seq v.toArray n,#[]⟩
noncomputable def iu(h:Heap)(a C d:Addr):Prop:=∃o,h.get? a=some o∧o.cls=.ref C∧o.dict=some d∧o.data=.plain
noncomputable abbrev PP:Program:=PySem.Challenge.pw_nz0536_01
noncomputable abbrev jC(w:World)(h:Heap)(a:Addr)(k:List (Str×Value)):Prop:=h.DictOf (PySem.strKind PP w) a k∧(a==sysModules)=false
inductive cM{α β:Type}(R:α→β→Prop):List α→List β→Prop where
 |nil:cM R [] []
 |cons {v x l vs}:R v x→cM R l vs→cM R (v::l) (x::vs)
inductive zt(R:V→Value→Prop):List (Nat×V)→(Str→Option Value)→Prop where
 |nil {m}:zt R [] m
 |cons {k v x fs m}:m (an k)=some x→R v x→zt R fs m→zt R ((k,v)::fs) m
inductive gS(R:V→Value→Prop):List (Str×V)→List (Str×Value)→Prop where
 |nil:gS R [] []
 |cons {k v x l r}:R v x→gS R l r→gS R ((k,v)::l) ((k,x)::r)
inductive VR(w:World)(h:Heap)(W:cw):V→Value→Prop where
 |none:VR w h W .none .none
 |bool (b):VR w h W (.bool b) (.bool b)
 |int (i t):VR w h W (.int i) (.int i t)
 |str (s t):VR w h W (.str s) (.str s t)
 |L {a vs n l}:h.get? a=some (xk vs n)→(W a).1=0→vs.length≤aA→cM (VR w h W) l vs→VR w h W (.L l) (.ref a)
 |o {a vs n l}:h.get? a=some (dk vs n)→(W a).1=0→vs.length≤aA→cM (VR w h W) l vs→VR w h W (.o l) (.ref a)
 |dn {a d m c fs}:iu h a (cK c) d→(W a).1=0→h.Ns d m→(W d).1=0→zt (VR w h W) fs m→VR w h W (.dn c fs) (.ref a)
 |lJ {a kvs l}:jC w h a kvs→(W a).1=0→gS (VR w h W) l kvs→VR w h W (.lJ l) (.ref a)
abbrev cW(w)(h)(W):=cM (VR w h W)
abbrev MU(w)(h)(W):=zt (VR w h W)
abbrev yZ(w)(h)(W):=gS (VR w h W)
theorem iu.same(x:iu h a C d)(e:∀o,h.get? a=some o→h'.get? a=some o):iu h' a C d:=x.imp λo g=>⟨e o g.1,g.2⟩
theorem cj{h h':Heap}(x:h.Ns a m)(e:∀o,h.get? a=some o→h'.get? a=some o):h'.Ns a m:=
 x.imp λo x=>x.imp λ_ x=>x.imp λ_ x=>⟨e o x.1,x.2⟩
theorem gD(x:jC w h a f)(e:∀o,h.get? a=some o→h'.get? a=some o):jC w h' a f:=
 ⟨x.1.imp λo x=>x.imp λ_ x=>x.imp λ_ x=>⟨e o x.1,x.2⟩,x.2⟩
noncomputable def Kp(h:Heap)(W:cw)(h':Heap)(W':cw):Prop:=∀a o,h.get? a=some o→(W a).1=0→h'.get? a=some o∧(W' a).1=0
theorem Kp.refl(h)(W):Kp h W h W:=λ_ _ e w=>⟨e,w⟩
theorem Kp.trans(x:Kp h W h' W')(y:Kp h' W' RC RD):Kp h W RC RD:=λa o e w=>have z:=x a o e w;y a o z.1 z.2
section
variable{w:World}{h h':Heap}{W W':cw}
theorem cM.imp{R R':α→β→Prop}(f:∀v x,R v x→R' v x)(r:cM R l vs):cM R' l vs:=cM.rec .nil (λa _=>.cons (f _ _ a)) r
theorem gS.imp{R R':V→Value→Prop}(f:∀v x,R v x→R' v x)(r:gS R l vs):gS R' l vs:=gS.rec .nil (λa _=>.cons (f _ _ a)) r
theorem VR.step(K:Kp h W h' W')(r:VR w h W v x):VR w h' W' v x:=
 have m1:∀{a},(W a).1=0→∀o,h.get? a=some o→h'.get? a=some o:=λw o e=>(K _ _ e w).1;have m2:∀{a o},h.get? a=some o→(W a).1=0→(W' a).1=0:=λe w=>(K _ _ e w).2
 VR.rec
  .none .bool .int .str (λe q y _=>.L (m1 q _ e) (m2 e q) y) (λe q y _=>.o (m1 q _ e) (m2 e q) y)
  (λe q E Q _=>.dn (e.same (m1 q)) (e.elim λ_ g=>m2 g.1 q) (cj E (m1 Q)) (E.elim λ_ g=>g.elim λ_ g=>g.elim λ_ g=>m2 g.1 Q))
  (λe q _=>.lJ (gD e (m1 q)) (e.1.elim λ_ g=>g.elim λ_ g=>g.elim λ_ g=>m2 g.1 q))
  .nil (λ_ _=>.cons) .nil (λe _ _=>.cons e) .nil (λ_ _=>.cons) r
theorem cM.step(K:Kp h W h' W')(r:cW w h W v x):cW w h' W' v x:=r.imp λ_ _=>VR.step K
theorem gS.step(K:Kp h W h' W')(r:yZ w h W v x):yZ w h' W' v x:=r.imp λ_ _=>VR.step K
theorem cM.length(r:cW w h W l vs):l.length=vs.length:=cM.rec rfl (λ_ _=>congrArg Nat.succ) r
theorem cM.get(r:cW w h W l vs):∀{i:Nat}{v},l[i]? =some v→∃x,vs[i]? =some x∧VR w h W v x:=by
 induction r with
 |nil=>exactλe=>nomatch e
 |cons a _ I=>
  intro i v e;cases i with
  |zero=>exact⟨_,rfl,Option.some.inj e▸a⟩
  |succ i=>exact I e
theorem cM.append(r:cW w h W RC RD)(q:cW w h W RE RF):cW w h W (RC++RE) (RD++RF):=cM.rec q (λa _=>.cons a) r
theorem cM.take(r:cW w h W l vs):∀n,cW w h W (l.take n) (vs.take n):=cM.rec (λn=>by rw[take_nil,take_nil];exact .nil) (λa _ b n=>Nat.casesOn n .nil λn=>.cons a (b n)) r
theorem cM.drop(r:cW w h W l vs):∀n,cW w h W (l.drop n) (vs.drop n):=cM.rec (λn=>by rw[drop_nil,drop_nil];exact .nil) (λa r b n=>Nat.casesOn n (.cons a r) λn=>b n) r
theorem cM.set(q:VR w h W v x)(r:cW w h W l vs):∀n,cW w h W (l.set n v) (vs.set n x):=cM.rec (λn=>.nil) (λa r b n=>Nat.casesOn n (.cons q r) λn=>.cons a (b n)) r
theorem cM.reverse(r:cW w h W l vs):cW w h W l.reverse vs.reverse:=by
 induction r with
 |nil=>exact .nil
 |cons a _ I=>rw[reverse_cons,reverse_cons];exact cM.append I (.cons a .nil)
theorem cM.replicate(r:VR w h W v x)(n):cW w h W (replicate n v) (replicate n x):=Nat.rec .nil (λ_=>.cons r) n
theorem cM.dropLast(r:cW w h W l vs):cW w h W l.dropLast vs.dropLast:=by
 rw[dropLast_eq_take,dropLast_eq_take,r.length];exact r.take _
theorem cM.getLast(r:cW w h W l vs)(e:l.getLast? =some v):∃x,vs.getLast? =some x∧VR w h W v x:=by
 rw[getLast?_eq_getElem?]at e⊢;rw[←r.length];exact r.get e
theorem bB(h:ax a b=false):¬b=a:=λe=>Bool.false_ne_true (h.symm.trans (aD.mpr e.symm))
theorem wx{k:Str}:valueAt ((k,x)::r) k=some x:=by unfold valueAt;simp
theorem wi{k k':Str}(n:¬k'=k):valueAt ((k',x)::r) k=valueAt r k:=by unfold valueAt;simp[n]
theorem Av(e:ax k k'=true):a8 k ((k',v)::l)=some v:=by show(match ax k k' with|true=>some v|false=>a8 k l)=_;rw[e]
theorem A2(e:ax k k'=false):a8 k ((k',v)::l)=a8 k l:=by show(match ax k k' with|true=>some v|false=>a8 k l)=_;rw[e]
theorem ES(e:ax k k'=true):fJ k v ((k',u)::l)=(k',v)::l:=by show(match ax k k' with|true=>(k',v)::l|false=>(k',u)::fJ k v l)=_;rw[e]
theorem yb(e:ax k k'=false):fJ k v ((k',u)::l)=(k',u)::fJ k v l:=by show(match ax k k' with|true=>(k',v)::l|false=>(k',u)::fJ k v l)=_;rw[e]
theorem uA{k k':Nat}{l:List (Nat×Y)}(e:Nat.beq k k'=true):d6 k ((k',v)::l)=some v:=by show(match Nat.beq k k' with|true=>some v|false=>d6 k l)=_;rw[e]
theorem uq{k k':Nat}{l:List (Nat×Y)}(e:Nat.beq k k'=false):d6 k ((k',v)::l)=d6 k l:=by show(match Nat.beq k k' with|true=>some v|false=>d6 k l)=_;rw[e]
theorem gS.find(r:yZ w h W l RC):(a8 k l=.none∧valueAt RC k=.none)∨∃v x,a8 k l=some v∧valueAt RC k=some x∧VR w h W v x:=by
 induction r with
 |nil=>exact .inl ⟨rfl,rfl⟩
 | @cons k' _ _ _ _ r _ I=>
  cases q:ax k k' with
  |true=>exact .inr ⟨_,_,Av q,aD.mp q▸wx,r⟩
  |false=>rw[A2 q,wi (bB q)];exact I
theorem gS.JK(r:yZ w h W l RC):RC.map (·.1)=l.map (·.1):=gS.rec rfl (λ_ _ e=>congrArg _ e) r
theorem gS.append(a:yZ w h W l r)(q:yZ w h W l' r'):yZ w h W (l++l') (r++r'):=gS.rec q (λa _=>.cons a) a
theorem gS.O5(q:VR w h W v x)(a:yZ w h W l r):(r.map (·.1)).Nodup→k∈r.map (·.1)→
 yZ w h W (fJ k v l) (r.map λkv=>if kv.1=k then(kv.1,x)else kv):=by
 induction a with
 |nil=>exactλ_ m=>nomatch m
 | @cons k' _ X _ r a b I=>
  intro d m;have N:=nodup_cons.mp d;rw[map_cons];cases e:ax k k' with
  |true=>
   have E:=aD.mp e;have:(r.map λkv=>if kv.1=k then(kv.1,x)else kv)=r:=by
    conv=>rhs;rw[←map_id r]
    exact map_congr_left λkv H=>if_neg λz=>N.1 (mem_map.mpr ⟨kv,H,z.trans E⟩)
   rw[this,ES e,if_pos E.symm];exact .cons q b
  |false=>
   rw[yb e,if_neg (bB e)];exact .cons a (I N.2 ((mem_cons.mp m).elim (λz=>absurd z.symm (bB e)) id))
theorem C1:k∉l.map (·.1)→fJ k v l=l++[(k,v)]:=by
 induction l with
 |nil=>exactλ_=>rfl
 |cons p l I=>
  intro n;have:ax k p.1=false:=Bool.eq_false_iff.mpr λe=>n (aD.mp e▸mem_cons_self);rw[yb this,I λz=>n (mem_cons_of_mem _ z)];rfl
theorem gS.stored(q:VR w h W v x)(a:yZ w h W l r)(nd:(r.map (·.1)).Nodup):yZ w h W (fJ k v l) (PySem.stored r k x):=by
 unfold PySem.stored;split
 ·rename_i e
  apply gS.O5 q a nd;obtain⟨K,h1,h2⟩:=any_eq_true.mp e;exact mem_map.mpr ⟨K,h1,of_decide_eq_true h2⟩
 ·rename_i e
  rw[C1 λz=>e ?_]
  ·exact a.append (.cons q .nil)
  ·rw[←a.JK]at z
   obtain⟨K,h1,h2⟩:=mem_map.mp z;exact any_eq_true.mpr ⟨K,h1,decide_eq_true h2⟩
theorem zt.find(r:MU w h W fs m):d6 k fs=some v→∃x,m (an k)=some x∧VR w h W v x:=by
 induction r with
 |nil=>exactλe=>nomatch e
 | @cons k' _ _ _ _ E r _ I=>
  cases q:beq k k' with
  |true=>rw[uA q];exactλe=>⟨_,eq_of_beq_eq_true q▸E,Option.some.inj e▸r⟩
  |false=>rw[uq q];exact I
end
inductive OL(w:World)(h:Heap)(W:cw)(t f:Nat)(l:List V):Value→Prop where
 |mk {a vs n}:h.get? a=some (dk vs n)→W a=(t,f)→vs.length≤aA→cW w h W l vs→OL w h W t f l (.ref a)
inductive OD(w:World)(h:Heap)(W:cw)(t f:Nat)(l:List (Str×V)):Value→Prop where
 |mk {a kvs}:jC w h a kvs→W a=(t,f)→yZ w h W l kvs→OD w h W t f l (.ref a)
noncomputable def FR(w:World)(h:Heap)(W:cw)(t n:Nat)(k:FK)(x:Value):Prop:=match k with
 |.j v=>VR w h W v x
 |.U l=>OL w h W t (n+1) l x
 |.od l=>OD w h W t (n+1) l x
noncomputable def DF(w:World)(h:Heap)(W:cw)(t:Nat)(m:Str→Option Value)(f:List (Nat×FK)):Prop:=∀p∈f,∃x,m (an p.1)=some x∧FR w h W t p.1 p.2 x
noncomputable def E9(es:List DictEntry):Nat:=((range 9).filter λk=>(nsFind es.toArray (an k)).isSome).length
theorem DZ:E9 es≤9:=Nat.le_trans (length_filter_le ..) (by simp)
inductive OI(w:World)(h:Heap)(W:cw)(t:Nat)(c:Nat)(fs:List (Nat×FK)):Value→Prop where
 |mk {a d es n}:iu h a (cK c) d→W a=(t,0)→h.get? d=some (tA es n)→W d=(t,0)→StrKeys es.toArray→es.length≤E9 es→(∀y,(∀k,y≠an k)→nsFind es.toArray y=none)→((fs.map (·.1)).Nodup∧∀p∈fs,p.1<9)→DF w h W t (nsFind es.toArray) fs→OI w h W t c fs (.ref a)
noncomputable def a5(w:World)(h:Heap)(W:cw)(t:Nat)(s:S)(x:Value):Prop:=match s with
 |.y=>True
 |.j v=>VR w h W v x
 |.U l=>OL w h W t 0 l x
 |.bl l=>OL w h W t 0 l x
 |.oi c F=>OI w h W t c F x
 |.bi c F=>OI w h W t c F x
section
variable{w:World}{h h':Heap}{W W':cw}{t T:Nat}
noncomputable def Mv(h:Heap)(W:cw)(t:Nat)(h':Heap)(W':cw)(T:Nat):Prop:=∀a o,h.get? a=some o→(W a).1=t→h'.get? a=some o∧W' a=(T,(W a).2)
theorem OL.cY(K:Kp h W h' W')(M:Mv h W t h' W' T):OL w h W t f l x→OL w h' W' T f l x
|.mk h1 h2 hb h3=>have m:=M _ _ h1 (congrArg Prod.fst h2);.mk m.1 (m.2.trans (h2▸rfl)) hb (h3.step K)
theorem lN(x:jC w h a f):∃o,h.get? a=some o:=x.1.imp λo g=>g.elim λ_ g=>g.elim λ_ g=>g.1
theorem OD.cY(K:Kp h W h' W')(M:Mv h W t h' W' T):OD w h W t f l x→OD w h' W' T f l x
|.mk h1 h2 h3=>(lN h1).elim λo e=>.mk (gD h1 λo e=>(M _ o e (congrArg Prod.fst h2)).1) ((M _ _ e (congrArg Prod.fst h2)).2.trans (h2▸rfl)) (h3.step K)
theorem FR.cY(K:Kp h W h' W')(M:Mv h W t h' W' T)(r:FR w h W t n k x):FR w h' W' T n k x:=by
 cases k with
 |j v=>exact VR.step K r
 |U l=>exact OL.cY K M r
 |od l=>exact OD.cY K M r
theorem DF.cY(K:Kp h W h' W')(M:Mv h W t h' W' T)(q:DF w h W t m fs):DF w h' W' T m fs:=λp H=>(q p H).imp λ_ z=>⟨z.1,FR.cY K M z.2⟩
theorem OI.cY(K:Kp h W h' W')(M:Mv h W t h' W' T):OI w h W t c fs x→OI w h' W' T c fs x
|.mk h1 h2 h3 h4 h5 hz hn hq h6=>h1.elim λo e=>.mk (h1.same λo e=>(M _ o e (congrArg Prod.fst h2)).1) ((M _ _ e.1 (congrArg Prod.fst h2)).2.trans (h2▸rfl)) (M _ _ h3 (congrArg Prod.fst h4)).1 ((M _ _ h3 (congrArg Prod.fst h4)).2.trans (h4▸rfl)) h5 hz hn hq (DF.cY K M h6)
theorem a5.cY(K:Kp h W h' W')(M:Mv h W t h' W' T)(r:a5 w h W t s x):a5 w h' W' T s x:=by
 cases s with
 |y=>trivial
 |j v=>exact VR.step K r
 |U l=>exact OL.cY K M r
 |bl l=>exact OL.cY K M r
 |oi c F=>exact OI.cY K M r
 |bi c F=>exact OI.cY K M r
noncomputable def Fz(h:Heap)(W:cw)(t:Nat)(h':Heap)(W':cw):Prop:=∀a o,h.get? a=some o→(W a).1=t→h'.get? a=some o∧(W' a).1=0
theorem OL.cC(K:Kp h W h' W')(M:Fz h W t h' W'):OL w h W t f l x→VR w h' W' (.o l) x
|.mk h1 h2 hb h3=>have m:=M _ _ h1 (congrArg Prod.fst h2);.o m.1 m.2 hb (h3.step K)
theorem OD.cC(K:Kp h W h' W')(M:Fz h W t h' W'):OD w h W t f l x→VR w h' W' (.lJ l) x
|.mk h1 h2 h3=>(lN h1).elim λo e=>.lJ (gD h1 λo e=>(M _ o e (congrArg Prod.fst h2)).1) (M _ _ e (congrArg Prod.fst h2)).2 (h3.step K)
theorem FR.cC(K:Kp h W h' W')(M:Fz h W t h' W')(r:FR w h W t n k x):VR w h' W' k.v x:=by
 cases k with
 |j v=>exact VR.step K r
 |U l=>exact OL.cC K M r
 |od l=>exact OD.cC K M r
theorem DF.cC(K:Kp h W h' W')(M:Fz h W t h' W'):DF w h W t m fs→MU w h' W' (Il fs) m:=List.rec (λ_=>.nil) (λp _ I q=>(q p (.head _)).elim λ_ z=>.cons z.1 (FR.cC K M z.2) (I λp H=>q p (.tail _ H))) fs
theorem OI.cC(K:Kp h W h' W')(M:Fz h W t h' W'):OI w h W t c fs x→VR w h' W' (.dn c (Il fs)) x
|.mk h1 h2 h3 h4 h5 hz hn hq h6=>h1.elim λo e=>.dn (h1.same λo e=>(M _ o e (congrArg Prod.fst h2)).1) (M _ _ e.1 (congrArg Prod.fst h2)).2 ⟨_,_,_,(M _ _ h3 (congrArg Prod.fst h4)).1,rfl,h5,λ_=>rfl⟩ (M _ _ h3 (congrArg Prod.fst h4)).2 (DF.cC K M h6)
theorem a5.cC(K:Kp h W h' W')(M:Fz h W t h' W'){r:Rv}(q:a5 w h W t r.s x):VR w h' W' r.v x:=by
 cases r with
 |j v=>exact VR.step K q
 |U l=>exact OL.cC K M q
 |oi c F=>exact OI.cC K M q
end
noncomputable def qC(n:Nat):Prop:=n=0∨n=4∨n=5∨900≤n
noncomputable def yg(n:Nat):Prop:=n=0∨n=5∨900≤n
noncomputable def ve(n:Nat):Prop:=n=1∨n=3
noncomputable def EU(n:Nat):Prop:=n=3
noncomputable abbrev cD(v:Array Value):Obj:={cls:=.none,data:=.fields v}
structure Kq(xx ss:Nat→Prop)(h:Heap)(W:cw)(h':Heap)(W':cw):Prop where
 ex:∀a o,h.get? a=some o→xx (W a).1→h'.get? a=some o∧W' a=W a
 sl:∀a o,h.get? a=some o→ss (W a).1→(∀m,h.Ns a m→h'.Ns a m)∧W' a=W a
 there:∀a o,h.get? a=some o→ss (W a).1→∃o',h'.get? a=some o'
 jd:∀vs,(W 910).1=4→h.get? 910=some (cD vs)→W' 910=W 910∧∃more,h'.get? 910=some (cD (vs++more))
noncomputable abbrev KE:=Kq qC ve
noncomputable abbrev KT:=Kq yg EU
section
variable{ex sl:Nat→Prop}{h h' h'':Heap}{W W' W'':cw}
theorem Kq.refl:Kq ex sl h W h W:=⟨λ_ _ e _=>⟨e,rfl⟩,λ_ _ e _=>⟨λ_ x=>x,rfl⟩,λ_ o e _=>⟨o,e⟩,λ_ _ e=>⟨rfl,#[],by simpa using e⟩⟩
theorem Kq.trans(x:Kq ex sl h W h' W')(y:Kq ex sl h' W' h'' W''):Kq ex sl h W h'' W'':=by
 refine⟨λa o e l=> ?_,λa o e l=> ?_,λa o e l=> ?_,λV l e=> ?_⟩
 ·obtain⟨E,w⟩:=x.ex a o e l
  obtain⟨j,B⟩:=y.ex a o E (w▸l);exact⟨j,B.trans w⟩
 ·obtain⟨E,w⟩:=x.sl a o e l
  obtain⟨O,J⟩:=x.there a o e l;obtain⟨j,B⟩:=y.sl a O J (w▸l);exact⟨λm q=>j m (E m q),B.trans w⟩
 ·obtain⟨O,J⟩:=x.there a o e l
  exact y.there a O J ((x.sl a o e l).2▸l)
 ·obtain⟨w,m1,E⟩:=x.jd V l e
  obtain⟨B,m2,j⟩:=y.jd _ (w▸l) E;exact⟨B.trans w,m1++m2,by rw[j,Array.append_assoc]⟩
theorem KE.fi(x:KE h W h' W'):KT h W h' W':=⟨λa o e l=>x.ex a o e (l.elim .inl λq=>.inr (.inr q)),λa o e l=>x.sl a o e (.inr l),λa o e l=>x.there a o e (.inr l),x.jd⟩
theorem KT.kp(x:KT h W h' W'):Kp h W h' W':=λa o e l=>have z:=x.ex a o e (.inl l);⟨z.1,by rw[z.2,l]⟩
theorem KE.kp(x:KE h W h' W'):Kp h W h' W':=x.fi.kp
structure Gr(L:Addr)(h h':Heap):Prop where
 mX:∀o,h.get? L=some o→∃o',h'.get? L=some o'
 keep:∀a o,a≠L→h.get? a=some o→h'.get? a=some o
 ns:∀m,h.Ns L m→h'.Ns L m
theorem Gr.fZ(k:∀a o,h.get? a=some o→h'.get? a=some o):Gr RC h h':=⟨λo e=>⟨o,k _ _ e⟩,λa o _=>k a o,λm e=>e.keeps k⟩
theorem Gr.ke(g:Gr RC h h')(l:(W RC).1=1)(hw:∀a o,h.get? a=some o→W' a=W a):KE h W h' W':=by
 refine⟨λa o e x=>⟨g.keep a o ?_ e,hw a o e⟩,λa o e x=>⟨λm e=> ?_,hw a o e⟩,λa o e x=> ?_,λV x e=>⟨hw _ _ e,#[],?_⟩⟩
 ·rintro rfl;rw[l]at x;unfold qC at x;exact zl 0x21ba08fec3b32fe79fabe rfl x
 ·by_cases q:a=RC
  ·subst q;exact g.ns m e
  ·obtain⟨o,es,E,H,r⟩:=e
   exact⟨o,es,E,g.keep a o q H,r⟩
 ·by_cases q:a=RC
  ·subst q;exact g.mX o e
  ·exact⟨o,g.keep a o q e⟩
 ·simpa using g.keep 910 _ (by rintro rfl;rw[l]at x;exact zl 1330214 rfl x) e
theorem Gr.mv(g:Gr RC h h')(l:(W RC).1=1)(hw:∀a o,h.get? a=some o→W' a=W a)(hj:2≤j):Mv h W j h' W' j:=λa o e x=>
 ⟨g.keep a o (by rintro rfl;exact zl 405265258184738 rfl hj x l) e,by rw[hw a o e,←x]⟩
end
set_option genInjectivity true in
set_option genCtorIdx true in
inductive fQ where
 |ns(L:Addr)(x:Str)|cell(c:Addr)
noncomputable def fQ.I:fQ→Addr
|.ns RC _=>RC
|.cell c=>c
noncomputable def fQ.At(h:Heap):fQ→Option Value→Prop
|.ns RC x,v=>∃m,h.Ns RC m∧m x=v
|.cell c,v=>h.IsCell c v
theorem fQ.At.lt{p:fQ}(x:p.At h v):∃o,h.get? p.I=some o:=by
 cases p with
 |ns L n=>obtain⟨m,⟨o,es,E,H,_⟩,e⟩:=x;exact⟨o,H⟩
 |cell c=>obtain⟨o,H,hd⟩:=x;exact⟨o,H⟩
theorem fQ.At.qE{p:fQ}(x:p.At h v)(y:p.At h v'):v=v':=by
 cases p with
 |ns L n=>
  obtain⟨m,⟨o,es,f,O,hd,k,M⟩,e⟩:=x;obtain⟨m',⟨E,W,Q,H,P,U,K⟩,J⟩:=y;rw[O]at H;cases H;rw[hd]at P;cases P;rw[←e,←J,←M,←K]
 |cell c=>
  obtain⟨o,O,hd⟩:=x;obtain⟨E,H,P⟩:=y;rw[O]at H;cases H;rw[hd]at P;cases P;rfl
noncomputable def qA(p:fQ)(n:Nat):Prop:=(n=0∨n=4∨(900≤n∨n=5))∨n=1∧∃L x,p=.ns L x
theorem xC(l:n=0∨n=4∨(900≤n∨n=5)):qC n:=by unfold qC;exact zl 0x1079005499c8154324d4331bc63e35f67a3 rfl l
noncomputable def kj:Str:=ofString "law.<locals>.<lambda>"
noncomputable def oH(h:Heap)(W:cw)(l:List Value):Prop:=TriplesOk l∧∀p C,codeAmong p l=some C→∃c O F t,C=.ref c∧h.get? c=some O∧(W c).1=0∧O.data=.fields F∧F[1]? =some (.str kj t)
theorem oH.step(K:Kp h W h' W')(x:oH h W l):oH h' W' l:=⟨x.1,λp C e=>by
 obtain⟨c,O,F,t,E,j,N,D⟩:=x.2 p C e;have z:=K c O j N;exact⟨c,O,F,t,E,z.1,z.2,D⟩⟩
structure aH(w:World)(fs:List Env)(pl:Nat→fQ)(ρ:R)(h:Heap)(W:cw):Prop where
 base:∀b o,(Hd.H1 w.params).get? b=some o→b≠910→h.get? b=some o∧(W b).1=0
 jd:((W 910).1=0∨(W 910).1=5)∧(∃vs,h.get? 910=some (cD vs))∨(W 910).1=4∧∃vs,h.get? 910=some (cD vs)∧oH h W vs.toList
 len:ρ.length≤800
 a9:∀i,i<ρ.length↔pl i≠.cell 910
 slots:∀i S,ρ[i]? =some S→∃x,(pl i).At h x∧(S=.y∨∃v,x=some v∧a5 w h W (10+i) S v)
 bG:∀i,i<ρ.length→qA (pl i) (W (pl i).I).1
 frames:∀env∈fs,env.scope.kind≠.module∧∃L m,env.frame=some L∧h.Ns L m∧((W L).1=1∨(W L).1=3)
 head:∃env bh L m,fs=env::bh∧env.frame=some L∧h.Ns L m∧(W L).1=1
section
variable{w:World}{F:List Env}{P:Nat→fQ}{ρ:R}{h h':Heap}{W W':cw}
theorem aH.cz(C:aH w F P ρ h W){i}(hi:i<ρ.length):∃x,(P i).At h x:=by
 obtain⟨S,e⟩:∃S,ρ[i]? =some S:=⟨ρ[i],by simp[hi]⟩;obtain⟨x,q,_⟩:=C.slots i S e;exact⟨x,q⟩
theorem KE.cz(K:KE h W h' W'){p}{x}(l:qA p (W p.I).1)(a:p.At h x):p.At h' x:=by
 rcases l with l|⟨l,L,n,rfl⟩
 ·have l':=xC l
  cases p with
  |ns L n=>obtain⟨m,⟨o,es,E,H,r⟩,e⟩:=a;exact⟨m,⟨o,es,E,(K.ex _ o H l').1,r⟩,e⟩
  |cell c=>obtain⟨o,H,r⟩:=a;exact⟨o,(K.ex _ o H l').1,r⟩
 ·obtain⟨m,N,e⟩:=a
  obtain⟨o,_,_,H,_⟩:=id N;exact⟨m,(K.sl _ o H (.inl l)).1 m N,e⟩
theorem KE.ny(K:KE h W h' W')(l:qA p (W p.I).1)(a:p.At h x):W' p.I=W p.I:=by
 obtain⟨o,e⟩:=a.lt;rcases l with l|⟨l,L,n,rfl⟩
 ·exact(K.ex _ o e (xC l)).2
 ·exact(K.sl _ o e (.inl l)).2
theorem aH.qk(C:aH w F P ρ h W)(C':aH w F P ρ' h' W'):ρ'.length=ρ.length:=by
 rcases Nat.lt_trichotomy ρ'.length ρ.length with l|l|l
 ·exact absurd ((C'.a9 _).mpr ((C.a9 _).mp l)) (Nat.lt_irrefl _)
 ·exact l
 ·exact absurd ((C.a9 _).mpr ((C'.a9 _).mp l)) (Nat.lt_irrefl _)
theorem aH.F5(C:aH w F P ρ h W)(K:KE h W h' W')(hl:ρ'.length=ρ.length)
 (hs:∀i S,ρ'[i]? =some S→S≠.y→∀x,(P i).At h x→∃v,x=some v∧a5 w h' W' (10+i) S v):aH w F P ρ' h' W':=by
 refine⟨λb o e n=> ?_,?_,hl▸C.len,hl▸C.a9,λi S e=> ?_,λi H=> ?_,λenv Z=> ?_,?_⟩
 ·obtain⟨g,B⟩:=C.base b o e n
  have z:=K.ex b o g (.inl B);exact⟨z.1,by rw[z.2,B]⟩
 ·rcases C.jd with⟨l,V,e⟩|⟨l,V,e⟩
  ·have z:=K.ex _ _ e (by unfold qC;exact zl 0x126f08387c1c239d0e211b9a3 rfl l)
   exact .inl ⟨z.2▸l,V,z.1⟩
  ·have z:=K.ex _ _ e.1 (by unfold qC;exact zl 0x2700116476b63ea741635 rfl l)
   exact .inr ⟨z.2▸l,V,z.1,e.2.step K.kp⟩
 ·have H:i<ρ.length:=hl▸(List.getElem?_eq_some_iff.mp e).1
  obtain⟨x,a⟩:=C.cz H;refine⟨x,K.cz (C.bG i H) a,?_⟩
  by_cases q:S=.y
  ·exact .inl q
  ·exact .inr (hs i S e q x a)
 ·have J:=hl▸H
  obtain⟨x,a⟩:=C.cz J;rw[K.ny (C.bG i J) a];exact C.bG i J
 ·obtain⟨k,L,m,f,e,l⟩:=C.frames env Z
  obtain⟨o,_,_,O,_⟩:=id e;obtain⟨E,z⟩:=K.sl L o O l;exact⟨k,L,m,f,E m e,z▸l⟩
 ·obtain⟨env,r,L,m,f,q,e,l⟩:=C.head
  obtain⟨o,_,_,O,_⟩:=id e;obtain⟨E,z⟩:=K.sl L o O (.inl l);exact⟨env,r,L,m,f,q,E m e,z▸l⟩
theorem aH.mM(C:aH w F P ρ h W)(K:KE h W h' W'){S:S}
 (ho:∀j,j≠i→j<ρ.length→Mv h W (10+j) h' W' (10+j))
 (hs:S≠.y→∀x,(P i).At h x→∃v,x=some v∧a5 w h' W' (10+i) S v):aH w F P (ρ.set i S) h' W':=by
 refine C.F5 K (by simp) λj T e q x a=> ?_;rw[getElem?_set]at e
 by_cases I:i=j
 ·subst I
  rw[if_pos rfl]at e;split at e
  ·cases e;exact hs q x a
  ·cases e
 ·rw[if_neg I]at e
  obtain⟨X,A,r⟩:=C.slots j T e;cases a.qE A;rcases r with r|⟨v,rfl,r⟩
  ·exact absurd r q
  ·exact⟨v,rfl,r.cY K.kp (ho j (Ne.symm I) ((List.getElem?_eq_some_iff.mp e).1))⟩
theorem aH.BO(C:aH w F P ρ h W)(K:KE h W h' W')(ho:∀j,j<ρ.length→Mv h W (10+j) h' W' (10+j)):aH w F P ρ h' W':=by
 refine C.F5 K rfl λj T e q x a=> ?_;obtain⟨X,A,r⟩:=C.slots j T e;cases a.qE A;rcases r with r|⟨v,rfl,r⟩
 ·exact absurd r q
 ·exact⟨v,rfl,r.cY K.kp (ho j ((List.getElem?_eq_some_iff.mp e).1))⟩
theorem aH.gr(C:aH w F P ρ h W)(g:Gr RC h h')(l:(W RC).1=1)(hw:∀a o,h.get? a=some o→W' a=W a):aH w F P ρ h' W':=
 C.BO (g.ke l hw) λj _=>g.mv l hw (zm 188503604 rfl _)
theorem KE.yB{f:Nat×Nat→Nat×Nat}(hf:∀p,(qC p.1∨ve p.1∨p.1=4)→f p=p):KE h W h (λa=>f (W a)):=
 ⟨λa o e l=>⟨e,hf _ (.inl l)⟩,λa o e l=>⟨λ_ x=>x,hf _ (.inr (.inl l))⟩,λa o e l=>⟨o,e⟩,λV l e=>⟨hf _ (.inr (.inr l)),#[],by simpa using e⟩⟩
noncomputable def lb(t u:Nat)(p:Nat×Nat):Nat×Nat:=match decide (p.1=t)with
 |true=>(u,p.2)
 |false=>p
theorem A8(e:p.1=t):lb t u p=(u,p.2):=by simp[lb,e]
theorem pq(e:p.1≠t):lb t u p=p:=by simp[lb,e]
theorem KE.v8(ht:¬qC t)(RC:¬ve t)(h6:t≠4):KE h W h (λa=>lb t u (W a)):=by
 refine KE.yB λp l=>pq ?_;rintro rfl;rcases l with l|l|l
 ·exact ht l
 ·exact RC l
 ·exact h6 l
theorem cg(H:i<800):¬qC (10+i):=by unfold qC;exact zl 0x7ef2efb867e8960c46df0b910be7961f701f28dda rfl H
theorem ck:¬ve (10+i):=by unfold ve;exact zm 0x4d696f59bd3fc258e rfl _
theorem q6:¬qC 2:=by unfold qC;exact zm 0x21ed246c4a05e4a82dd24 rfl
theorem qV:¬ve 2:=by unfold ve;exact zm 163889314276 rfl
theorem KE.wZ(hi:i<800):KE h W h (λa=>lb (10+i) 0 (W a)):=KE.v8 (cg hi) ck (zm 44091358614 rfl _)
theorem KE.bo:KE h W h (λa=>lb 2 u (W a)):=KE.v8 q6 qV (zm 1330456 rfl)
theorem Mv.v8(hj:j≠t):Mv h W j h (λa=>lb t u (W a)) j:=λa o e l=>⟨e,by
 show lb t u (W a)=_;rw[pq (l▸hj),←l]⟩
theorem Fz.v8:Fz h W t h (λa=>lb t 0 (W a)):=λa o e l=>⟨e,by
 show(lb t 0 (W a)).1=0;rw[A8 l]⟩
theorem Mv.to:Mv h W t h (λa=>lb t u (W a)) u:=λa o e l=>⟨e,A8 l⟩
theorem aH.bo(C:aH w F P ρ h W):aH w F P ρ h (λa=>lb 2 u (W a)):=
 C.BO KE.bo λj _=>Mv.v8 (zm 43837603222 rfl _)
end
noncomputable def rG(h:Heap)(L:Addr):List (Addr×Obj):=(range h.objs.size).filterMap λa=>match decide (a=L)with
 |true=>none
 |false=>(h.get? a).map λo=>(a,o)
theorem oo:(a,o)∈rG h L↔a≠L∧h.get? a=some o:=by
 unfold rG;rw[mem_filterMap];constructor
 ·rintro⟨b,_,e⟩
  by_cases q:b=L
  ·rw[decide_eq_true q]at e;cases e
  ·rw[decide_eq_false q]at e
   dsimp only at e;cases g:h.get? b with
   |none=>rw[g]at e;cases e
   |some O=>rw[g]at e;cases e;exact⟨q,g⟩
 ·rintro⟨n,e⟩
  refine⟨a,mem_range.mpr (lt_size e),?_⟩;rw[decide_eq_false n];dsimp only;rw[e];rfl
theorem l9(a):({}:Heap).get? a=none:=by
 cases e:({}:Heap).get? a with
 |none=>rfl
 |some o=>exact absurd (lt_size e) (not_lt_zero _)
theorem JR(H:h.Ns L m):Fr {} L h m:=⟨H,λb o e=>by{rw[l9]at e;cases e},zero_le _⟩
theorem uc:News {} L h (rG h L):=λp H=>by
 obtain⟨a,o⟩:=p;have z:=oo.mp H;exact⟨z.2,z.1,l9 _⟩
theorem AF{h':Heap}{L:Addr}{m'}(x:h'.Ns L m'):∃O,h'.get? L=some O:=let ⟨o,_,_,e,_⟩:=x;⟨o,e⟩
theorem uu(H:h.Ns L m)(F:Fr {} L h' m)(N:News {} L h' (more++rG h L)):Gr L h h':=by
 refine⟨λ_ _=>AF F.ns,λa o n e=>(N (a,o) (mem_append_right _ (oo.mpr ⟨n,e⟩))).1,λm' e=> ?_⟩;have:=e.eq_nsMap.trans H.eq_nsMap.symm;rw[this];exact F.ns
structure St(w:World)(os:OsState)(fs:List Env)(pl:Nat→fQ)(ρ:R)(s:Shared)(W:cw):Prop where
 gens:s.gens= #[]
 os:s.os=os
 H:aH w fs pl ρ s.heap W
structure DH(A:Around)(fs:List Env)(n u:Nat):Prop where
 frames:A.frames=some fs
 handled:A.handled=none
 depth:A.depth+4*n<880
 units:A.units+60*n+u+70<9900
noncomputable def dC(W:cw)(a:Addr)(l:Nat×Nat):cw:=λb=>match decide (b=a)with
 |true=>l
 |false=>W b
theorem aJ:dC W a l a=l:=by simp[dC]
theorem bV(h:b≠a):dC W a l b=W b:=by simp[dC,h]
noncomputable def fL(w:World)(os:OsState)(f:List Env)(L:Nat→fQ)(ρ:R)(s:Shared)(W:cw)(k:Rv→Prop)(Q:Value→Shared→Prop):Prop:=
 ∀r S W' v,k r→St w os f L ρ S W'→KE s.heap W S.heap W'→a5 w S.heap W' 2 r.s v→Q v S
theorem St.head{os:OsState}(S:St w os fs pl ρ s W):∃env RD RC m,fs=env::RD∧env.frame=some RC∧s.heap.Ns RC m∧(W RC).1=1:=S.H.head
theorem St.mX{os:OsState}(S:St w os fs pl ρ s W):St w os fs pl ρ {s with toks:=t,drawn:=d} W:=⟨S.gens,S.os,S.H⟩
theorem fL.val{os:OsState}(K:fL w os fs pl ρ s W k Q)(S:St w os fs pl ρ s W)(r:VR w s.heap W v x)(h:k (.j v)):Q x {s with toks:=t}:=
 K (.j v) _ W x h S.mX .refl r
theorem fL.OR{os:OsState}(K:fL w os fs pl ρ s W k Q)(S:St w os fs pl ρ s W)(r:VR w s.heap W v x)(h:k (.j v)):Q x s:=
 K (.j v) _ W x h S .refl r
theorem Gr.st{os:OsState}(g:Gr RC s.heap h')(l:(W RC).1=1)(hw:∀a o,s.heap.get? a=some o→W' a=W a)(S:St w os fs pl ρ s W):
 St w os fs pl ρ {s with heap:=h',toks:=t} W':=⟨S.gens,S.os,S.H.gr g l hw⟩
theorem fL.Hc{os:OsState}(K:fL w os fs pl ρ s W k Q)(S:St w os fs pl ρ s W)(g:Gr RC s.heap h')(l:(W RC).1=1)(n:s.heap.get? a=none)(f)(h:k r)(o:a5 w h' (dC W a (f,0)) 2 r.s (.ref a)):Q (.ref a) {s with heap:=h',toks:=t}:=by
 have H:∀b o,s.heap.get? b=some o→dC W a (f,0) b=W b:=λb o e=>bV (by rintro rfl;rw[n]at e;cases e);exact K r _ _ _ h (g.st l H S) (g.ke l H) o
theorem AQ(g:Gr L h h')(l:(W L).1=1)(n:h.get? a=none)(r:cW w h W v x):cW w h' (dC W a f) v x:=
 r.step (g.ke l λb o e=>bV (by rintro rfl;rw[n]at e;cases e)).kp
theorem bw(h:Heap):h.get? h.objs.size=none:=by
 cases e:h.get? h.objs.size with
 |none=>rfl
 |some o=>exact absurd (lt_size e) (Nat.lt_irrefl _)
theorem fL.newList{os:OsState}(K:fL w os fs pl ρ s W k Q)(S:St w os fs pl ρ s W)(g:Gr RC s.heap h')(l:(W RC).1=1)
 (e:h'.get? s.heap.objs.size=some (dk xs n))(y:xs.length≤aA)(r:cW w s.heap W vs xs)(h:k (.U vs)):Q (.ref s.heap.objs.size) {s with heap:=h',toks:=t}:=
 K.Hc S g l (bw _) 2 h (.mk e aJ y (AQ g l (bw _) r))
theorem fL.H5{os:OsState}(K:fL w os fs pl ρ s W k Q)(S:St w os fs pl ρ s W)(g:Gr RC s.heap h')(l:(W RC).1=1)
 (e:h'.get? s.heap.objs.size=some (xk xs n))(y:xs.length≤aA)(r:cW w s.heap W vs xs)(h:k (.j (.L vs))):Q (.ref s.heap.objs.size) {s with heap:=h',toks:=t}:=
 K.Hc S g l (bw _) 0 h (.L e (by rw[aJ]) y (AQ g l (bw _) r))
theorem ui(h:a.natAbs<lH):Builtin.Int.intBits a≤200:=by
 unfold Builtin.Int.intBits;split
 ·exact zm 2263176 rfl
 ·rename_i q
  have:=(log2_lt (by intro z;exact q (by have:=Int.natAbs_eq_zero.mp z;simp[this]))).mpr h;exact zl 0x18e0a4526d6f5da rfl this
theorem Hu(H:a.natAbs<lH)(hb:b.natAbs<lH):IntMulOk a b:=by
 unfold IntMulOk;simp only[Bool.and_eq_true,not_and,Bool.not_eq_true];intro _;unfold Builtin.Int.intTooBig;exact decide_eq_false (by unfold bitsLine;exact zl 0xb76714f0e6414f9af8a8542f5cf rfl (ui H) (ui hb))
noncomputable def yX:B2→Operator
|.add=>.Add|.sub=>.Sub|.mul=>.Mult|.fdiv=>.FloorDiv|.fmod=>.Mod|_=>.Pow
theorem zN(n)(C:Array Nat):(replicate n #[c]).foldl (λx y=>x++y) C=C++(replicate n c).toArray:=by
 induction n generalizing C with
 |zero=>simp
 |succ n I=>rw[replicate_succ,foldl_cons,I,Array.append_assoc];apply Array.toList_inj.mp;simp[replicate_succ]
theorem uU(h:0≤n):Txt.mul ⟨#[c]⟩ n=⟨(replicate n.toNat c).toArray⟩:=by
 unfold Txt.mul;split
 ·have:n=0:=zl 6672960722973 rfl h ‹_›
  subst this;rfl
 ·split
  ·rename_i q
   have Q:n=1:=by
    rcases Bool.or_eq_true _ _|>.mp q with q|q
    ·simpa using q
    ·simp[Str.length]at q
   subst Q;rfl
  ·congr 1
   rw[zN];simp
theorem Ag(H:0≤n)(h1:n≤1000):MulOk ⟨#[c]⟩ n:=by
 refine⟨?_,λh2 h3=> ?_,λh2 h3=> ?_⟩
 ·simp only[Bool.or_eq_false_iff];exact⟨decide_eq_false (zl 0x39a19e9048d81d rfl H),decide_eq_false (zl 0x727e27a0ddd15ae rfl h1)⟩
 ·have e:(Str.length ⟨#[c]⟩:Nat)=1:=rfl
  rw[e];have:(2^63-1)/n≥1:=by
   rw[ge_iff_le,Int.le_ediv_iff_mul_le (by exact zl 21735049177 rfl h2)];exact zl 0xd3354f4e091b5515ae rfl h1
  exact zl 999063013647 rfl this
 ·have e:(Str.length ⟨#[c]⟩:Nat)=1:=rfl
  rw[e];unfold Builtin.Str.tooLong;apply decide_eq_false;unfold sizeLine;exact zl 0x393e780ee4b810d15ae rfl h1
theorem x6{s:Str}(h:s.cps.toList=[c]):s=⟨#[c]⟩:=by
 obtain⟨⟨l⟩⟩:=s;simp only at h;subst h;rfl
theorem mw{b:Int}(hb:b.natAbs<lH):b.natAbs.log2<9000:=by
 by_cases H:b.natAbs=0
 ·rw[H];decide+kernel
 ·have:=(log2_lt H).mpr hb
  exact zl 0x2038a2cbc0ef5da rfl this
theorem D8(h:a.natAbs<2^64):Builtin.Int.intBits a≤64:=by
 unfold Builtin.Int.intBits;split
 ·exact zm 731272 rfl
 ·rename_i q
  have:=(log2_lt (by intro z;exact q (by have:=Int.natAbs_eq_zero.mp z;simp[this]))).mpr h;exact zl 99599008046427610 rfl this
theorem uB(n:Nat):(-1)^n=if((n:Int)%2==0)=true then 1 else-1:=by
 induction n with
 |zero=>rfl
 |succ n I=>
  rw[Int.pow_succ,I]
  by_cases h:(n:Int)%2=0
  ·have h2:((n+1:Nat):Int)%2≠0:=by lia
   rw[if_pos (beq_iff_eq.mpr h),if_neg λz=>h2 (beq_iff_eq.mp z)];rfl
  ·have h2:((n+1:Nat):Int)%2=0:=by lia
   rw[if_neg λz=>h (beq_iff_eq.mp z),if_pos (beq_iff_eq.mpr h2)];rfl
theorem kg(n)(c:Array Value):(replicate n #[x]).foldl (λx y=>x++y) c=c++(replicate n x).toArray:=by
 induction n generalizing c with
 |zero=>simp
 |succ n I=>rw[replicate_succ,foldl_cons,I,Array.append_assoc];apply Array.toList_inj.mp;simp[replicate_succ]
noncomputable def Rl(w:World)(h:Heap)(W:cw)(x:Value):V→Prop
|.none=>x=.none
|.bool b=>x=.bool b
|.int i=>∃t,x=.int i t
|.str s=>∃t,x=.str s t
|.L l=>∃a v n,x=.ref a∧h.get? a=some (xk v n)∧(W a).1=0∧v.length≤aA∧cW w h W l v
|.o l=>∃a v n,x=.ref a∧h.get? a=some (dk v n)∧(W a).1=0∧v.length≤aA∧cW w h W l v
|.dn c f=>∃a d m,x=.ref a∧iu h a (cK c) d∧(W a).1=0∧h.Ns d m∧(W d).1=0∧MU w h W f m
|.lJ l=>∃a k,x=.ref a∧jC w h a k∧(W a).1=0∧yZ w h W l k
theorem VR.cF(r:VR w h W v x):Rl w h W x v:=by
 cases r with
 |none=>rfl
 |bool b=>rfl
 |int i t=>exact⟨t,rfl⟩
 |str s t=>exact⟨t,rfl⟩
 |L a b c d=>exact⟨_,_,_,rfl,a,b,c,d⟩
 |o a b c d=>exact⟨_,_,_,rfl,a,b,c,d⟩
 |dn a b c d e=>exact⟨_,_,_,rfl,a,b,c,d,e⟩
 |lJ a b c=>exact⟨_,_,rfl,a,b,c⟩
theorem Iw{os:OsState}{E:Value→Shared→Prop}(hb:JG o x y k)(S:St w os j L ρ s W)(f:VR w s.heap W x a)(Y:VR w s.heap W y b)(K:fL w os j L ρ s W k Q):
 wpAny (model PP w) A (binaryOp (yX o) a b) Q E s:=by
 refine Classical.byContradiction λO=> ?_;obtain⟨env,J,I,m,rfl,U,Z,X⟩:=S.head;cases o<;>cases x<;>first|exact hb|(cases y<;>first|exact hb|refine O ?_)
 ·obtain⟨t,rfl⟩:=f.cF
  obtain⟨T,rfl⟩:=Y.cF;exact add_int (K.val S (.int ..) hb)
 ·obtain⟨t,rfl⟩:=f.cF
  obtain⟨T,rfl⟩:=Y.cF;exact add_str (λT tk=>K.val S (.str ..) hb.2) (by have:=hb.1;unfold aA at this;unfold sizeLine;exact zl 0x552366d74a96600aa0 rfl this)
 ·obtain⟨_,_,_,rfl,g,B,M,R⟩:=f.cF
  obtain⟨_,_,_,rfl,V,G,i,r⟩:=Y.cF;refine add_arrays (JR Z) uc ⟨_,g,rfl,_,rfl⟩ ⟨_,V,rfl,_,rfl⟩ (λh' F N=> ?_) ?_
  ·refine K.newList S (uu (more:=[_]) Z F N) X (N _ (.head _)).1 ?_ ?_ hb.2
   ·have:=R.length;have:=r.length;have:=hb.1
    simp;exact zl 0x8d3e2cbd27ff896f7ea0d rfl ‹_› ‹_› this
   ·simpa using R.append r
  ·have:=R.length;have:=r.length;have:=hb.1
   simp only[size_toArray];unfold aA at this;unfold sizeLine;exact zl 0x2e91eadf691e44730680af7ea0d rfl ‹_› ‹_› this
 ·obtain⟨t,rfl⟩:=f.cF
  obtain⟨T,rfl⟩:=Y.cF;exact sub_int' (K.val S (.int ..) hb)
 ·obtain⟨t,rfl⟩:=f.cF
  obtain⟨T,rfl⟩:=Y.cF;exact PyProof.Rows.mul_int (K.val S (.int ..) hb.2.2) (Hu hb.1 hb.2.1)
 ·rename_i t n
  obtain⟨_,rfl⟩:=f.cF;obtain⟨_,rfl⟩:=Y.cF;replace hb:(match t.cps.toList with|[c]=>0≤n∧n≤1000∧k (.j (.str ⟨(replicate n.toNat c).toArray⟩))|_=>False):=hb;generalize C:t.cps.toList=l at hb;cases l with
  |nil=>exact hb.elim
  |cons c l=>cases l with
   |cons _ _=>exact hb.elim
   |nil=>
    obtain⟨H,h1,h2⟩:=hb;have:=x6 C;subst this;exact SB.mul (Ag H h1) λT tk=>(uU H)▸K.val S (.str _ _) h2
 ·rename_i l n
  obtain⟨a,h,n',rfl,g,B,M,R⟩:=f.cF;obtain⟨T,rfl⟩:=Y.cF;cases l with
  |nil=>exact False.elim hb
  |cons v l=>cases l with
   |cons _ _=>exact False.elim hb
   |nil=>
    obtain⟨H,h1,h2⟩:=hb;cases R with
    |cons R u=>
     cases u;refine mul_list (JR Z) uc g (zl 92872740893213 rfl H) (zl 0xbad9e8fdd15ae rfl h1) (by simp;exact zl 0x19ff00021979f915ae rfl h1) λh' F N=> ?_;refine K.newList S (uu (more:=[_]) Z F N) X (n:=0) ?_ (by simp;unfold aA;exact zl 0x1eb6ae8e34127915ae rfl h1) (cM.replicate R _) h2;rw[(N _ (.head _)).1];have z:=kg (x:=(by assumption:Value)) n.toNat #[];first|(simp[kg];done)|simp_all [kg]
 ·obtain⟨t,rfl⟩:=f.cF
  obtain⟨T,rfl⟩:=Y.cF;exact floordiv_int hb.1 (K.val S (.int ..) hb.2.2) (.inl (PyProof.noPylong_of_log2 (mw hb.2.1)))
 ·obtain⟨t,rfl⟩:=f.cF
  obtain⟨T,rfl⟩:=Y.cF;exact mod_int' hb.1 (K.val S (.int ..) hb.2)
 ·rename_i a b
  obtain⟨t,rfl⟩:=f.cF;obtain⟨T,rfl⟩:=Y.cF;obtain⟨H,h1,h2,h3⟩:=hb;apply AutoIntOpsIf.pow;rw[if_pos H];have e:∀z:Int,z=a^b.toNat→Made.post (Made.int z) Q s:=λz D=>by subst D;exact K.val S (.int ..) h3
  split
  ·rename_i q;exact e _ (by have:=(by simpa using q);subst this;exact(Int.pow_zero _).symm)
  ·rename_i q
   split
   ·rename_i p
    apply e _;rcases(by simpa using p)with rfl|rfl
    ·exact(Int.zero_pow (λz=>q (by have:b=0:=zl 0xc234fccc331d rfl H z;simp[this]))).symm
    ·exact Int.one_pow.symm
   ·split
    ·rename_i p
     have:a= -1:=by simpa using p
     subst this;apply e _;rw[uB,Int.toNat_of_nonneg H]
    ·split
     ·rename_i p
      unfold Builtin.Int.intTooBig at p;have P:=of_decide_eq_true p;have d:=D8 h2;unfold bitsLine at P;exact zl 0xebc0dacb45bfbfcc49bc0 rfl P (Int.mul_le_mul (zl 0xb0ebbadb2adcf rfl d) h1 H (zm 731269 rfl))
     ·exact e _ rfl
theorem CI(l):fh (.L l)=(bM D6 l).map .tuple:=by unfold fh;rfl
theorem Cm(l):Ak (.o l)=(bM fh l).map .list:=by unfold Ak;rfl
theorem C5(h:∀l,v≠.L l):fh v=D6 v:=by
 cases v<;>first|rfl|exact absurd rfl (h _)
theorem Cu(h:∀l,v≠.o l):Ak v=fh v:=by
 cases v<;>first|rfl|exact absurd rfl (h _)
section
variable{w:World}{h:Heap}{W:cw}
theorem uF(r:VR w h W v x)(e:D6 v=some d):Reads h x d []:=by
 cases r with
 |none=>cases e;exact .none
 |bool b=>cases e;exact .bool _
 |int i t=>cases e;exact .int ..
 |str s t=>
  change(match PyData.strOk s with|true=>some (PyData.str s)|false=>none)=_ at e;cases q:PyData.strOk s with
  |true=>rw[q]at e;cases e;exact .str ..
  |false=>rw[q]at e;cases e
 |_=>cases e
theorem all_cons(e:bM f (v::l)=some D):∃d I,f v=some d∧bM f l=some I∧D=d::I:=by
 change(match f v,bM f l with|some a,some b=>some (a::b)|_,_=>none)=some D at e;generalize f v=p at e⊢;generalize bM f l=q at e⊢;cases p with
 |none=>cases e
 |some a=>
  cases q with
  |none=>cases e
  |some b=>exact⟨a,b,rfl,rfl,(Option.some.inj e).symm⟩
theorem FA(r:cW w h W l v):∀{D},bM D6 l=some D→ReadsAll h v D []:=by
 induction r with
 |nil=>exactλe=>Option.some.inj e▸.nil
 |cons r b I=>exactλe=>(all_cons e).elim λd e=>e.elim λX e=>e.2.2▸.cons (uF r e.1) (I e.2.1)
theorem fS(r:VR w h W v x)(e:fh v=some d):∃as,Reads h x d as:=by
 by_cases q:∃l,v=.L l
 ·obtain⟨l,rfl⟩:=q
  cases r with
  |L E P Y R=>
   rw[CI]at e;cases q:bM D6 l with
   |none=>rw[q]at e;cases e
   |some D=>rw[q]at e;cases e;exact⟨_,.tuple E rfl rfl (by simpa using FA R q)⟩
 ·exact⟨_,uF r (C5 (λl z=>q ⟨l,z⟩)▸e)⟩
theorem kG(r:cW w h W l v):∀{D},bM fh l=some D→∃as,ReadsAll h v D as:=by
 induction r with
 |nil=>exactλe=>⟨[],by cases e;exact .nil⟩
 |cons r b I=>exactλe=>(all_cons e).elim λd e=>e.elim λX e=>(fS r e.1).elim λas q=>(I e.2.1).elim λbs p=>e.2.2▸⟨_,.cons q p⟩
theorem kL(r:VR w h W v x)(e:Ak v=some d):∃as,Reads h x d as:=by
 by_cases q:∃l,v=.o l
 ·obtain⟨l,rfl⟩:=q
  cases r with
  |o E P Y R=>
   rw[Cm]at e;cases q:bM fh l with
   |none=>rw[q]at e;cases e
   |some D=>
    rw[q]at e;cases e;obtain⟨as,p⟩:=kG R q;exact⟨_,.list E rfl rfl (by simpa using p)⟩
 ·exact fS r (Cu (λl z=>q ⟨l,z⟩)▸e)
end
theorem tF(e:D6 v=some d):d.canLay0=true∧d.depth=0:=by
 cases v with
 |none=>cases e;exact⟨rfl,rfl⟩
 |bool b=>cases e;exact⟨rfl,rfl⟩
 |int i=>cases e;exact⟨rfl,rfl⟩
 |str s=>
  change(match PyData.strOk s with|true=>some (PyData.str s)|false=>none)=_ at e;cases q:PyData.strOk s with
  |true=>rw[q]at e;cases e;exact⟨by unfold PyData.canLay0;exact q,rfl⟩
  |false=>rw[q]at e;cases e
 |_=>cases e
theorem kT(H:∀v d,f v=some d→d.canLay0=true∧d.depth≤n):∀{D},bM f l=some D→PyData.canLayAll0 D=true∧PyData.depthAll D≤n:=by
 induction l with
 |nil=>exactλe=>Option.some.inj e▸⟨rfl,zero_le _⟩
 |cons v l I=>
  intro D e;obtain⟨d,X,E,j,rfl⟩:=all_cons e;have a:=H v d E;have b:=I j;exact⟨(Bool.and_eq_true ..).mpr ⟨a.1,b.1⟩,Nat.max_le.mpr ⟨a.2,b.2⟩⟩
theorem d9(e:fh v=some d):d.canLay0=true∧d.depth≤1:=by
 by_cases q:∃l,v=.L l
 ·obtain⟨l,rfl⟩:=q
  rw[CI]at e;cases q:bM D6 l with
  |none=>rw[q]at e;cases e
  |some D=>
   rw[q]at e;cases e;have z:=kT (λv d e=>have a:=tF e;⟨a.1,zl 128224245 rfl a.2⟩) q;refine⟨by unfold PyData.canLay0;exact z.1,?_⟩;unfold PyData.depth;exact zl 138257487583 rfl z.2
 ·rw[C5 (λl z=>q ⟨l,z⟩)]at e
  exact⟨(tF e).1,((tF e).2)▸zm 6152 rfl⟩
theorem nY(e:Ak v=some d):d.canLay0=true∧d.depth≤2:=by
 by_cases q:∃l,v=.o l
 ·obtain⟨l,rfl⟩:=q
  rw[Cm]at e;cases q:bM fh l with
  |none=>rw[q]at e;cases e
  |some D=>
   rw[q]at e;cases e;have z:=kT (λv d=>d9) q;refine⟨by unfold PyData.canLay0;exact z.1,?_⟩;unfold PyData.depth;exact zl 143840108143 rfl z.2
 ·rw[Cu (λl z=>q ⟨l,z⟩)]at e
  exact⟨(d9 e).1,by have:=(d9 e).2;exact zl 139129711 rfl this⟩
theorem bj(h:d.canLay0=true∧d.depth≤n)(H:n≤64):SeqAt.shaped d=true:=by
 unfold SeqAt.shaped;rw[h.1];exact decide_eq_true (Nat.le_trans h.2 H)
noncomputable def uh:CO→CmpOp
|.lt=>.Lt|.le=>.LtE|.gt=>.Gt|.ge=>.GtE|.eq=>.Eq|.ne=>.NotEq|.is=>.Is|.dt=>.IsNot|.nh=>.In|_=>.NotIn
theorem yM(r:VR w h W v x):(x==Value.none)=isNone v:=by
 cases r<;>rfl
theorem jg{w:World}{h:Heap}{W:cw}(e:yc x l=some b):∃d D,fh x=some d∧bM fh l=some D∧(∀y∈D,SeqAt.noMix y d=true)∧b=decide (Spec.countIn d D≠0):=by
 delta yc at e;generalize E:fh x=p at e;generalize j:bM fh l=q at e;cases p with
 |none=>cases e
 |some d=>
  cases q with
  |none=>cases e
  |some D=>
   cases q:D.all λy=>SeqAt.noMix y d with
   |true=>exact⟨d,D,rfl,rfl,λy H=>all_eq_true.mp q y H,by simp only[q]at e;cases e;rfl⟩
   |false=>simp only[q]at e;cases e
theorem Ml{P:Bool→Prop}(h:match o with|some b=>P b|.none=>False):∃b,o=some b∧P b:=by
 cases o with
 |some b=>exact⟨b,rfl,h⟩
 |none=>exact h.elim
theorem BF{P:Bool→Prop}(h:match vz x y with|some b=>P b|.none=>False):∃d1 d2,Ak x=some d1∧Ak y=some d2∧P (PyData.eqv d1 d2):=by
 obtain⟨b,e,h⟩:=Ml h;unfold vz at e;cases E:Ak x with
 |none=>rw[E]at e;cases e
 |some d1=>cases j:Ak y with
  |none=>rw[E,j]at e;cases e
  |some d2=>rw[E,j]at e;cases e;exact⟨d1,d2,rfl,rfl,h⟩
theorem Qk(j:bM fh l=some D):(PyData.tuple D).canLay0=true∧(PyData.tuple D).depth≤2:=by
 have z:=kT (λv d=>d9) j;exact⟨by unfold PyData.canLay0;exact z.1,by unfold PyData.depth;exact zl 143840108143 rfl z.2⟩
theorem Qe(j:bM fh l=some D):(PyData.list D).canLay0=true∧(PyData.list D).depth≤2:=by
 have z:=kT (λv d=>d9) j;exact⟨by unfold PyData.canLay0;exact z.1,by unfold PyData.depth;exact zl 143840108143 rfl z.2⟩
theorem j3{E:Value→Shared→Prop}(H:DH A j n u)(hb:oM o x y k)(f:VR w s.heap W x a)(Y:VR w s.heap W y b)
 (K:∀c tk,k c→Q (.bool c) {s with toks:=tk}):
 wpAny (model PP w) A (compareOp (uh o) a b) Q E s:=by
 refine Classical.byContradiction λm=> ?_;have U:=H.units;have C:A.units+64<cLine:=by unfold cLine;exact zl 0x46bb45e2faaece601da045b0b7151cf5f3cb rfl U
 have S:A.units+65<cLine:=by unfold cLine;exact zl 0x46bb45e2fb552e601da045b0b7151cf5f3cb rfl U
 cases o
 ·exact hb
 ·cases x<;>first|exact hb|(cases y<;>first|exact hb|(obtain⟨_,rfl⟩:=f.cF;obtain⟨_,rfl⟩:=Y.cF;exact m (lt_int (K _ s.toks hb))))
 ·cases x<;>first|exact hb|(cases y<;>first|exact hb|(obtain⟨_,rfl⟩:=f.cF;obtain⟨_,rfl⟩:=Y.cF;exact m (le_int (K _ s.toks hb))))
 ·cases x<;>first|exact hb|(cases y<;>first|exact hb|(obtain⟨_,rfl⟩:=f.cF;obtain⟨_,rfl⟩:=Y.cF;exact m (gt_int (K _ s.toks hb))))
 ·cases x<;>first|exact hb|(cases y<;>first|exact hb|(obtain⟨_,rfl⟩:=f.cF;obtain⟨_,rfl⟩:=Y.cF;exact m (ge_int (K _ s.toks hb))))
 ·obtain⟨d1,d2,g,V,hb⟩:=BF hb
  obtain⟨_,q⟩:=kL f g;obtain⟨_,R⟩:=kL Y V;exact m (eq_dataH q R (bj (nY g) (zm 731316 rfl)) (bj (nY V) (zm 731316 rfl)) C (K _ s.toks hb))
 ·obtain⟨d1,d2,g,V,hb⟩:=BF hb
  obtain⟨_,q⟩:=kL f g;obtain⟨_,R⟩:=kL Y V;exact m (ne_dataH q R (bj (nY g) (zm 731316 rfl)) (bj (nY V) (zm 731316 rfl)) C (K _ s.toks hb))
 ·cases y<;>first|exact hb|(obtain rfl:=Y.cF;exact m (is_none_gen (by rw[yM f];exact K _ s.toks hb)))
 ·cases y<;>first|exact hb|(obtain rfl:=Y.cF;exact m (isnot_none_gen (by rw[yM f];exact K _ s.toks hb)))
 ·cases y<;>first|exact hb|skip
  ·obtain⟨c,e,hb⟩:=Ml hb
   obtain⟨d,D,g,V,N,rfl⟩:=jg (w:=w) (h:=s.heap) (W:=W) e;obtain⟨_,q⟩:=fS f g;obtain⟨_,_,_,rfl,g1,g2,g0,g3⟩:=Y.cF;obtain⟨as,R⟩:=kG g3 V;exact m (in_tuple_dataH (.tuple g1 rfl rfl (by simpa using R)) q (bj (Qk V) (zm 731316 rfl)) (bj (d9 g) (zm 731294 rfl)) S N (K _ s.toks hb))
  ·obtain⟨c,e,hb⟩:=Ml hb
   obtain⟨d,D,g,V,N,rfl⟩:=jg (w:=w) (h:=s.heap) (W:=W) e;obtain⟨_,q⟩:=fS f g;obtain⟨_,_,_,rfl,g1,g2,g0,g3⟩:=Y.cF;obtain⟨as,R⟩:=kG g3 V;exact m (in_list_dataH (.list g1 rfl rfl (by simpa using R)) q (bj (Qe V) (zm 731316 rfl)) (bj (d9 g) (zm 731294 rfl)) S N (K _ s.toks hb))
  ·cases x<;>first|exact hb|skip
   rename_i l t;replace hb:k (a8 t l).isSome:=hb;obtain⟨_,rfl⟩:=f.cF;obtain⟨_,_,rfl,g1,g2,g3⟩:=Y.cF;refine m (wpAny_in_of (strKind_is PP w _ _) g1.2 g1.1.mapOf ?_);rcases g3.find with⟨Z,z⟩|⟨v,x,Z,z,F⟩
   ·rw[z];rw[Z]at hb;exact K _ _ hb
   ·rw[z];rw[Z]at hb;exact K _ _ hb
 ·cases y<;>first|exact hb|skip
  ·obtain⟨c,e,hb⟩:=Ml hb
   obtain⟨d,D,g,V,N,rfl⟩:=jg (w:=w) (h:=s.heap) (W:=W) e;obtain⟨_,q⟩:=fS f g;obtain⟨_,_,_,rfl,g1,g2,g0,g3⟩:=Y.cF;obtain⟨as,R⟩:=kG g3 V;exact m (notIn_tuple_dataH (.tuple g1 rfl rfl (by simpa using R)) q (bj (Qk V) (zm 731316 rfl)) (bj (d9 g) (zm 731294 rfl)) S N (K _ s.toks hb))
  ·obtain⟨c,e,hb⟩:=Ml hb
   obtain⟨d,D,g,V,N,rfl⟩:=jg (w:=w) (h:=s.heap) (W:=W) e;obtain⟨_,q⟩:=fS f g;obtain⟨_,_,_,rfl,g1,g2,g0,g3⟩:=Y.cF;obtain⟨as,R⟩:=kG g3 V;exact m (notIn_list_dataH (.list g1 rfl rfl (by simpa using R)) q (bj (Qe V) (zm 731316 rfl)) (bj (d9 g) (zm 731294 rfl)) S N (K _ s.toks hb))
  ·cases x<;>first|exact hb|skip
   rename_i l t;replace hb:k (!(a8 t l).isSome):=hb;obtain⟨_,rfl⟩:=f.cF;obtain⟨_,_,rfl,g1,g2,g3⟩:=Y.cF;refine m (wpAny_notIn_of (strKind_is PP w _ _) g1.2 g1.1.mapOf ?_);rcases g3.find (k:=_)with⟨Z,z⟩|⟨v,x,Z,z,F⟩
   ·rw[z];rw[Z]at hb;exact K _ _ hb
   ·rw[z];rw[Z]at hb;exact K _ _ hb
theorem mn{j J:Int}{n:Nat}(e:(if j<0 then j+n else j)=J)(H:0≤J)(h1:J<n):seqIndex? j n=some J.toNat:=by
 unfold seqIndex?;rw[e];show(if(decide (0≤J)&&decide (J<(n:Int)))=true then some J.toNat else none)=_;rw[decide_eq_true H,decide_eq_true h1];rfl
theorem tn{n}{i}:bX n i=if i<0 then i+n else i:=by
 unfold bX
 by_cases h:0≤i
 ·rw[decide_eq_true h,if_neg (by exact zl 31154702365 rfl h)]
 ·rw[decide_eq_false h,if_pos (by exact zl 26063938885 rfl h)]
theorem j8(h:cy l j=some v):∃i,seqIndex? j l.length=some i∧l[i]? =some v∧j<l.length∧-l.length≤j∧(0≤j→i=j.toNat)∧(j<0→i=(j+l.length).toNat):=by
 unfold cy at h
 by_cases q:0≤bX l.length j
 ·rw[decide_eq_true q]at h
  dsimp only at h;have L:=(List.getElem?_eq_some_iff.mp h).1;have e:= @tn l.length j;refine⟨_,mn e.symm q (zl 29461708161 rfl L),h,?_,?_,?_,?_⟩
  ·split at e<;>(first|exact zl 3682720201 rfl ‹_›|exact zl 0x39352cca5d581 rfl L e)
  ·split at e<;>(first|exact zl 0x1546d011e52f0cb1d rfl q e|exact zl 0xaa3680505131d rfl q e)
  ·intro H;rw[e,if_neg (by exact zl 31154702365 rfl H)]
  ·intro H;rw[e,if_pos H]
 ·rw[decide_eq_false q]at h;cases h
section
variable{w:World}{os:OsState}{F:List Env}{L:Nat→fQ}{ρ:R}{s:Shared}{W:cw}{Q:Value→Shared→Prop}{E:Value→Shared→Prop}{A:Around}
theorem gK(h:n≤aA):(n:Int)<2^63:=by unfold aA at h;exact zl 0x33d4f485e965f3f rfl h
theorem fb(h:n≤aA):n≤sizeLine:=by unfold aA at h;unfold sizeLine;exact zl 6402895501483839 rfl h
theorem DJ(g:s.heap.get? a=some (xk m n))(y:m.length≤aA)(r:cW w s.heap W l m)(h:cy l j=some v)
 (K:∀x,VR w s.heap W v x→Q x s):wpAny (model PP w) A (getItem (.ref a) (.int j t)) Q E s:=by
 obtain⟨i,h1,h2,h3,h4,_⟩:=j8 h;obtain⟨x,X,f⟩:=r.get h2;have:=gK y;have H:=r.length;exact getItem_tuple ⟨_,g,rfl,n,rfl⟩ (zl 0x146a9e032e1f52efeae27 rfl h4 this H) (zl 0x4f874ead1f4d780c89 rfl h3 this H) (by rw[size_toArray,←H];exact h1) (by simpa using X) (K x f)
theorem yk(g:s.heap.get? a=some (dk m n))(y:m.length≤aA)(r:cW w s.heap W l m)(h:cy l j=some v)
 (K:∀x,VR w s.heap W v x→Q x s):wpAny (model PP w) A (getItem (.ref a) (.int j t)) Q E s:=by
 obtain⟨i,h1,h2,h3,h4,h5,h6⟩:=j8 h;obtain⟨x,X,f⟩:=r.get h2;have:=gK y;have H:=r.length
 by_cases N:0≤j
 ·exact wpAny_getItem_list ⟨_,g,rfl,n,rfl⟩ N (zl 0x4f874ead1f4d780c89 rfl h3 this H) (by rw[←h5 N];simpa using X) (K x f)
 ·refine wpAny_getItem_list_neg ⟨_,g,rfl,n,rfl⟩ (zl 26063938885 rfl N) (by rw[size_toArray,←H];exact zl 41465686896167 rfl h4) (zl 0x146a9e032e1f52efeae27 rfl h4 this H) ?_ (K x f)
  rw[size_toArray,←H,←h6 (zl 26063938885 rfl N)];simpa using X
theorem tM{P:V→Prop}(h:match o with|some a=>P a|.none=>False):∃a,o=some a∧P a:=by
 cases o with
 |some a=>exact⟨a,rfl,h⟩
 |none=>exact h.elim
theorem yj(hb:rM x i k)(f:VR w s.heap W x a)(y:VR w s.heap W i b)
 (K:∀v x tk,k v→VR w s.heap W v x→Q x {s with toks:=tk})
 (H:subscripted M false a b=operate [a,b] (getItem a b)):wpAny (model PP w) A (subscriptTail C M a b) Q E s:=by
 refine Classical.byContradiction λm=> ?_;cases x<;>first|exact hb|(cases i<;>first|exact hb|refine m ?_)
 ·rename_i t j
  obtain⟨J,hb⟩:t.cps.toList.length≤aA∧(match cy t.cps.toList j with|some c=>k (.str ⟨#[c]⟩)|.none=>False):=hb;obtain⟨_,rfl⟩:=f.cF;obtain⟨_,rfl⟩:=y.cF;cases e:cy t.cps.toList j with
  |none=>rw[e]at hb;exact hb.elim
  |some c=>
   rw[e]at hb;obtain⟨i,h1,h2,h3,h4,_⟩:=j8 e;have:=gK J;refine tail_any rfl slot_str_getitem.lookup (getItem_str ?_ ?_ (K _ _ _ hb (.str ..))) H
   ·simp only[Bool.or_eq_false_iff];exact⟨decide_eq_false (zl 0x789a51087347eae27 rfl h4 this),decide_eq_false (zl 0x1bc718787c60c89 rfl h3 this)⟩
   ·have:t.length=t.cps.toList.length:=by simp[Str.length]
    rw[this,h1];simpa using h2
 ·obtain⟨v,e,hb⟩:=tM hb
  obtain⟨_,rfl⟩:=y.cF;obtain⟨_,_,_,rfl,g,P,Y,B⟩:=f.cF;exact tail_any ⟨_,g,rfl⟩ slot_tuple_getitem.lookup (DJ g Y B e λx r=>K _ x s.toks hb r) H
 ·obtain⟨v,e,hb⟩:=tM hb
  obtain⟨_,rfl⟩:=y.cF;obtain⟨_,_,_,rfl,g,P,Y,B⟩:=f.cF;exact tail_any ⟨_,g,rfl⟩ slot_list_getitem.lookup (yk g Y B e λx r=>K _ x s.toks hb r) H
 ·rename_i l t
  obtain⟨v,e,hb⟩:=tM hb;obtain⟨_,rfl⟩:=y.cF;obtain⟨_,_,rfl,g,P,B⟩:=f.cF;rcases B.find with⟨Z,_⟩|⟨V,X,Z,z,G⟩
  ·rw[Z]at e;cases e
  ·rw[Z]at e;cases e
   exact tail_any g.1.typeIs slot_dict_getitem.lookup (wpAny_getItem_of (strKind_is PP w ..) g.1.mapOf z (K _ _ _ hb G)) H
theorem fL.after(K:fL w os F L ρ s W k Q)(e:KE s.heap W RC.heap RD):fL w os F L ρ RC RD k Q:=
 λr t W' v h S Y o=>K r t W' v h S (e.trans Y) o
theorem vM:ay n i≤n:=by unfold ay;exact zm 1328841106288 rfl ..
theorem xU:clipAt n i=ay n i:=by
 unfold clipAt ay;rw[tn,Int.min_comm]
theorem vL{Y:Type}(l:List Y)(a c):((range c).map (a+ ·)).filterMap (l[·]?)=(l.drop a).take c:=by
 induction c with
 |zero=>simp
 |succ c I=>
  rw[range_succ,map_append,filterMap_append,I,take_add_one];cases h:l[a+c]? <;>simp[h]
theorem lT(j)(h)(o):Gr j h (h.push o):=.fZ λ_ _ e=>get?_push_of_some _ e
theorem nA(r:VR w h W v x)(e:bound n d v=some c):∃lo,IsPart x lo∧c=lo.elim d (ay n)∧∃p,x=partValue p∧p.map (·.1)=lo:=by
 cases r with
 |none=>cases e;exact⟨none,.none,rfl,none,rfl,rfl⟩
 |int i t=>cases e;exact⟨some i,.int i t,rfl,some (i,t),rfl,rfl⟩
 |_=>cases e
theorem zH{x lo H:V}{P:Prop}(hb:M0 x lo H k)(J:∀l a b,x=.o l→bound l.length 0 lo=some a→bound l.length l.length H=some b→k (.U ((l.take b).drop a))→P)
 (D:∀(t:Str)a b,x=.str t→t.cps.toList.length≤aA→bound t.cps.toList.length 0 lo=some a→bound t.cps.toList.length t.cps.toList.length H=some b→k (.j (.str ⟨((t.cps.toList.take b).drop a).toArray⟩))→P):P:=by
 cases x with
 |o l=>
  change(match bound l.length 0 lo,bound l.length l.length H with|some a,some b=>k (.U ((l.take b).drop a))|_,_=>False)at hb;generalize g:bound l.length 0 lo=p at hb;generalize j:bound l.length l.length H=q at hb;cases p with
  |none=>exact False.elim hb
  |some a=>
   cases q with
   |none=>exact False.elim hb
   |some b=>exact J l a b rfl g j hb
 |str t=>
  obtain⟨y,hb⟩:=hb;generalize g:bound t.cps.toList.length 0 lo=p at hb;generalize j:bound t.cps.toList.length t.cps.toList.length H=q at hb;cases p with
  |none=>exact False.elim hb
  |some a=>
   cases q with
   |none=>exact False.elim hb
   |some b=>exact D t a b rfl y g j hb
 |_=>exact False.elim hb
theorem CX{v:List Value}(H:v.length=n)(J O):(slicePick v.toArray J O none).toList=(v.take (O.elim n (ay n))).drop (J.elim 0 (ay n)):=by
 rw[slicePick_plain,drop_take,show clipAt v.toArray.size=ay n by funext i;rw[xU];simp[H]];simp[H]
theorem xS(t:Str):t.length=t.cps.toList.length:=by simp[Str.length]
theorem qO{lo H:Option Int}(z:U.map (·.1)=lo)(u:D.map (·.1)=H):slicePicked t U D none=(range (H.elim t.cps.toList.length (ay t.cps.toList.length)-lo.elim 0 (ay t.cps.toList.length))).map (lo.elim 0 (ay t.cps.toList.length)+ ·):=by
 rw[←sliceRange_one];unfold slicePicked;rw[z,u,xS];unfold Builtin.Str.strSliceIndices;generalize t.cps.toList.length=n;cases lo<;>cases H<;>simp[←xU,clipAt_cast]
theorem Dm{lo H:Option Int}(z:U.map (·.1)=lo)(u:D.map (·.1)=H):(slicePicked t U D none).filterMap (t.cps[·]?)=(t.cps.toList.take (H.elim t.cps.toList.length (ay t.cps.toList.length))).drop (lo.elim 0 (ay t.cps.toList.length)):=by
 rw[qO z u,drop_take,←vL];simp
theorem GB{o:Option Int}(hd:d≤n):o.elim d (ay n)≤n:=by
 cases o with
 |none=>exact hd
 |some i=>exact vM
theorem zf{lo H:Option Int}(O:U.map (·.1)=lo)(u:D.map (·.1)=H)(q:(slicePicked t U D none).length=t.length):(t.cps.toList.take (H.elim t.cps.toList.length (ay t.cps.toList.length))).drop (lo.elim 0 (ay t.cps.toList.length))=t.cps.toList:=by
 rw[qO O u,length_map,length_range,xS]at q;have b:=GB (o:=H) (Nat.le_refl t.cps.toList.length);have a:=GB (o:=lo) (zero_le t.cps.toList.length);generalize lo.elim 0 (ay t.cps.toList.length)=A at q a⊢;generalize H.elim t.cps.toList.length (ay t.cps.toList.length)=B at q b⊢;generalize t.cps.toList=l at q a b⊢;have g:B=l.length:=Nat.le_antisymm b (q▸Nat.sub_le B A);rw[g]at q⊢;rw[take_length];rcases eq_zero_or_pos A with e|e
 ·rw[e,drop_zero]
 ·have z:l.length=0:=by lia
  rw[length_eq_zero_iff.mp z,drop_nil]
theorem CN{x lo H:V}(hb:M0 x lo H k)(S:St w os F L ρ s W)
 (J:(W j).1=1)(f:VR w s.heap W x a)(rl:VR w g W lo vl)(u:VR w g W H U)(K:fL w os F L ρ s W k Q)(N:s.heap.get? I=some {cls:=.type "slice",data:=.fields #[vl,U,.none]}):
 wpAny (model PP w) A (subscriptTail v (.Slice O d none p) a (.ref I)) Q E s:=by
 refine zH hb (λl y b X Y Z B=> ?_) λt y b X D Y Z B=> ?_
 ·subst X
  cases f with
  |o g1 g2 g0 g3=>
   rename_i i C n;obtain⟨T,p1,rfl,_⟩:=nA rl Y;obtain⟨P,p2,rfl,_⟩:=nA u Z;have M:=CX g3.length.symm T P;refine tail_any ⟨_,g1,rfl⟩ slot_list_getitem.lookup ?_ rfl;refine wpAny_getItem_list_slice ⟨_,g1,rfl,n,rfl⟩ ⟨_,N,rfl,rfl⟩ p1 p2 .none (λz=>nomatch z) ?_ (List.size_toArray▸fb g0);refine K.newList S (lT j ..) J (xs:=(slicePick C.toArray T P none).toList) (get?_push_size _ rfl) ?_ ?_ B
   ·rw[M,length_drop,length_take];exact Nat.le_trans (sub_le ..) (Nat.le_trans (Nat.min_le_right ..) g0)
   ·rw[M];exact(g3.take _).drop _
 ·subst X
  cases f with
  |str _ tk=>
   obtain⟨T,p1,rfl,e,rfl,G⟩:=nA rl Y;obtain⟨P,p2,rfl,h,rfl,m⟩:=nA u Z;have M:=Dm (t:=t) G m;refine tail_any rfl slot_str_getitem.lookup ?_ rfl;refine wpAny_getItem_str_slice (st:=none) ⟨_,N,rfl,rfl⟩ rfl ?_;unfold sliceMade;split
   ·rename_i q
    rw[zf G m (by simpa using q)]at B;exact K.OR S (.str t tk) B
   ·refine⟨?_,?_⟩
    ·rw[M];show(_:Array Nat).size≤_
     rw[size_toArray,length_drop,length_take];exact Nat.le_trans (sub_le ..) (Nat.le_trans (Nat.min_le_right ..) (fb D))
    ·rw[M];exact K.val S (.str ..) B
theorem He{x lo H:V}(hb:M0 x lo H k)(S:St w os F L ρ s W)
 (f:VR w s.heap W x a)(rl:VR w s.heap W lo vl)(U:VR w s.heap W H u)(K:fL w os F L ρ s W k Q):
 wpAny (model PP w) A (subscriptTail v (.Slice O t none p) a (.ref s.heap.objs.size)) Q E {s with heap:=s.heap.push {cls:=.type "slice",data:=.fields #[vl,u,.none]}}:=by
 obtain⟨env,r,j,m,e,C,y,X⟩:=S.head;have g:=lT j s.heap {cls:=.type "slice",data:=.fields #[vl,u,.none]};have N:=get?_push_size s.heap (o:={cls:=.type "slice",data:=.fields #[vl,u,.none]}) rfl;generalize s.heap.push {cls:=.type "slice",data:=.fields #[vl,u,.none]}=h' at g N⊢;have M:=g.ke X λ_ _ _=>rfl;exact CN hb (g.st X (λ_ _ _=>rfl) S) X (f.step M.kp) rl U (K.after M) N
end
section
variable{w:World}{os:OsState}{f:List Env}{L:Nat→fQ}{ρ:R}{s:Shared}{W:cw}{Q:Value→Shared→Prop}{E:Value→Shared→Prop}{A:Around}{n u:Nat}
theorem yQ(hb:y0 x k)(y:VR w s.heap W x a)(K:∀i t tk,k (.int i)→Q (.int i t) {s with toks:=tk}):
 wpAny (model PP w) A (call (.builtin "len") [a]) Q E s:=by
 refine Classical.byContradiction λm=> ?_;cases x<;>first|exact hb|refine m ?_
 ·rename_i t
  obtain⟨_,rfl⟩:=y.cF;have H:t.length=t.cps.toList.length:=by simp[Str.length]
  exact PyProof.Rows.len_str (by rw[H];have:=gK hb.1;exact zl 5344306689376 rfl this) (H▸K _ _ _ hb.2)
 ·obtain⟨_,_,_,rfl,g,P,Y,r⟩:=y.cF
  have:=r.length;exact len_tuple ⟨_,g,rfl,_,rfl⟩ (List.size_toArray▸gK Y) (by rw[size_toArray,←this];exact K _ _ _ hb)
 ·obtain⟨_,_,_,rfl,g,P,Y,r⟩:=y.cF
  have:=r.length;exact len_list ⟨_,g,rfl,_,rfl⟩ (List.size_toArray▸gK Y) (by rw[size_toArray,←this];exact K _ _ _ hb)
noncomputable def N5:B1→Value
|.abs=>.builtin "abs"|.str=>.type "str"|.list=>.type "list"|_=>.builtin "len"
theorem Iu(hb:QJ g x k)(S:St w os f L ρ s W)(y:VR w s.heap W x a)(K:fL w os f L ρ s W k Q):
 wpAny (model PP w) A (call (N5 g) [a]) Q E s:=by
 obtain⟨env,O,j,m,rfl,C,Z,X⟩:=S.head;refine Classical.byContradiction λH=> ?_;cases g with
 |z=>exact hb
 |abs=>
  cases x<;>first|exact hb|refine H ?_
  rename_i z;obtain⟨_,rfl⟩:=y.cF;refine call_abs_int λu tk=> ?_;have:(if z<0 then-z else z)=z.natAbs:=by split<;>(first|exact zl 1454885893577 rfl ‹_›|exact zl 5501286463657 rfl ‹_›)
  rw[this];exact K.val S (.int ..) hb
 |str=>
  cases x<;>first|exact hb|refine H ?_
  rename_i z;obtain⟨_,rfl⟩:=y.cF;refine P.str_of_int ?_ (K.val S (.str ..) hb.2)
  by_cases F:z.natAbs=0
  ·rw[F];decide+kernel
  ·have:=(log2_lt F).mpr hb.1
   exact zl 0x509776580ef5da rfl this
 |list=>
  cases x<;>first|exact hb|refine H ?_
  obtain⟨_,_,_,rfl,N,B,Y,r⟩:=y.cF;refine call_list_seq _ (.inl rfl) N rfl rfl (λh' c d D=> ?_) (List.size_toArray▸fb Y);exact K.newList S (.fZ d) X D Y r hb
 |len=>exact H (yQ (by cases x<;>exact hb:y0 x λv=>k (.j v)) y λi t tk h=>K.val S (.int ..) h)
noncomputable def NC:MZ→Value
|.sZ=>.builtin "divmod"|.max=>.builtin "max"|_=>.builtin "min"
theorem fL.Fl(K:fL w os f L ρ s W k Q)(S:St w os f L ρ s W)(g:Gr RC s.heap h')(l:(W RC).1=1)(r:VR w h' W v x)(h:k (.j v)):Q x {s with heap:=h',toks:=t}:=
 K (.j v) _ W x h (g.st l (λ_ _ _=>rfl) S) (g.ke l λ_ _ _=>rfl) r
theorem I3(H:DH A f n u)(hb:Qn g x y k)(S:St w os f L ρ s W)(t:VR w s.heap W x a)(Y:VR w s.heap W y b)(K:fL w os f L ρ s W k Q):
 wpAny (model PP w) A (call (NC g) [a,b]) Q E s:=by
 obtain⟨env,r,j,m,rfl,C,G,X⟩:=S.head;refine Classical.byContradiction λO=> ?_;cases g<;>cases x<;>first|exact hb|(cases y<;>first|exact hb|(obtain⟨_,rfl⟩:=t.cF;obtain⟨_,rfl⟩:=Y.cF;apply O))
 ·refine divmod_N (JR G) uc hb.1 (λh' F N=> ?_) (.inl (PyProof.noPylong_of_log2 (mw hb.2.1)))
  exact K.H5 S (uu (more:=[_]) G F N) X (N _ (.head _)).1 (by unfold aA;simp) (.cons (.int ..) (.cons (.int ..) .nil)) hb.2.2
 ·rename_i Z z _ _
  refine max_two_N H.handled (JR G) uc λh' tk F N=> ?_;have g:=uu (more:=[]) G F N;replace hb:k (.j (.int (match decide (Z<z)with|true=>z|false=>Z))):=hb
  by_cases q:Z<z
  ·rw[if_pos q,if_pos q];rw[decide_eq_true q]at hb;exact K.Fl S g X (.int ..) hb
  ·rw[if_neg q,if_neg q];rw[decide_eq_false q]at hb;exact K.Fl S g X (.int ..) hb
 ·rename_i Z z _ _
  refine min_two_N H.handled (JR G) uc λh' tk F N=> ?_;have g:=uu (more:=[]) G F N;replace hb:k (.j (.int (match decide (z<Z)with|true=>z|false=>Z))):=hb
  by_cases q:z<Z
  ·rw[if_pos q,if_pos q];rw[decide_eq_true q]at hb;exact K.Fl S g X (.int ..) hb
  ·rw[if_neg q,if_neg q];rw[decide_eq_false q]at hb;exact K.Fl S g X (.int ..) hb
end
section
variable{w:World}{os:OsState}{F:List Env}{P:Nat→fQ}{ρ:R}{s:Shared}{W:cw}{E:Value→Shared→Prop}{A:Around}{n u:Nat}
theorem wA(Q:W a=(t,f))(H:¬qC t)(I:¬ve t)(h6:t≠4)(g:Heap.SameBut a h h'):KE h W h' W:=
 have k:∀b o,(qC (W b).1∨ve (W b).1∨(W b).1=4)→h.get? b=some o→h'.get? b=some o:=λb o l e=>(g.2 b λq=>by
  rw[q,Q]at l;exact l.elim H λl=>l.elim I h6).trans e
 ⟨λb o e l=>⟨k b o (.inl l) e,rfl⟩,λb o e l=>⟨λm q=>cj q λo=>k b o (.inr (.inl l)),rfl⟩,λb o e l=>⟨o,k b o (.inr (.inl l)) e⟩,λV l e=>⟨rfl,#[],by simpa using k 910 _ (.inr (.inr l)) e⟩⟩
theorem xd(Q:W a=(t,f))(g:Heap.SameBut a h h')(H:j≠t):Mv h W j h' W j:=λb o e l=>
 ⟨(g.2 b λq=>by rw[q,Q]at l;exact H l.symm).trans e,by rw[←l]⟩
theorem jO(C:aH w F P ρ h W){S:Mine.Internal.S}{G:Prop}(e:ρ[i]? =some S)(n:S≠.y)(f:∀v,(P i).At h (some v)→a5 w h W (10+i) S v→i<800→G):G:=
 (C.slots i S e).elim λx q=>q.2.elim (λy=>absurd y n) λy=>y.elim λv y=>f v (y.1▸q.1) y.2 (Nat.lt_of_lt_of_le (List.getElem?_eq_some_iff.mp e).1 C.len)
theorem uL:10+i≠4:=zm 44091358614 rfl _
theorem AO(h:j≠i):10+j≠10+i:=λq=>h (Nat.add_left_cancel q)
theorem GK{T:Mine.Internal.S}{C:Prop}(h:df T=some l)(f:(T=.U l∨T=.bl l)→C):C:=by
 cases T<;>first|exact f (.inl (congrArg _ (Option.some.inj h)))|exact f (.inr (congrArg _ (Option.some.inj h)))|cases h
theorem NO{T:Mine.Internal.S}(e:T=.U l∨T=.bl l)(r:a5 w h W t T v):OL w h W t 0 l v:=e.elim (λe=>by subst e;exact r) λe=>by subst e;exact r
theorem JY{T:Mine.Internal.S}(e:T=.U l∨T=.bl l)(r:OL w h W t 0 l' v):a5 w h W t (fV T l') v:=e.elim (λe=>by subst e;exact r) λe=>by subst e;exact r
theorem St.xW(S:St w os F P ρ s W){T:Mine.Internal.S}{C:Prop}(hi:ρ[i]? =some T)(hl:df T=some l)(hx:(P i).At s.heap (some (.ref a)))
 (wa:W a=(10+i,0))(sb:Heap.SameBut a s.heap h')(e:h'.get? a=some (dk RC n'))(y:RC.length≤aA)(r:cW w s.heap W l' RC)
 (f:St w os F P (ρ.set i (fV T l')) {s with heap:=h',toks:=tk} W→KE s.heap W h' W→C):C:=
 have K:=wA wa (cg (Nat.lt_of_lt_of_le (List.getElem?_eq_some_iff.mp hi).1 S.H.len)) ck uL sb
 f ⟨S.gens,S.os,S.H.mM K (λj H _=>xd wa sb (AO H)) λq x M=>⟨_,(hx.qE M).symm,GK hl λJ=>JY J (.mk e wa y (r.step K.kp))⟩⟩ K
theorem St.xV(S:St w os F P ρ s W){T:Mine.Internal.S}{C:Prop}(hi:ρ[i]? =some T)(hl:df T=some l)
 (f:∀a vs n,(P i).At s.heap (some (.ref a))→s.heap.get? a=some (dk vs n)→W a=(10+i,0)→vs.length≤aA→cW w s.heap W l vs→C):C:=
 GK hl λJ=>jO S.H hi (λq=>by rw[q]at hl;cases hl) λv p r _=>by
  cases NO J r with
  |mk h1 h2 h3 h4=>exact f _ _ _ p h1 h2 h3 h4
theorem qL(e:s.heap.get? a=some (dk v n))(y:v.length<aA)
 (K:∀h' Y,h'.get? a=some (dk (v++[x]) Y)→Heap.SameBut a s.heap h'→Q .none {s with heap:=h'}):wpAny (model PP w) A (call (.builtin "list.append") [.ref a,x]) Q E s:=by
 refine wpAny_list_append_plain ⟨n,e⟩ (λh' H S=> ?_) (List.size_toArray▸fb (Nat.le_of_lt y));obtain⟨Y,J⟩:=H;exact K h' Y (by rw[J];simp) S
theorem nF(e:IsL h a items n):h.get? a=some {cls:=.type "list",data:=.seq items n}:=e
theorem wg(e:s.heap.get? a=some (dk v n))(y:v.length≤aA)
 (K:∀h' Y,h'.get? a=some (dk v.reverse Y)→Heap.SameBut a s.heap h'→Q .none {s with heap:=h'}):wpAny (model PP w) A (call (.builtin "list.reverse") [.ref a]) Q E s:=by
 refine call_meets PySem.F.slot_list_reverse ⟨_,e,rfl⟩ PySem.F.entry_list_reverse (PySem.F.args_list_reverse_1 _) (AutoSeq1.list_reverse_list_0 a _ n (List.size_toArray▸fb y)) ⟨e,?_⟩;have q:=IsL.update e (λx=>x.reverse);simp only[reverse_toArray]at q;exact K _ _ (nF q) (SameBut.update ..)
theorem y6{j:Int}(e:s.heap.get? a=some (dk v n))(y:v.length≤aA)(H:0≤j)(h1:j≤v.length)
 (K:∀h' Y,h'.get? a=some (dk (v.take j.toNat++x::v.drop j.toNat) Y)→Heap.SameBut a s.heap h'→Q .none {s with heap:=h'}):wpAny (model PP w) A (call (.builtin "list.insert") [.ref a,.int j t,x]) Q E s:=by
 have:=gK y;refine call_meets PySem.F.slot_list_insert ⟨_,e,rfl⟩ PySem.F.entry_list_insert (PySem.F.args_list_insert_3 ..) (AutoSeq1.list_insert_list_int_val_1 a _ n j t x ?_ (List.size_toArray▸fb y)) ⟨e,?_⟩
 ·unfold Builtin.List.listFitsIndex
  simp;exact zl 0x170a8a61fe9b635f13f9190bb93e7951d rfl H h1 this
 ·have q:=IsL.update e (λxs=>have k:=if j<0 then(j+xs.size).toNat else min j.toNat xs.size;(xs.extract 0 k).push x++xs.extract k)
  have g:(if j<0 then(j+v.toArray.size).toNat else min j.toNat v.toArray.size)=j.toNat:=by rw[if_neg (by exact zl 31154702365 rfl H),size_toArray];exact zl 0xd125b495ac7e rfl h1
  have f:(v.toArray.extract 0 j.toNat).push x++v.toArray.extract j.toNat=(v.take j.toNat++x::v.drop j.toNat).toArray:=by
   apply Array.toList_inj.mp;simp;exact take_of_length_le (by simp)
  simp only[g,f]at q;exact K _ _ (nF q) (SameBut.update ..)
theorem Ho(e:s.heap.get? a=some (dk v n))(y:v.length≤aA)(H:v.getLast? =some x)
 (K:∀h' Y,h'.get? a=some (dk v.dropLast Y)→Heap.SameBut a s.heap h'→Q x {s with heap:=h'}):wpAny (model PP w) A (call (.builtin "list.pop") [.ref a]) Q E s:=by
 refine call_meets PySem.F.slot_list_pop ⟨_,e,rfl⟩ PySem.F.entry_list_pop (PySem.F.args_list_pop_1 _) (MeetsSeq.list_pop_last a _ n x ?_ (List.size_toArray▸fb y)) ⟨e,?_⟩
 ·rw[getLast?_eq_getElem?]at H;simpa using H
 ·have q:=IsL.update e (λxs=>xs.eraseIdxIfInBounds (v.toArray.size-1))
  have g:v.toArray.eraseIdxIfInBounds (v.toArray.size-1)=v.dropLast.toArray:=by
   apply Array.toList_inj.mp;have U:v≠[]:=by rintro rfl;cases H
   have:=λz=>U (eq_nil_of_length_eq_zero z);unfold Array.eraseIdxIfInBounds;rw[dif_pos (List.size_toArray▸zl 2881558513037 rfl this),Array.toList_eraseIdx,size_toArray];rw[eraseIdx_eq_take_drop_succ,dropLast_eq_take,drop_eq_nil_of_le (by exact zm 1142628699 rfl _),append_nil]
  simp only[g]at q;exact K _ _ (nF q) (SameBut.update ..)
theorem o5(e:s.heap.get? a=some (dk v n))(y:v.length≤aA)(H:0≤bX v.length j)(h1:bX v.length j<v.length)
 (K:∀h' Y,h'.get? a=some (dk (v.set (bX v.length j).toNat x) Y)→Heap.SameBut a s.heap h'→Q () {s with heap:=h'}):wpAny (model PP w) A (setItem (.ref a) (.int j t) x) Q E s:=by
 have G:=gK y;have I:= @tn v.length j;have f:Builtin.List.listFitsIndex j=true:=by
  unfold Builtin.List.listFitsIndex;simp only[Bool.and_eq_true,decide_eq_true_eq];split at I<;>(first|exact zl 0xa10171addaae2f77ba547f1becc81d rfl H h1 G I|exact zl 0x5080b8d6ed6a84524f91becc81d rfl H h1 G I)
 have L:s.heap.IsList a v.toArray:=⟨_,e,rfl,n,rfl⟩;unfold setItem;try with_reducible refine wpAny_holding ?_
 first|refine wpAny_bind (wpAny_pure ?_)|skip
 refine wpAny_bind (wpAny_sequenceKey L.typeIs rfl ?_);refine wpAny_bind (wpAny_callSpecial?_slot L.typeIs PySem.F.slot_list_setitem
  (wpAny_call_entry PySem.F.slot_list_setitem L.typeIs PySem.F.entry_list_setitem ?_ (PySem.F.args_list_setitem_3 ..)))
 show wpAny _ _ (Builtin.List.listSubscript? (.int j t)>>=_) _ _ s;refine wpAny_bind (wpAny_listSubscript_int f ?_);obtain⟨z,X⟩:∃z,v[(bX v.length j).toNat]? =some z:=⟨_,getElem?_eq_getElem (zl 908491664705565 rfl H h1)⟩;have q:=IsL.update e (λxs=>xs.setIfInBounds (bX v.length j).toNat x);have g:v.toArray.setIfInBounds (bX v.length j).toNat x=(v.set (bX v.length j).toNat x).toArray:=by simp
 simp only[g]at q;have a9:=K _ _ (nF q) (SameBut.update ..)
 by_cases J:0≤j
 ·have N:(bX v.length j).toNat=j.toNat:=by rw[I,if_neg (by exact zl 31154702365 rfl J)]
  rw[N]at X a9;clear q g f I H h1 N;obtain⟨k,rfl⟩:=Int.eq_ofNat_of_zero_le J;refine wpAny_bind (wpAny_bind (wpAny_seqItemAt e rfl (wpAny_pure ?_)));have d:v.toArray[k]? =some z:=by simpa using X
  rw[d];refine wpAny_bind (wpAny_setSeqItemAt e rfl ?_);first
   |exact wpAny_bind (wpAny_pure (wpAny_pure ⟨.none,rfl,wpAny_pure a9⟩))
   |exact wpAny_pure ⟨.none,rfl,wpAny_pure a9⟩
 ·have D:seqIndex? j v.toArray.size=some (bX v.length j).toNat:=List.size_toArray▸mn I.symm H h1
  generalize(bX v.length j).toNat=i at X a9 D;clear q f I H h1;obtain⟨k,rfl⟩:∃k,j=Int.negSucc k:=by
   cases j with
   |ofNat n=>exact absurd (Int.natCast_nonneg n) J
   |negSucc n=>exact⟨n,rfl⟩
  refine wpAny_bind (wpAny_bind ?_);refine wpAny_bind (wpAny_seqItems e rfl (wpAny_pure (wpAny_pure ?_)));have d:v.toArray[i]? =some z:=by simpa using X
  rw[D];simp only[Option.bind_some,d,Option.map_some];refine wpAny_bind (wpAny_setSeqItemAt e rfl ?_);first
   |exact wpAny_bind (wpAny_pure (wpAny_pure ⟨.none,rfl,wpAny_pure a9⟩))
   |exact wpAny_pure ⟨.none,rfl,wpAny_pure a9⟩
end
theorem l8{a:Addr}(H:a<914)(g:(Hd.bD P).get a=some o)(L:alive o=some o):(Hd.H1 P).get? a=some o:=(abs_get H g).trans L
theorem aH.obj(C:aH w fs pl ρ h W){a:Addr}(ha:a<914)(n:a≠910)(g:(Hd.bD w.params).get a=some o)(al:alive o=some o):h.get? a=some o:=(C.base a o (l8 ha g al) n).1
noncomputable def KV(P:Params):Frag:=[(318,Hd.JT P),(317,Hd.Mu P),(308,Hd.ob 308 P)]
noncomputable def KM(P:Params):Frag:=[(614,Hd.ML P),(613,Hd.MD P),(571,Hd.ob 571 P),(578,Hd.ob 578 P),(585,Hd.ob 585 P),(592,Hd.ob 592 P),(599,Hd.ob 599 P),(606,Hd.ob 606 P),(611,Hd.ob 611 P)]
noncomputable def lX(P:Params):Frag→Prop
|[]=>True
|p::K=>(blt p.1 914=true∧beq p.1 910=false)∧((Hd.bD P).get p.1=some p.2∧alive p.2=some p.2)∧lX P K
theorem sJ(C:aH w f L ρ h W){K}(H:lX w.params K):K.In h:=by
 induction K with
 |nil=>intro a o e;cases e
 |cons p K I=>
  intro a o e;obtain⟨⟨h1,h2⟩,⟨h3,h4⟩,h5⟩:=H;rw[lookup_cons]at e;cases q:a==p.1 with
  |true=>
   rw[q]at e;cases e;have:=beq_iff_eq.mp q;subst this;exact C.obj (le_of_ble_eq_true h1) (λz=>by rw[z]at h2;cases h2) h3 h4
  |false=>rw[q]at e;exact I h5 a o e
theorem GV(P):lX P (KV P):=⟨⟨rfl,rfl⟩,⟨by kernel_rfl,by kernel_rfl⟩,⟨rfl,rfl⟩,⟨by kernel_rfl,by kernel_rfl⟩,⟨rfl,rfl⟩,⟨by kernel_rfl,by kernel_rfl⟩,trivial⟩
theorem Km(P):lX P (KM P):=⟨⟨rfl,rfl⟩,⟨by kernel_rfl,by kernel_rfl⟩,⟨rfl,rfl⟩,⟨by kernel_rfl,by kernel_rfl⟩,⟨rfl,rfl⟩,⟨by kernel_rfl,by kernel_rfl⟩,⟨rfl,rfl⟩,⟨by kernel_rfl,by kernel_rfl⟩,⟨rfl,rfl⟩,⟨by kernel_rfl,by kernel_rfl⟩,
 ⟨rfl,rfl⟩,⟨by kernel_rfl,by kernel_rfl⟩,⟨rfl,rfl⟩,⟨by kernel_rfl,by kernel_rfl⟩,⟨rfl,rfl⟩,⟨by kernel_rfl,by kernel_rfl⟩,⟨rfl,rfl⟩,⟨by kernel_rfl,by kernel_rfl⟩,trivial⟩
theorem FX(P):makesIn (KV P) 318=true:=by kernel_rfl
theorem FN(P):makesIn (KM P) 614=true:=by kernel_rfl
noncomputable def Kc(P:Params):Nat→Frag
|0=>KV P
|_=>KM P
theorem o9(C:aH w f L ρ h W)(c):(Kc w.params c).In h:=by
 cases c
 ·exact sJ C (GV _)
 ·exact sJ C (Km _)
theorem Ez(P)(c):makesIn (Kc P c) (cK c)=true:=by
 cases c
 ·exact FX P
 ·exact FN P
theorem J4(P):findIn (KV P) (.ref 318) "__getattribute__"=some (some (.builtin "object.__getattribute__")):=by kernel_rfl
theorem Ku(P):findIn (KM P) (.ref 614) "__getattribute__"=some (some (.builtin "object.__getattribute__")):=by kernel_rfl
theorem F1(P)(c):findIn (Kc P c) (.ref (cK c)) "__getattribute__"=some (some (.builtin "object.__getattribute__")):=by
 cases c
 ·exact J4 P
 ·exact Ku P
theorem xf(h:9≤n):an n=ofString "":=by
 unfold an;rw[getD_eq_getElem?_getD,getElem?_eq_none (h)];rfl
theorem GS(P)(c n):findIn (Kc P c) (.ref (cK c)) (an n)=some none:=by
 by_cases h:9≤n
 ·rw[xf h]
  cases c
  ·kernel_rfl
  ·kernel_rfl
 ·have:n=0∨n=1∨n=2∨n=3∨n=4∨n=5∨n=6∨n=7∨n=8:=zl 0x1c965eeed009b08e76951ff19c46812b7393fae57bc40 rfl h
  cases c
  ·show findIn (KV P) (.ref 318) _=_
   rcases this with rfl|rfl|rfl|rfl|rfl|rfl|rfl|rfl|rfl<;>kernel_rfl
  ·show findIn (KM P) (.ref 614) _=_
   rcases this with rfl|rfl|rfl|rfl|rfl|rfl|rfl|rfl|rfl<;>kernel_rfl
theorem KY(P)(c):hasDictIn (Kc P c) (cK c)=true:=by
 cases c
 ·kernel_rfl
 ·kernel_rfl
theorem IE(P)(c):∃C,clsIn (Kc P c) (cK c)=some C∧C.hasDict=true:=by
 cases c
 ·exact⟨_,rfl,rfl⟩
 ·exact⟨_,rfl,rfl⟩
theorem qN(hd:od.data=.dict es p)(H:StrKeys es):lookIn name od=some (nsFind es name):=by
 unfold lookIn nsFind findBy;rw[hd];dsimp only;rw[←Array.find?_toList];cases q:es.toList.find? (·.key.isStr name)with
 |some e=>rfl
 |none=>
  have:es.toList.any (·.refKey)=false:=by
   rw[any_eq_false];intro e E;obtain⟨n,t,z⟩:=H e (by simpa using E);simp[DictEntry.refKey,z]
  rw[this];rfl
theorem fX(x:iu h a C d)(y:h.Ns d m):∃O od,InstAt h a O C (some od)∧O.dict=some d∧h.get? d=some od∧∀name,lookIn name od=some (m name):=by
 obtain⟨O,g,Q,E,N⟩:=x;obtain⟨od,es,p,g2,d1,d2,d3⟩:=y;exact⟨O,od,⟨g,Q,by unfold notCls;rw[N],E▸g2⟩,E,g2,λname=>by rw[qN d1 d2,d3]⟩
theorem n6{E:Value→Shared→Prop}(C:aH w f L ρ s.heap W)(i:iu s.heap a (cK c) d)(y:s.heap.Ns d m)(e:m (an n)=some x)(H:handedIn x=true)
 (h:Q x {s with toks:=s.toks+1}):wpAny (model PP w) A (getAttr (.ref a) (an n) true) Q E s:=by
 obtain⟨O,od,I,_,_,R⟩:=fX i y;exact get_value (o9 C c) I (F1 _ c) (findObj_own (KY ..) (GS ..) rfl ((R _).trans (congrArg some e))) H h
theorem qU(r:VR w h W v x):handedIn x=true:=by cases r<;>rfl
theorem JZ(P)(c):findIn (Kc P c) (.ref (cK c)) "__setattr__"=some (some (.builtin "object.__setattr__")):=by
 cases c
 ·kernel_rfl
 ·kernel_rfl
theorem E1(P)(c):plainOver (Kc P c) (cK c)=true:=by
 cases c
 ·kernel_rfl
 ·kernel_rfl
theorem zF(H:es.findIdx? (·.key.isStr name)=none):nsFind es name=none:=by
 unfold nsFind findBy;have:es.find? (·.key.isStr name)=none:=by
  rw[Array.findIdx?_eq_none_iff]at H;rw[Array.find?_eq_none];intro x X;simpa using H x X
 rw[this];rfl
theorem oS(H:StrKeys es.toArray):∃u Y,Obj.putName name (PyData.keyHash P name) (.str name tk) v (tA es n)=tA u Y∧StrKeys u.toArray∧
 (u.length≤es.length∨u.length=es.length+1∧nsFind es.toArray name=none)∧∀y,nsFind u.toArray y=if y=name then some v else nsFind es.toArray y:=by
 cases I:es.toArray.findIdx? (·.key.isStr name)with
 |some i=>
  refine⟨(es.toArray.modify i λe=>{e with val:=v}).toList,n,by simp only[Obj.putName_eq,Obj.putNameByArray,I],by simpa using H.modify i v,.inl (by simp),λy=> ?_⟩;have:=findBy_modify (λn v=>v.isStr n) Value.isStr_inj es.toArray name y v i I;simpa[nsFind]using this
 |none=>
  refine⟨(es.toArray.push ⟨PyData.keyHash P name,.str name tk,v⟩).toList,n+1,by simp only[Obj.putName_eq,Obj.putNameByArray,I],by simpa using H.push _ name tk v,.inr ⟨by simp,zF I⟩,λy=> ?_⟩;have:=findBy_push (λn v=>v.isStr n) es.toArray name y (PyData.keyHash P name) (.str name tk) v (λy=>by
   show(name==y)=decide (y=name)
   by_cases h:y=name
   ·subst h;simp
   ·have:¬name=y:=λe=>h e.symm
    simp[h,this]) I
  simpa[nsFind]using this
theorem vQ{E:Value→Shared→Prop}(C:aH w f p ρ s.heap W)(i:iu s.heap a (cK c) d)(g:s.heap.get? d=some (tA es n))(H:StrKeys es.toArray)(L:es.length≤100)
 (h:∀h' u Y tk,h'.get? d=some (tA u Y)→Heap.SameBut d s.heap h'→StrKeys u.toArray→(u.length≤es.length∨u.length=es.length+1∧nsFind es.toArray (an k)=none)→(∀y,nsFind u.toArray y=if y=an k then some x else nsFind es.toArray y)→Q () {s with heap:=h',toks:=tk}):
 wpAny (model PP w) A (setAttr (.ref a) (an k) x) Q E s:=by
 obtain⟨O,od,I,hd,G,R⟩:=fX i ⟨_,_,n,g,rfl,H,λ_=>rfl⟩;rw[g]at G;cases G;have X:=o9 C c;apply set_plain X I (JZ _ c);refine osa_open X I (E1 _ c) (by unfold takerIn;rw[GS];rfl) λb=> ?_;obtain⟨D,F,S⟩:=IE w.params c;obtain⟨u,Y,p1,p2,p3,p4⟩:=oS (P:=w.params) (name:=an k) (tk:=s.toks+1) (v:=x) (n:=n) H;obtain⟨V,N,m,-⟩:=I;obtain⟨o,j,M,J⟩:=O;dsimp only at N hd;subst N hd;refine wpAny_bind (wpAny_pure (wpAny_bind (wpAny_bind (wpAny_loadPart V (wpAny_bind (looks_clsIn X F _ _ _ _ (λ_ _ e=>e) ?_))))));rw[S];refine wpAny_pure (wpAny_bind (wpAny_pure (wpAny_bind ?_)));unfold nsSet;refine wpAny_bind (wpAny_bind (wpAny_askSetting (wpAny_pure (wpAny_bind (wpAny_mkText (wpAny_bind (wpAny_loadPart g ?_)))))));dsimp only;have r:(!es.toArray.any (·.key.isStr (an k))&&es.toArray.any (·.refKey))=false:=by
  have:es.toArray.any (·.refKey)=false:=by
   rw[Array.any_eq_false'];intro e Z;obtain⟨n,t,z⟩:=H e Z;simp[DictEntry.refKey,z]
  rw[this,Bool.and_false]
 rw[aRefKeyMayBeTheName_at,r];have U:(s.heap.update d (Obj.putName (an k) (PyData.keyHash w.params (an k)) (.str (an k) (s.toks+1)) x)).get? d=some (tA u Y):=p1▸Heap.get?_update_self _ g (by rw[p1];rfl);refine wpAny_updatePart g ?_;refine wpAny_bind (wpAny_lookBehind U (pastItsLine_dict (by rw[size_toArray,sizeLine_eq];rcases p3 with p3|p3<;>(first|exact zl 0xb247a6eb319b473b1cf rfl L p3|exact zl 0x2c91e9baccd815832bb1cf rfl L p3.1))) ?_);exact wpAny_pure (h _ u Y _ U (SameBut.update ..) p2 p3 p4)
section
variable{w:World}{os:OsState}{F:List Env}{L:Nat→fQ}{ρ:R}{s:Shared}{W:cw}{E:Value→Shared→Prop}{A:Around}{n u:Nat}
theorem AI(P)(c):plainGet (Kc P c) (cK c) "__class__"=true∧hasDictIn (Kc P c) (cK c)=true∧findIn (Kc P c) (.ref (cK c)) "__class__"=some (some (.builtin "object.__class__"))∧
 mroIn (Kc P c) (cK c) (.type "object")=some true∧subIn (Kc P c) (.ref (cK c)) (.type "str")=some false∧findIn (Kc P c) (.ref (cK c)) "__getattr__"=some none:=by
 cases c
 ·show plainGet (KV P) 318 "__class__"=true∧hasDictIn (KV P) 318=true∧findIn (KV P) (.ref 318) "__class__"=some (some (.builtin "object.__class__"))∧mroIn (KV P) 318 (.type "object")=some true∧subIn (KV P) (.ref 318) (.type "str")=some false∧findIn (KV P) (.ref 318) "__getattr__"=some none
  exact⟨by kernel_rfl,by kernel_rfl,by kernel_rfl,by kernel_rfl,by kernel_rfl,by kernel_rfl⟩
 ·show plainGet (KM P) 614 "__class__"=true∧hasDictIn (KM P) 614=true∧findIn (KM P) (.ref 614) "__class__"=some (some (.builtin "object.__class__"))∧mroIn (KM P) 614 (.type "object")=some true∧subIn (KM P) (.ref 614) (.type "str")=some false∧findIn (KM P) (.ref 614) "__getattr__"=some none
  exact⟨by kernel_rfl,by kernel_rfl,by kernel_rfl,by kernel_rfl,by kernel_rfl,by kernel_rfl⟩
theorem Ju(P)(c):specialIn (Kc P c) (.builtin "object.__class__") "__get__"=some (some (.builtin "getset_descriptor.__get__"))∧takesIn (Kc P c) (.builtin "object.__class__")=some true:=by
 cases c
 ·show specialIn (KV P) (.builtin "object.__class__") "__get__"=some (some (.builtin "getset_descriptor.__get__"))∧takesIn (KV P) (.builtin "object.__class__")=some true
  exact⟨by kernel_rfl,by kernel_rfl⟩
 ·show specialIn (KM P) (.builtin "object.__class__") "__get__"=some (some (.builtin "getset_descriptor.__get__"))∧takesIn (KM P) (.builtin "object.__class__")=some true
  exact⟨by kernel_rfl,by kernel_rfl⟩
noncomputable def Mz:Nat→Value
|0=>.ref 318
|2=>.type "list"
|_=>.type "str"
noncomputable def JI(c:Nat)(x:V)(k:Bool→Prop):Prop:=(c=0∧∃F,x=.dn 0 F∧k true)∨(c=2∧∃b,x=.bool b∧k false)∨(c=3∧((∃s,x=.str s∧k true)∨(∃l,x=.o l∧k false)∨∃d F,x=.dn d F∧k false))
theorem Pc(h:k true):JI 0 (.dn 0 f) k:=.inl ⟨rfl,_,rfl,h⟩
theorem M6(h:k false):JI 2 (.bool b) k:=.inr (.inl ⟨rfl,_,rfl,h⟩)
theorem M5(h:k true):JI 3 (.str gs) k:=.inr (.inr ⟨rfl,.inl ⟨_,rfl,h⟩⟩)
theorem ON(h:k false):JI 3 (.o l) k:=.inr (.inr ⟨rfl,.inr (.inl ⟨_,rfl,h⟩)⟩)
theorem O9(h:k false):JI 3 (.dn d f) k:=.inr (.inr ⟨rfl,.inr (.inr ⟨_,_,rfl,h⟩)⟩)
theorem Kv(hb:DW c x k):JI c x k:=by
 rcases c with _|_|_|_|c
 ·cases x with
  |dn d F=>
   cases d with
   |zero=>exact Pc hb
   |succ d=>exact False.elim hb
  |_=>exact False.elim hb
 ·cases x<;>exact False.elim hb
 ·cases x with
  |bool b=>exact M6 hb
  |_=>exact False.elim hb
 ·cases x with
  |str s=>exact M5 hb
  |o l=>exact ON hb
  |dn d F=>exact O9 hb
  |_=>exact False.elim hb
 ·cases x<;>exact False.elim hb
theorem xl{P:Prop}(hb:DW c x k)(H:∀F,c=0→x=.dn 0 F→k true→P)(h2:∀b,c=2→x=.bool b→k false→P)(h3:∀s,c=3→x=.str s→k true→P)
 (h4:∀l,c=3→x=.o l→k false→P)(h5:∀d F,c=3→x=.dn d F→k false→P):P:=
 (Kv hb).elim (λ⟨e,F,f,h⟩=>H F e f h) λq=>q.elim (λ⟨e,b,f,h⟩=>h2 b e f h) λ⟨e,q⟩=>q.elim (λ⟨s,f,h⟩=>h3 s e f h) λq=>q.elim (λ⟨l,f,h⟩=>h4 l e f h) λ⟨d,F,f,h⟩=>h5 d F e f h
theorem IT(C:aH w F L ρ s.heap W)(hb:DW c x k)(f:VR w s.heap W x a)(K:∀b tk,k b→Q (.bool b) {s with toks:=tk}):
 wpAny (model PP w) A (call (.builtin "isinstance") [a,Mz c]) Q E s:=by
 refine xl hb (λF H X q=> ?_) (λb H X q=> ?_) (λt H X q=> ?_) (λl H X q=> ?_) λd F H X q=> ?_<;>subst H<;>subst X
 ·cases f with
  |dn i G J P j=>
   obtain⟨O,od,I,_⟩:=fX i J;exact isi_call (sJ C (GV _)) (λM=>I.type) (by unfold isIn;rfl) (by intro e;cases e) (K true s.toks q)
 ·cases f;exact IsiPair.bool_list (K false _ q)
 ·cases f;exact IsiPair.str_str (K true s.toks q)
 ·cases f with
  |o g m Y r=>exact IsiPair.isList_str ⟨_,g,rfl,_,rfl⟩ (λ_ _ e=>e) (K false _ q)
 ·cases f with
  |dn i G J P j=>
   obtain⟨O,od,I,_⟩:=fX i J;obtain⟨h1,h2,h3,h4,h5,h6⟩:=AI w.params d;obtain⟨g1,g2⟩:=Ju w.params d;exact kin_call h1 h2 h3 g1 g2 h4 (o9 C d) I (λM h' x=>.of_pure (by kernel_rfl)) (λM h' x=>.of_pure rfl) (rfl) (λM h' x=>looks_subIn x h5) (K false _ q)
theorem BZ(O:c.cps.toList=[C])(H:i≤1000)(g:0≤i)
 (K:∀j k,Q (.str (eG t i C) j) {s with toks:=k}):wpAny (model PP w) A (call (.builtin "str.rjust") [.str t tk,.int i D,.str c f]) Q E s:=by
 have:=x6 O;subst this;refine PyProof.Rows.rjust_fill ?_ rfl λj k=> ?_
 ·unfold PadOk fitsSsize
  have h1:(decide (i< -(2^63))||decide (i≥2^63))=false:=by simp only[Bool.or_eq_false_iff];exact⟨decide_eq_false (zl 0x39a19e9048d81d rfl g),decide_eq_false (zl 0x727e27a0ddd15ae rfl H)⟩
  have h2:Builtin.Str.tooLong i.toNat=false:=by unfold Builtin.Str.tooLong;exact decide_eq_false (by unfold sizeLine;exact zl 0xe4f6b68b810d15ae rfl H)
  rw[h1,h2];rfl
 ·have e:Txt.rjustF t i (Array.getD #[C] 0 0)=eG t i C:=by
   have z:=PyProof.Rows.rjustF_list t i C;have:t.length=t.cps.toList.length:=by simp[Str.length]
   rw[this]at z;have q:∀a b:Str,a.cps.toList=b.cps.toList→a=b:=λa b e=>by cases a;cases b;exact congrArg Str.mk (Array.toList_inj.mp e)
   exact q _ _ (z.trans (by unfold eG;rfl))
  rw[e];exact K ..
theorem Df(r:cW w h W l m):∀{ss},hW l=some ss→StrsAre m ss:=by
 induction r with
 |nil=>exactλe=>Option.some.inj e▸.nil
 | @cons v x l xs r b I=>
  intro ss e;cases r with
  |str y t=>
   change(hW l).map (y:: ·)=some ss at e;generalize hW l=o at e I;cases o with
   |none=>cases e
   |some Y=>cases e;exact .cons y t (I rfl)
  |_=>cases e
theorem lZ(p)(l):(dS (p::l)).cps=p.cps++(dS l).cps:=cps_append p (dS l)
theorem xe(l):∀c,l.foldl (λc p=>c++(⟨#[]⟩:Str).cps++p.cps) c=c++(dS l).cps:=by
 induction l with
 |nil=>exactλc=>(Array.append_empty).symm
 |cons p l I=>intro c;rw[foldl_cons,I,lZ,Array.append_empty,Array.append_assoc]
theorem Fw(l):Txt.join ⟨#[]⟩ l=dS l:=by
 unfold Txt.join Builtin.Str.glued;have q:∀a b:Str,a.cps=b.cps→a=b:=λa b e=>by cases a;cases b;exact congrArg Str.mk e
 apply q;cases l with
 |nil=>rfl
 |cons p l=>
  rw[drop_one,tail_cons,headD_cons,xe];exact(lZ p l).symm
theorem Cw(l):(l.map (·.length)).sum=(dS l).cps.toList.length:=by
 induction l with
 |nil=>rfl
 |cons p l I=>
  rw[map_cons,sum_cons,I];rw[lZ,Array.toList_append,List.length_append];rfl
theorem D2(g:t.cps.toList=[])(x:VR w s.heap W (.o l) b)(e:hW l=some ss)(J:(dS ss).cps.toList.length≤aA)
 (K:∀H k,Q (.str (dS ss) H) {s with toks:=k}):wpAny (model PP w) A (call (.builtin "str.join") [.str t tk,b]) Q E s:=by
 have:t=⟨#[]⟩:=by obtain⟨⟨c⟩⟩:=t;simp only at g;subst g;rfl
 subst this;cases x with
 |o Y P y r=>
  refine PyProof.Rows.join_list ⟨_,Y,rfl,_,rfl⟩ (by simpa using Df r e) ?_ λH k=>by rw[Fw];exact K H k
  rw[Cw];have:=fb J;unfold sizeLine at this;simpa[Str.length]using this
theorem Fy(f:VR w s.heap W (.lJ l) a)
 (K:∀v tk,VR w s.heap W ((a8 x l).getD .none) v→Q v {s with toks:=tk}):wpAny (model PP w) A (call (.builtin "dict.get") [a,.str x tk]) Q E s:=by
 cases f with
 |lJ g P r=>
  refine call_meetsIn PySem.F.slot_dict_get g.1.typeIs PySem.F.entry_dict_get (PySem.F.args_dict_get_2 ..) (meets_dict_get (PySem.strKind PP w) _ (strKind_is PP w x tk) g.2) ⟨_,g.1.mapOf,?_⟩;rcases r.find with⟨Z,z⟩|⟨v,y,Z,z,G⟩
  ·rw[z];rw[Z]at K;exact K _ _ .none
  ·rw[z];rw[Z]at K;exact K _ _ G
theorem zk(C:aH w F L ρ s.heap W){plain:Sem Bool}(i:iu s.heap a (cK c) d)(y:s.heap.Ns d m)(e:m name=none)
 (H:findIn (Kc w.params c) (.ref (cK c)) name=some (some (.ref f)))(t:typeIn (Kc w.params c) (.ref f)=some (.type "function"))
 (h:Q (.ref f,[.ref a]) s):wpAny (model PP w) A (getMethod (.ref a) name plain) Q E s:=by
 obtain⟨O,od,I,_,_,S⟩:=fX i y;obtain⟨_,_,_,_,_,h6⟩:=AI w.params c;refine method_fn (o9 C c) I (F1 _ c) h6 H t ?_ h;unfold shadowIn;simp only[S,e];rfl
end
noncomputable def aQ(n:Str):List (Str×Nat)→Option Nat
|[]=>none
|x::r=>match ax n x.1 with
 |true=>some x.2
 |false=>aQ n r
noncomputable def bR(n:Str):List Str→Bool
|[]=>false
|x::r=>match ax n x with
 |true=>true
 |false=>bR n r
structure Cf where
 nm:List (Str×Nat)
 gs:List Str
 cl:List Str
 lv:Nat
 F2:Bool
 lm:Bool
structure Fn where
 I:Addr
 name:Str
 kd:Nat
 sf:Nat
structure hM where
 g:Nat→Fn
 top:Nat
set_option backward.match.sparseCases false in
noncomputable def aB:Expr→Bool
|.Set .. =>false
|.Slice .. =>false
|.Starred .. =>false
|.Call (.Name ..) [] [] _=>false
|_=>true
set_option backward.match.sparseCases false in
noncomputable def Al:E→Bool
|.comp .. =>true
|.Y e=>Al e
|_=>false
set_option backward.match.sparseCases false in
noncomputable def tK:E→Bool
|.ag .. =>true
|.mZ .. =>true
|.DD .. =>true
|.HE .. =>true
|.d .. =>true
|.call .. =>true
|.gz .. =>true
|.tV .. =>true
|.K=>true
|_=>false
noncomputable def P0:B1→Str
|.abs=>ofString "abs"|.str=>ofString "str"|.list=>ofString "list"|_=>ofString "len"
noncomputable def Oj:MZ→Str
|.sZ=>ofString "divmod"|.max=>ofString "max"|_=>ofString "min"
noncomputable def Hk:Nat→Str
|0=>ofString "Vector"|2=>ofString "list"|_=>ofString "str"
noncomputable def I6:Nat→Str
|0=>ofString "Vector"|_=>ofString "Matching"
noncomputable def iX(nm:List (Str×Nat))(j:Nat):List (Str×NameKind)→List (Str×Nat)
|[]=>[]
|(n,.local)::r=>(match ax n (ofString ".0")with|true=>iX nm j r|false=>(n,j)::iX nm j r)
|(n,.cell)::r=>(n,j)::iX nm j r
|(n,.free)::r=>(match aQ n nm with|some i=>(n,i)::iX nm j r|none=>iX nm j r)
|_::r=>iX nm j r
noncomputable def uW:List (Str×NameKind)→List Str
|[]=>[]
|(n,.globalImplicit)::r=>n::uW r
|_::r=>uW r
noncomputable def tZ:List (Str×NameKind)→List Str
|[]=>[]
|(n,.cell)::r=>n::tZ r
|(n,.free)::r=>n::tZ r
|_::r=>tZ r
noncomputable def rW(C:Cf)(j:Nat)(sc:Scope):Cf:=⟨iX C.nm j sc.names,uW sc.names,tZ sc.names,C.lv,C.F2,false⟩
structure Jk(cf:Cf)(t:Str)(j:Nat)(sc:Scope):Prop where
 kind:sc.kind=.function
 Cb:(sc.names.map (·.1)).Nodup
 has:sc.names.lookup t=some .local∨sc.names.lookup t=some .cell
 Qr:(t==("__debug__":Str))=false∧(t==("__classdict__":Str))=false
 cel:∀n,(n,NameKind.cell)∈sc.names→n=t
 free:∀n,(n,NameKind.free)∈sc.names→n∈cf.cl∧n≠t
 nm:∀n i,aQ n (iX cf.nm j sc.names)=some i→(n=t∧i=j)∨(sc.names.lookup n=some .free∧aQ n cf.nm=some i∧i≠j)
 gl:∀n∈uW sc.names,sc.names.lookup n=some .globalImplicit∧(n==("__debug__":Str))=false
 QY:∀n∈tZ sc.names,(sc.names.lookup n=some .cell∧n=t)∨(sc.names.lookup n=some .free∧n∈cf.cl)
theorem aL(h:(a&&b)=true):a=true:=Bool.rec (λh=>h) (λ_=>rfl) a h
theorem aR(h:(a&&b)=true):b=true:=Bool.rec (λh=>nomatch h) (λh=>h) a h
theorem oE(h:(a||b)=true):a=true∨b=true:=Bool.rec .inr (λ_=>.inl rfl) a h
theorem nE(h:(!a)=true):a=false:=Bool.rec (λ_=>rfl) (λh=>nomatch h) a h
theorem pV:bR n l=true→n∈l:=by
 induction l with
 |nil=>exactλh=>nomatch h
 |cons x r I=>
  show(match ax n x with|true=>true|false=>bR n r)=true→_;cases e:ax n x with
  |true=>exactλ_=>aD.mp e▸.head _
  |false=>exactλh=>.tail _ (I h)
theorem rh:bR n l=false→n∉l:=by
 induction l with
 |nil=>exactλ_ h=>nomatch h
 |cons x r I=>
  show(match ax n x with|true=>true|false=>bR n r)=false→_;cases e:ax n x with
  |true=>exactλh=>nomatch h
  |false=>exactλh m=>(mem_cons.mp m).elim (λq=>bB e q.symm) (I h)
noncomputable def qp(n:Str)(nm:List (Str×Nat))(i:Nat):Bool:=match aQ n nm with
 |some j=>beq i j
 |none=>false
theorem bO:qp n nm i=true→aQ n nm=some i:=by
 unfold qp;cases aQ n nm with
 |some j=>exactλh=>congrArg some (eq_of_beq_eq_true h).symm
 |none=>exactλh=>nomatch h
noncomputable def qZ:List Str→Bool
|[]=>true
|n::r=> !bR n r&&qZ r
theorem gi:qZ l=true→l.Nodup:=by
 induction l with
 |nil=>exactλ_=>nodup_nil
 |cons n r I=>exactλh=>nodup_cons.mpr ⟨rh (nE (aL h)),I (aR h)⟩
theorem lP{a b:Str}(h:¬b=a):(a==b)=false:=by simpa usingλe=>h (Eq.symm e)
noncomputable def DI:Str:=("__debug__")
noncomputable def Rg:Str:=("__classdict__")
noncomputable def Ai(n:Str):Bool:= !ax n DI&& !ax n Rg
theorem gL(h:Ai n=true):(n==("__debug__"))=false∧(n==("__classdict__"))=false:=⟨lP (bB (nE (aL h))),lP (bB (nE (aR h)))⟩
noncomputable def tO(sc:Scope):Bool:=decide (sc.kind=.function)
noncomputable def kB(k:NameKind)(k':NameKind):Bool:=decide (k'=k)
theorem bL{l:List (Str×NameKind)}:(l.map (·.1)).Nodup→(n,k)∈l→l.lookup n=some k:=by
 induction l with
 |nil=>exactλ_ h=>nomatch h
 |cons m l I=>
  intro N h;have N:=nodup_cons.mp N;rw[lookup_cons];rcases mem_cons.mp h with e|h
  ·subst e;rw[beq_self_eq_true]
  ·rw[lP λq=>N.1 (mem_map.mpr ⟨_,h,q.symm⟩)]
   exact I N.2 h
noncomputable def Lj(C:Cf)(t:Str)(j:Nat)(x:Str×NameKind):Bool:=
 (kB .local x.2&&(ax x.1 t||ax x.1 (ofString ".0")))||((kB .cell x.2&&ax x.1 t)||((kB .free x.2&&(!ax x.1 t&&(bR x.1 C.cl&& !qp x.1 C.nm j)))||(kB .globalImplicit x.2&& !ax x.1 DI)))
noncomputable def jG(t:Str)(x:Str×NameKind):Bool:=(kB .local x.2||kB .cell x.2)&&ax x.1 t
noncomputable def G5(C:Cf)(t:Str)(j:Nat)(sc:Scope):Bool:=tO sc&&(qZ (sc.names.map (·.1))&&(sc.names.any (jG t)&&(Ai t&&sc.names.all (Lj C t j))))
theorem dO:aQ n ((m,a)::r)=some i→(n=m∧a=i)∨aQ n r=some i:=by
 show(match ax n m with|true=>some a|false=>aQ n r)=some i→_;cases e:ax n m with
 |true=>exactλq=>.inl ⟨aD.mp e,Option.some.inj q⟩
 |false=>exact .inr
theorem uk{n:Str}:aQ n (iX nm j l)=some i→∃k,(n,k)∈l∧(k=.local∧i=j∧¬n=ofString ".0"∨k=.cell∧i=j∨k=.free∧aQ n nm=some i):=by
 induction l with
 |nil=>exactλh=>nomatch h
 |cons p l I=>
  have U:=λz=>(I z).imp λk z=>And.intro (mem_cons_of_mem p z.1) z.2;obtain⟨m,k⟩:=p;cases k with
  |«local»=>
   show aQ n (match ax m (Str.ofString ".0")with|true=>iX nm j l|false=>(m,j)::iX nm j l)=some i→_;cases e:ax m (ofString ".0")with
   |true=>exact U
   |false=>exactλh=>(dO h).elim (λq=>⟨_,q.1▸.head _,.inl ⟨rfl,q.2.symm,λz=>bB e (q.1▸z.symm)⟩⟩) U
  |cell=>exactλh=>(dO h).elim (λq=>⟨_,q.1▸.head _,.inr (.inl ⟨rfl,q.2.symm⟩)⟩) U
  |free=>
   show aQ n (match aQ m nm with|some i=>(m,i)::iX nm j l|none=>iX nm j l)=some i→_;cases e:aQ m nm with
   |none=>exact U
   |some a=>exactλh=>(dO h).elim (λq=>⟨_,q.1▸.head _,.inr (.inr ⟨rfl,q.1▸q.2▸e⟩)⟩) U
  |_=>exact U
theorem oF:n∈uW l→(n,NameKind.globalImplicit)∈l:=by
 induction l with
 |nil=>exactλh=>nomatch h
 |cons p l I=>
  obtain⟨m,k⟩:=p;cases k with
  |globalImplicit=>exactλh=>(mem_cons.mp h).elim (λq=>q▸.head _) λh=>.tail _ (I h)
  |_=>exactλh=>.tail _ (I h)
theorem uS:n∈tZ l→∃k,(n,k)∈l∧(k=.cell∨k=.free):=by
 induction l with
 |nil=>exactλh=>nomatch h
 |cons p l I=>
  have U:=λz=>(I z).imp λk z=>And.intro (mem_cons_of_mem p z.1) z.2;obtain⟨m,k⟩:=p;cases k with
  |cell=>exactλh=>(mem_cons.mp h).elim (λq=>⟨_,q▸.head _,.inl rfl⟩) U
  |free=>exactλh=>(mem_cons.mp h).elim (λq=>⟨_,q▸.head _,.inr rfl⟩) U
  |_=>exact U
theorem E0(h:Lj C t j (n,k)=true):(k=.local∧(n=t∨n=ofString ".0"))∨(k=.cell∧n=t)∨(k=.free∧n≠t∧n∈C.cl∧qp n C.nm j=false)∨(k=.globalImplicit∧¬DI=n):=
 (oE h).imp (λh=>⟨of_decide_eq_true (aL h),(oE (aR h)).imp aD.mp aD.mp⟩) λh=>(oE h).imp (λh=>⟨of_decide_eq_true (aL h),aD.mp (aR h)⟩) λh=>
  (oE h).imp (λh=>⟨of_decide_eq_true (aL h),λq=>bB (nE (aL (aR h))) q.symm,pV (aL (aR (aR h))),nE (aR (aR (aR h)))⟩) λh=>⟨of_decide_eq_true (aL h),bB (nE (aR h))⟩
theorem AV(h:G5 C t j sc=true):Jk C t j sc:=by
 have N:=gi (aL (aR h));have T:=λ{n k}M=>E0 (all_eq_true.mp (aR (aR (aR (aR h)))) (n,k) M);refine⟨of_decide_eq_true (aL h),N,?_,gL (aL (aR (aR (aR h)))),λn H=> ?_,λn H=> ?_,λn i I=> ?_,λn H=> ?_,λn H=> ?_⟩
 ·obtain⟨⟨n,k⟩,M,G⟩:=any_eq_true.mp (aL (aR (aR h)))
  have e:=aD.mp (aR G);subst e;exact(oE (aL G)).imp (λq=>(of_decide_eq_true q:k=.local)▸bL N M) λq=>(of_decide_eq_true q:k=.cell)▸bL N M
 ·rcases T H with⟨q,_⟩|⟨_,q⟩|⟨q,_⟩|⟨q,_⟩<;>first|exact q|cases q
 ·rcases T H with⟨q,_⟩|⟨q,_⟩|⟨_,Q,R,_⟩|⟨q,_⟩<;>first|exact⟨R,Q⟩|cases q
 ·obtain⟨k,m,K⟩:=uk I
  have E:=T m;rcases K with⟨rfl,rfl,ne⟩|⟨rfl,rfl⟩|⟨rfl,e⟩
  ·rcases E with⟨_,q|q⟩|⟨q,_⟩|⟨q,_⟩|⟨q,_⟩<;>first|exact .inl ⟨q,rfl⟩|exact absurd q ne|cases q
  ·rcases E with⟨q,_⟩|⟨_,q⟩|⟨q,_⟩|⟨q,_⟩<;>first|exact .inl ⟨q,rfl⟩|cases q
  ·rcases E with⟨q,_⟩|⟨q,_⟩|⟨_,_,_,q⟩|⟨q,_⟩<;>first|exact .inr ⟨bL N m,e,λz=>by subst z;unfold qp at q;rw[e]at q;exact Bool.false_ne_true (q.symm.trans (beq_refl i))⟩|cases q
 ·have m:=oF H
  rcases T m with⟨q,_⟩|⟨q,_⟩|⟨q,_⟩|⟨_,q⟩<;>first|exact⟨bL N m,lP q⟩|cases q
 ·obtain⟨k,m,K⟩:=uS H
  have E:=T m;rcases K with rfl|rfl
  ·rcases E with⟨q,_⟩|⟨_,q⟩|⟨q,_⟩|⟨q,_⟩<;>first|exact .inl ⟨bL N m,q⟩|cases q
  ·rcases E with⟨q,_⟩|⟨q,_⟩|⟨_,_,q,_⟩|⟨q,_⟩<;>first|exact .inr ⟨bL N m,q⟩|cases q
noncomputable def P2:Expr:=.Name ⟨#[]⟩ ⟨0,0,0,0⟩
abbrev x0(l:List Expr):List Expr×Nat×Str×Scope×Bool:=(l,0,⟨#[]⟩,default,true)
set_option backward.match.sparseCases false in
noncomputable def xA:Expr→List Expr×Nat×Str×Scope×Bool
|.BoolOp _ xs _=>x0 xs
|.BinOp l _ r _=>x0 [l,r]
|.UnaryOp _ y _=>x0 [y]
|.Lambda _ y s _=>([y],0,⟨#[]⟩,s,true)
|.IfExp t a b _=>x0 [t,a,b]
|.ListComp e gs s _=>(e::gs.flatMap λg=>g.target::g.iter::g.ifs,0,⟨#[]⟩,s,false)
|.SetComp .. =>([],0,⟨#[]⟩,default,false)
|.DictComp .. =>([],0,⟨#[]⟩,default,false)
|.Compare l _ C _=>x0 (l::C)
|.Call f xs _ _=>x0 (f::xs)
|.Attribute y _ _=>x0 [y]
|.Subscript y z _=>x0 [y,z]
|.List xs _=>x0 xs
|.Tuple xs k _=>(xs,k,⟨#[]⟩,default,true)
|.Slice l u _ _=>x0 [l.getD P2,u.getD P2]
|.Constant _ k _=>([],k,⟨#[]⟩,default,true)
|.Name n _=>([],0,n,default,true)
|_=>x0 []
noncomputable def bP(x:Expr):=(xA x).1
noncomputable def G2(x:Expr):=(xA x).2.1
noncomputable def fg(x:Expr):=(xA x).2.2.1
noncomputable def qD(x:Expr):=(xA x).2.2.2.1
noncomputable def dY(x:Expr):=(xA x).2.2.2.2
noncomputable def hd:List Expr→Expr
|[]=>P2
|x::_=>x
noncomputable def kd(x:Expr):Nat→Expr
|0=>hd (bP x)
|1=>hd (bP x).tail
|2=>hd (bP x).tail.tail
|_=>hd (bP x).tail.tail.tail
noncomputable def vX(x:Expr):Expr:=.Name (fg x) x.pos
noncomputable def nX(n:Str)(x:Expr):Expr:=.Name n x.pos
noncomputable def CS:Fb→Expr→Expr
|.v _,x=>vX x
|.f _ n,x=>.Attribute (vX (kd x 0)) (an n) x.pos
section
variable(g:Nat→Fn)
set_option backward.match.sparseCases false in
mutual
noncomputable def aO:E→Expr→Expr
|.X,x=>.Constant .none (G2 x) x.pos
|.cB b,x=>.Constant (.bool b) (G2 x) x.pos
|.p i,x=>.Constant (.int i) (G2 x) x.pos
|.M s,x=>.Constant (.str s) (G2 x) x.pos
|.tQ _,x=>nX (Str.ofString "MOST_LENGTH") x
|.d _,x=>vX x
|.JF _,x=>vX x
|.qz i n,x=>CS (.f i n) x
|.w o a b,x=>.BinOp (aO a (kd x 0)) (yX o) (aO b (kd x 1)) x.pos
|.neg a,x=>.UnaryOp .USub (aO a (kd x 0)) x.pos
|.fO a,x=>.UnaryOp .Not (aO a (kd x 0)) x.pos
|.Q es,x=>.BoolOp .And (bC es (bP x)) x.pos
|.cL es,x=>.BoolOp .Or (bC es (bP x)) x.pos
|.ite t a b,x=>.IfExp (aO t (kd x 0)) (aO a (kd x 1)) (aO b (kd x 2)) x.pos
|.ag o a b,x=>.Compare (aO a (kd x 0)) [uh o] [aO b (kd x 1)] x.pos
|.mZ o q a b c,x=>.Compare (aO a (kd x 0)) [uh o,uh q] [aO b (kd x 1),aO c (kd x 2)] x.pos
|.DD m y p,x=>.Compare (aO y (kd x 0)) [uh (JM m)] [CS p (kd x 1)] x.pos
|.HE p,x=>.Compare (CS p (kd x 0)) [.NotEq] [.List [] (kd x 1).pos] x.pos
|.L es,x=>.Tuple (bC es (bP x)) (G2 x) x.pos
|.Z es,x=>.List (bC es (bP x)) x.pos
|.sub a i,x=>.Subscript (aO a (kd x 0)) (aO i (kd x 1)) x.pos
|.dZ p i,x=>.Subscript (CS p (kd x 0)) (aO i (kd x 1)) x.pos
|.sl a lo H,x=>.Subscript (aO a (kd x 0)) (.Slice (match oX lo with|true=>none|false=>some (aO lo (kd (kd x 1) 0))) (match oX H with|true=>none|false=>some (aO H (kd (kd x 1) 1))) none (kd x 1).pos) x.pos
|.J a n,x=>.Attribute (aO a (kd x 0)) (an n) x.pos
|.jZ p,x=>.Call (nX (Str.ofString "len") (kd x 0)) [CS p (kd x 1)] [] x.pos
|.call f as,x=>.Call (nX (g f).name (kd x 0)) (bC as (bP x).tail) [] x.pos
|.P f _ as,x=>.Call (nX (g f).name (kd x 0)) (vX (kd x 1)::bC as (bP x).tail.tail) [] x.pos
|.gz f _ as,x=>.Call (.Attribute (vX (kd (kd x 0) 0)) (g f).name (kd x 0).pos) (bC as (bP x).tail) [] x.pos
|.new c _ as,x=>.Call (nX (I6 c) (kd x 0)) (bC as (bP x).tail) [] x.pos
|.b1 o a,x=>.Call (nX (P0 o) (kd x 0)) [aO a (kd x 1)] [] x.pos
|.b2 o a b,x=>.Call (nX (Oj o) (kd x 0)) [aO a (kd x 1),aO b (kd x 2)] [] x.pos
|.tV a c,x=>.Call (nX (Str.ofString "isinstance") (kd x 0)) [aO a (kd x 1),nX (Hk c) (kd x 2)] [] x.pos
|.Jy _,x=>.Call (.Attribute (vX (kd (kd x 0) 0)) (Str.ofString "pop") (kd x 0).pos) [] [] x.pos
|.join a b,x=>.Call (.Attribute (aO a (kd (kd x 0) 0)) (Str.ofString "join") (kd x 0).pos) [aO b (kd x 1)] [] x.pos
|.jD a b c,x=>.Call (.Attribute (aO a (kd (kd x 0) 0)) (Str.ofString "rjust") (kd x 0).pos) [aO b (kd x 1),aO c (kd x 2)] [] x.pos
|.wB a b,x=>.Call (.Attribute (aO a (kd (kd x 0) 0)) (Str.ofString "get") (kd x 0).pos) [aO b (kd x 1)] [] x.pos
|.comp _ I c e,x=>.ListComp (aO e (kd x 0)) [⟨vX (kd x 1),aO I (kd x 2),match oX c with|true=>[]|false=>[aO c (kd x 3)],0⟩] (qD x) x.pos
|.eJ as,x=>.Call (nX (Str.ofString "range") (kd x 0)) (bC as (bP x).tail) [] x.pos
|.Y e,x=>aO e x
|.j6 e,x=>aO e x
|.D e,x=>aO e x
|_,x=>x
noncomputable def bC:E→List Expr→List Expr
|.cons e es,xs=>(match lg e with
 |true=>[]
 |false=>aO e (hd xs)::bC es xs.tail)
|_,_=>[]
end
noncomputable def Fg(C:Cf):Fb→Expr→Bool
|.v i,x=>qp (fg x) C.nm i
|.f i _,x=>qp (fg (kd x 0)) C.nm i
set_option backward.match.sparseCases false in
noncomputable def wG:E→Bool
|.cons e es=>lg e||wG es
|_=>false
noncomputable def NZ:List Expr→Bool
|[]=>false
|_::_=>true
theorem w0(h:NZ l=true):∃y Y,l=y::Y:=by
 cases l with
 |nil=>cases h
 |cons y Y=>exact⟨y,Y,rfl⟩
noncomputable def JS(C:Cf)(f k r:Nat):Bool:=beq (g f).kd k&&(blt f C.lv&&ble (g f).sf r)
noncomputable def JC(x y:Expr):Bool:=x.pos.endLine==y.pos.line
set_option backward.match.sparseCases false in
mutual
noncomputable def bT:E→Cf→Expr→Bool
|.X,_,_=>true
|.cB _,_,_=>true
|.p _,_,_=>true
|.M _,_,_=>true
|.tQ i,C,_=>decide (i=1000000)&&bR (Str.ofString "MOST_LENGTH") C.gs
|.d i,C,x=>qp (fg x) C.nm i
|.JF i,C,x=>qp (fg x) C.nm i
|.qz i _,C,x=>qp (fg (kd x 0)) C.nm i
|.w _ a b,C,x=>bT a C (kd x 0)&&bT b C (kd x 1)
|.neg a,C,x=>bT a C (kd x 0)
|.fO a,C,x=>bT a C (kd x 0)
|.Q es,C,x=>D0 es C (bP x)
|.cL es,C,x=>D0 es C (bP x)
|.ite t a b,C,x=>Am t C (kd x 0)&&(bT a C (kd x 1)&&bT b C (kd x 2))
|.ag _ a b,C,x=>aB (aO g b (kd x 1))&&(bT a C (kd x 0)&&bT b C (kd x 1))
|.mZ _ _ a b c,C,x=>aB (aO g b (kd x 1))&&(aB (aO g c (kd x 2))&&(bT a C (kd x 0)&&(bT b C (kd x 1)&&bT c C (kd x 2))))
|.DD _ y p,C,x=>bT y C (kd x 0)&&Fg C p (kd x 1)
|.HE p,C,x=>Fg C p (kd x 0)
|.L es,C,x=> !wG es&&qo es C (bP x)
|.Z es,C,x=> !wG es&&qo es C (bP x)
|.sub a i,C,x=>aB (aO g i (kd x 1))&&(bT a C (kd x 0)&&bT i C (kd x 1))
|.dZ p i,C,x=>aB (aO g i (kd x 1))&&(Fg C p (kd x 0)&&bT i C (kd x 1))
|.sl a lo H,C,x=>bT a C (kd x 0)&&((oX lo||bT lo C (kd (kd x 1) 0))&&(oX H||bT H C (kd (kd x 1) 1)))
|.J a _,C,x=>aB (aO g a (kd x 0))&&bT a C (kd x 0)
|.jZ p,C,x=>bR (Str.ofString "len") C.gs&&Fg C p (kd x 1)
|.call f as,C,x=>bR (g f).name C.gs&&(JS g C f 0 (bC g as (bP x).tail).length&&qo as C (bP x).tail)
|.P f i as,C,x=>bR (g f).name C.gs&&(JS g C f 0 ((bC g as (bP x).tail.tail).length+1)&&(qp (fg (kd x 1)) C.nm i&&qo as C (bP x).tail.tail))
|.gz f i as,C,x=>JC (kd x 0) x&&(JS g C f 1 ((bC g as (bP x).tail).length+1)&&(qp (fg (kd (kd x 0) 0)) C.nm i&&(qo as C (bP x).tail&&Nat.blt (bC g as (bP x).tail).length 20)))
|.new c f as,C,x=>bR (I6 c) C.gs&&(JS g C f (2+c) ((bC g as (bP x).tail).length+1)&&(Nat.blt c 2&&qo as C (bP x).tail))
|.b1 o a,C,x=>bR (P0 o) C.gs&&(aB (aO g a (kd x 1))&&bT a C (kd x 1))
|.b2 o a b,C,x=>bR (Oj o) C.gs&&(aB (aO g a (kd x 1))&&(aB (aO g b (kd x 2))&&(bT a C (kd x 1)&&bT b C (kd x 2))))
|.tV a c,C,x=>bR (Str.ofString "isinstance") C.gs&&(bR (Hk c) C.gs&&(aB (aO g a (kd x 1))&&bT a C (kd x 1)))
|.Jy i,C,x=>JC (kd x 0) x&&qp (fg (kd (kd x 0) 0)) C.nm i
|.join a b,C,x=>JC (kd x 0) x&&(aB (aO g a (kd (kd x 0) 0))&&(aB (aO g b (kd x 1))&&(bT a C (kd (kd x 0) 0)&&bT b C (kd x 1))))
|.jD a b c,C,x=>JC (kd x 0) x&&(aB (aO g a (kd (kd x 0) 0))&&(aB (aO g b (kd x 1))&&(aB (aO g c (kd x 2))&&(bT a C (kd (kd x 0) 0)&&(bT b C (kd x 1)&&bT c C (kd x 2))))))
|.wB a b,C,x=>JC (kd x 0) x&&(aB (aO g a (kd (kd x 0) 0))&&(aB (aO g b (kd x 1))&&(bT a C (kd (kd x 0) 0)&&bT b C (kd x 1))))
|.comp j I c e,C,x=>qp (fg (kd x 1)) (iX C.nm j (qD x).names) j&&(G5 C (fg (kd x 1)) j (qD x)&&(aB (aO g I (kd x 2))&&(bT I C (kd x 2)&&(MR c (rW C j (qD x)) (kd x 3)&&bT e (rW C j (qD x)) (kd x 0)))))
|.eJ as,C,x=>bR (Str.ofString "range") C.gs&&(!wG as&&(NZ (bC g as (bP x).tail)&&qo as C (bP x).tail))
|.K,_,x=>dY x
|.Y e,C,x=>bT e C x
|.j6 e,C,x=>bT e C x
|.D e,C,x=>bT e C x
|_,_,_=>false
noncomputable def qo:E→Cf→List Expr→Bool
|.nil,_,_=>true
|.cons e es,C,xs=>(match lg e with
 |true=>ir es
 |false=>aB (aO g e (hd xs))&&(bT e C (hd xs)&&qo es C xs.tail))
|_,_,_=>false
noncomputable def D0:E→Cf→List Expr→Bool
|.nil,_,_=>true
|.cons e es,C,xs=> !lg e&&(bT e C (hd xs)&&((ir es||NZ (bC g es xs.tail))&&D0 es C xs.tail))
|_,_,_=>false
noncomputable def Am:E→Cf→Expr→Bool
|.fO a,C,x=>Am a C (kd x 0)
|.Q es,C,x=>rC es C (bP x)
|.cL es,C,x=>rC es C (bP x)
|.ite t a b,C,x=>Am t C (kd x 0)&&(Am a C (kd x 1)&&Am b C (kd x 2))
|.D e,C,x=>bT e C x&&tK e
|_,_,_=>false
noncomputable def MR:E→Cf→Expr→Bool
|.no,_,_=>true
|.D e,C,x=>Am e C x
|_,_,_=>false
noncomputable def rC:E→Cf→List Expr→Bool
|.nil,_,_=>true
|.cons e es,C,xs=> !lg e&&(Am e C (hd xs)&&rC es C xs.tail)
|_,_,_=>false
end
end
noncomputable def Dv:Option Obj→List DictEntry
|some ⟨_,_,.dict es _,_⟩=>es.toList
|_=>[]
noncomputable def Hx:Option Obj→Nat
|some ⟨_,_,.dict _ p,_⟩=>p
|_=>0
noncomputable def dM(P:Params):List DictEntry:=Dv ((Hd.bD P).get 3)
noncomputable def Bz(P:Params):List DictEntry:=Dv ((Hd.bD P).get 0)
noncomputable def gG:Value→Option Str
|.str n _=>some n
|_=>none
theorem q9:(gG v).isSome=true→∃n t,v=.str n t:=by
 cases v<;>first|exactλ_=>⟨_,_,rfl⟩|exactλh=>nomatch h
noncomputable def u7(l:List DictEntry):Bool:=l.all λe=>(gG e.key).isSome
theorem cG(h:u7 l=true):StrKeys l.toArray:=λe H=>q9 (all_eq_true.mp h e (by simpa using H))
noncomputable def aY(n:Str):List DictEntry→Option Value
|[]=>none
|e::r=>match gG e.key with
 |some m=>(match ax n m with
  |true=>some e.val
  |false=>aY n r)
 |none=>aY n r
theorem iT:StrKeys l.toArray→nsFind l.toArray n=aY n l:=by
 unfold nsFind findBy;rw[←Array.find?_toList];induction l with
 |nil=>exactλ_=>rfl
 |cons x l I=>
  intro h;obtain⟨m,t,e⟩:=h x (by simp);show((x::l).find? _).map _=(match gG x.key with
   |some m=>(match ax n m with
    |true=>some x.val
    |false=>aY n l)
   |none=>aY n l)
  rw[find?_cons,e];show((match m==n with|true=>some x|false=>l.find? _)).map _=(match ax n m with|true=>some x.val|false=>aY n l);cases q:ax n m with
  |true=>rw[aD.mp q,beq_self_eq_true];rfl
  |false=>rw[lP λz=>bB q z.symm];exact I λe H=>h e (by simp at H⊢;exact .inr H)
theorem u5(P):(Hd.bD P).get 3=some (tA (dM P) (Hx ((Hd.bD P).get 3))):=by kernel_rfl
theorem D9(P):(Hd.bD P).get 0=some (tA (Bz P) (Hx ((Hd.bD P).get 0))):=by kernel_rfl
theorem jf(P):u7 (dM P)=true:=by kernel_rfl
theorem vm(P):u7 (Bz P)=true:=by kernel_rfl
inductive DE(fs:List Env)(h:Heap)(a:Addr)(T:Option Addr)(m:Str):Prop where
 |mk {oe vs d hd md t} (g:h.get? a=some oe) (c1:oe.cls=.ref 291) (c2:oe.dict=some d) (c3:oe.data=.fields vs) (c4:vs[1]? =some hd)
  (c5:match T with
   |none=>hd=.none
   |some t=>hd=.ref t∧t≠a∧∃oT ts fl,h.get? t=some oT∧oT.data=.fields ts∧ts[3]? =some fl) (nd:h.Ns d md) (em:md (Str.ofString "message")=some (.str m t))
  (fr:∀env∈fs,env.scope.kind≠.module∧∃L m',env.frame=some L∧h.Ns L m')
inductive XS(os:OsState)(fs:List Env)(h:Heap)(W:cw)(a:Addr)(m:Str)(s':Shared):Prop where
 |mk {T} (gens:s'.gens= #[]) (os:s'.os=os) (keep:KE h W s'.heap W) (fly:DE fs s'.heap a T m)
  (nn:∀b o,h.get? b=some o→(qC (W b).1∨ve (W b).1)→b≠a∧T≠some b) (tb:(W 910).1=4→∀vs,h.get? 910=some (cD vs)→910≠a∧T≠some 910)
theorem KE.self(k:KE h W h' W'):KE h W h' W:=
 ⟨λa o e l=>⟨(k.ex a o e l).1,rfl⟩,λa o e l=>⟨(k.sl a o e l).1,rfl⟩,k.there,λV l e=>⟨rfl,(k.jd V l e).2⟩⟩
theorem XS.pre{os fs h W RC RD a m s'}(k:KE h W RC RD):XS os fs RC RD a m s'→XS os fs h W a m s'
|.mk g o e f n tb=>.mk g o (KE.self (k.trans e)) f
 (λb o e' l=>l.elim (λl=>have z:=k.ex b o e' l;n b o z.1 (.inl (z.2▸l))) λl=>(k.there b o e' l).elim λo' z=>n b o' z (.inr ((k.sl b o e' l).2▸l)))
 λl vs e=>have z:=k.jd vs l e;z.2.elim λ_ e'=>tb (z.1▸l) _ e'
structure jw(cf:Cf)(env:Env)(pl:Nat→fQ):Prop where
 kind:env.scope.kind=.function
 vn:env.globals=mainGlobals
 blt:env.builtins=builtinsNs
 d:∀n i,aQ n cf.nm=some i→(n==("__debug__":Str))=false∧(n==("__classdict__":Str))=false∧
  ((env.kindOf n=some .local∧pl i=.ns env.locals n)∨((env.kindOf n=some .cell∨env.kindOf n=some .free)∧∃c,env.cells.lookup n=some c∧pl i=.cell c))
 Ij:∀n∈cf.cl,∃c,env.cells.lookup n=some c∧(env.kindOf n=some .cell∨env.kindOf n=some .free)∧∀i,aQ n cf.nm=some i→pl i=.cell c
 gl:∀n∈cf.gs,env.kindOf n=some .globalImplicit∧(n==("__debug__":Str))=false
section
variable{w:World}{F:List Env}{L:Nat→fQ}{ρ:R}{s:Shared}{W:cw}{E:Value→Shared→Prop}{A:Around}{f:Cf}{env:Env}{Q:Value→Shared→Prop}{M:Model}
theorem AK(O:jw f env L)(h:aQ n f.nm=some i)(a:(L i).At s.heap (some v))(q:Q v s):wpAny M A (loadName env n) Q E s:=
 have z:=O.d n i h
 z.2.2.elim (λy=>(y.2▸a).elim λm e=>wpAny_loadName_local O.kind y.1 e.1 e.2 q) λy=>y.2.elim λc e=>
  have S:(fQ.cell c).At s.heap (some v):=e.2▸a
  y.1.elim (λk=>wpAny_loadName_cell O.kind k e.1 S q) λk=>wpAny_loadName_free O.kind k e.1 S q z.2.1
theorem bz(O:jw f env L)(h:aQ n f.nm=some i)(a:(L i).At s.heap (some v))(q:Q v s):wpAny M A (eval (.Name n p) env) Q E s:=
 wpAny_Name (AK O h a q) (O.d n i h).1
theorem aH.main(C:aH w F L ρ s.heap W):s.heap.Ns mainGlobals (λn=>aY n (dM w.params)):=
 ⟨_,_,_,C.obj (by decide) (by decide) (u5 _) rfl,rfl,cG (jf _),λn=>iT (cG (jf _))⟩
theorem aH.blt(C:aH w F L ρ s.heap W):s.heap.Ns builtinsNs (λn=>aY n (Bz w.params)):=
 ⟨_,_,_,C.obj (by decide) (by decide) (D9 _) rfl,rfl,cG (vm _),λn=>iT (cG (vm _))⟩
noncomputable def dy(P:Params)(n:Str)(v:Value):Prop:=aY n (dM P)=some v∨aY n (dM P)=none∧aY n (Bz P)=some v
theorem dE(O:jw f env L)(C:aH w F L ρ s.heap W)(h:bR n f.gs=true)(e:dy w.params n v)(q:Q v s):wpAny M A (eval (.Name n p) env) Q E s:=
 have z:=O.gl n (pV h)
 Name_function_global O.kind z.1 (e.elim (λe=>loadGlobal_global (mg:=λn=>aY n (dM w.params)) (O.vn▸C.main) e q)
  λe=>loadGlobal_builtin (mg:=λn=>aY n (dM w.params)) (mb:=λn=>aY n (Bz w.params)) (O.vn▸C.main) e.1 (O.blt▸C.blt) e.2 q) z.2
end
set_option backward.match.sparseCases false in
noncomputable def br:E→Nat
|.w _ a b=>max (br a) (br b)|.neg a=>br a|.fO a=>br a|.Q a=>br a|.cL a=>br a|.ite t a b=>max (br t) (max (br a) (br b))
|.ag _ a b=>max (br a) (br b)|.mZ _ _ a b c=>max (br a) (max (br b) (br c))|.DD _ x _=>br x|.L a=>br a|.Z a=>br a|.cons a b=>max (br a) (br b)|.j6 e=>br e
|.sub a b=>max (br a) (br b)|.dZ _ a=>br a|.sl a b c=>max (br a) (max (br b) (br c))|.J a _=>br a|.call _ a=>br a|.P _ _ a=>br a|.gz _ _ a=>br a|.new _ _ a=>br a
|.b1 _ a=>br a|.b2 _ a b=>max (br a) (br b)|.tV a _=>br a|.join a b=>max (br a) (br b)|.jD a b c=>max (br a) (max (br b) (br c))|.wB a b=>max (br a) (br b)
|.comp _ a b c=>max (br a) (max (br b) (br c))+2|.eJ a=>br a|.dj _ _ a=>br a|.D a=>br a|.Y a=>br a
|_=>0
theorem mL{a b u:Nat}(h:max a b≤u):a≤u:=Nat.le_trans (Nat.le_max_left ..) h
theorem mR{a b u:Nat}(h:max a b≤u):b≤u:=Nat.le_trans (Nat.le_max_right ..) h
structure Fr(fn:hM)where
 cf:Cf
 env:Env
 fs:List Env
 pl:Nat→fQ
 A:Around
 u:Nat
 O:jw cf env pl
 hA:DH A fs cf.lv u
 tp:cf.lv≤fn.top
structure Zt(w:World)(os:OsState)(fs:List Env)(pl:Nat→fQ)where
 ρ:R
 s:Shared
 W:cw
 S:St w os fs pl ρ s W
section
variable{w:World}{os:OsState}{F:List Env}{P:Nat→fQ}
noncomputable abbrev Le(z d:Zt w os F P):Prop:=KE z.s.heap z.W d.s.heap d.W
noncomputable def KQ(z:Zt w os F P)(k:Rv→R→Prop)(Q:Value→Shared→Prop):Prop:=∀r Z v,k r Z.ρ→Le z Z→a5 w Z.s.heap Z.W 2 r.s v→Q v Z.s
noncomputable def KX(z:Zt w os F P)(X:Str→Prop)(E:Value→Shared→Prop):Prop:=∀m a S,X m→XS os F z.s.heap z.W a m S→E (.ref a) S
noncomputable def GC(z:Zt w os F P)(k:Bool→R→Prop)(Q:Bool→Shared→Prop):Prop:=∀c Z,k c Z.ρ→Le z Z→Q c Z.s
noncomputable def RA(z:Zt w os F P)(len:Nat)(d:Bool)(k:List V→R→Prop)(Q:List Value→Shared→Prop):Prop:=∀s n Z xs,(d=false→n=0)→k (s++replicate n .none) Z.ρ→Le z Z→cW w Z.s.heap Z.W s xs→xs.length=len→Q xs Z.s
variable{z z₁:Zt w os F P}{k:Rv→R→Prop}{X:Str→Prop}{Q:Value→Shared→Prop}{E:Value→Shared→Prop}
theorem KQ.after(K:KQ z k Q)(e:Le z z₁):KQ z₁ k Q:=λr Z v h J o=>K r Z v h (e.trans J) o
theorem KX.after(K:KX z X E)(e:Le z z₁):KX z₁ X E:=λm a S h x=>K m a S h (x.pre e)
theorem GC.after{k:Bool→R→Prop}{Q:Bool→Shared→Prop}(K:GC z k Q)(e:Le z z₁):GC z₁ k Q:=λc Z h J=>K c Z h (e.trans J)
theorem KQ.res(K:KQ z k Q):fL w os F P z.ρ z.s z.W (λr=>k r z.ρ) Q:=λr S W' v h s e o=>K r ⟨z.ρ,S,W',s⟩ v h e o
theorem KQ.j(K:KQ z k Q)(r:VR w z.s.heap z.W v x)(h:k (.j v) z.ρ):Q x {z.s with toks:=t}:=K (.j v) ⟨z.ρ,_,z.W,z.S.mX⟩ x h .refl r
theorem KQ.JB(K:KQ z k Q)(r:VR w z.s.heap z.W v x)(h:k (.j v) z.ρ):Q x z.s:=K (.j v) z x h .refl r
noncomputable abbrev Zt.Y(z:Zt w os F P):Zt w os F P:=⟨z.ρ,z.s,λa=>lb 2 0 (z.W a),z.S.gens,z.S.os,z.S.H.bo⟩
noncomputable abbrev Zt.tk(z:Zt w os F P)(t:Nat):Zt w os F P:=⟨z.ρ,{z.s with toks:=t},z.W,z.S.mX⟩
end
section
variable(w:World)(os:OsState)(F:Nat→Spec)(fn:hM)
noncomputable def au(e:E):Prop:=∀(c:Fr fn)(z:Zt w os c.fs c.pl)x k X Q E,
 bT fn.g e c.cf x=true→br e≤c.u→ev F e z.ρ k X→KQ z k Q→KX z X E→wpAny (model PP w) c.A (eval (aO fn.g e x) c.env) Q E z.s
noncomputable def j5(es:E):Prop:=∀(c:Fr fn)(z:Zt w os c.fs c.pl)xs p k X Q E,
 D0 fn.g es c.cf xs=true→br es≤c.u→xq F es z.ρ k X→KQ z k Q→KX z X E→wpAny (model PP w) c.A (eval (.BoolOp .And (bC fn.g es xs) p) c.env) Q E z.s
noncomputable def pY(es:E):Prop:=∀(c:Fr fn)(z:Zt w os c.fs c.pl)xs p k X Q E,
 D0 fn.g es c.cf xs=true→br es≤c.u→DT F es z.ρ k X→KQ z k Q→KX z X E→wpAny (model PP w) c.A (eval (.BoolOp .Or (bC fn.g es xs) p) c.env) Q E z.s
noncomputable def gQ(e:E):Prop:=∀(c:Fr fn)(z:Zt w os c.fs c.pl)x k X Q E,
 Am fn.g e c.cf x=true→br e≤c.u→tr F e z.ρ k X→GC z k Q→KX z X E→wpAny (model PP w) c.A (isTrue (aO fn.g e x) c.env (eval (aO fn.g e x) c.env)) Q E z.s
noncomputable def sD(e:E):Prop:=∀(c:Fr fn)(z:Zt w os c.fs c.pl)x k X Q E,
 bT fn.g e c.cf x=true→br e≤c.u→ev F e z.ρ (λx ρ=>match x.v with|.bool c=>k c ρ|_=>False) X→GC z k Q→KX z X E→wpAny (model PP w) c.A (isTrue (aO fn.g e x) c.env (eval (aO fn.g e x) c.env)) Q E z.s
noncomputable def pS(es:E):Prop:=∀(c:Fr fn)(z:Zt w os c.fs c.pl)xs p W k X Q E,
 rC fn.g es c.cf xs=true→br es≤c.u→yJ F es z.ρ k X→GC z k Q→KX z X E→wpAny (model PP w) c.A (isTrue (.BoolOp .And (bC fn.g es xs) p) c.env W) Q E z.s
noncomputable def oW(es:E):Prop:=∀(c:Fr fn)(z:Zt w os c.fs c.pl)xs p W k X Q E,
 rC fn.g es c.cf xs=true→br es≤c.u→Fx F es z.ρ k X→GC z k Q→KX z X E→wpAny (model PP w) c.A (isTrue (.BoolOp .Or (bC fn.g es xs) p) c.env W) Q E z.s
noncomputable def pU(es:E):Prop:=∀(c:Fr fn)(z:Zt w os c.fs c.pl)xs p k X Q E,
 qo fn.g es c.cf xs=true→br es≤c.u→Cy F es z.ρ k X→RA z (bC fn.g es xs).length (wG es) k Q→KX z X E→wpAny (model PP w) c.A (spliced (backTo p (starEach (bC fn.g es xs) c.env))) Q E z.s
end
section
variable{w:World}{os:OsState}{F:Nat→Spec}{fn:hM}
theorem fW(H:au w os F fn e){c:Fr fn}{z:Zt w os c.fs c.pl}{Q E:Value→Shared→Prop}(o:bT fn.g e c.cf x=true)(u:br e≤c.u)(h:ev F e z.ρ k X)(K:KX z X E)
 (next:∀r(d:Zt w os c.fs c.pl)v,k r d.ρ→Le z d→VR w d.s.heap d.W r.v v→Q v d.s):wpAny (model PP w) c.A (eval (aO fn.g e x) c.env) Q E z.s:=
 H c z x k X Q E o u h (λr d v h' J O=>next r d.Y v h' (J.trans KE.bo) (a5.cC KE.bo.kp Fz.v8 O)) K
theorem aE{y}{Y}{env}(h:aB y=true):starEach (y::Y) env=(false,eval y env)::starEach Y env:=by
 cases y<;>first|rfl|cases h
theorem iA(h:aB y=true):behindInMarks op y=false:=by
 cases y<;>first|rfl|cases h
theorem mO(h:aB y=true)(a b):subscripted y false a b=operate [a,b] (getItem a b):=by
 cases y<;>first|rfl|cases h
theorem eQ(h:aB y=true):attributeBase y n env t=t:=by
 cases y with
 |Call f a k p=>
  cases f<;>first|rfl|(cases a<;>first|rfl|(cases k<;>first|rfl|cases h))
 |_=>first|rfl|cases h
@[elab_as_elim] theorem QC{P:Int→Prop}{C:Value→Prop}(p:match v with|.int i=>P i|_=>False)(r:VR w h W v x)(f:∀i t,P i→C (.int i t)):C x:=by
 cases r<;>first|exact p.elim|exact f _ _ p
@[elab_as_elim] theorem JV{P:Bool→Prop}{C:Value→Prop}(p:match v with|.bool i=>P i|_=>False)(r:VR w h W v x)(f:∀i,P i→C (.bool i)):C x:=by
 cases r<;>first|exact p.elim|exact f _ p
@[elab_as_elim] theorem Pu{P:Str→Prop}{C:Value→Prop}(p:match v with|.str i=>P i|_=>False)(r:VR w h W v x)(f:∀i t,P i→C (.str i t)):C x:=by
 cases r<;>first|exact p.elim|exact f _ _ p
theorem Pt:au w os F fn .X:=λc z x k X Q E o H h K _=>wpAny_Constant_none (K.JB .none h)
theorem NB:au w os F fn (.cB b):=λc z x k X Q E o H h K _=>wpAny_Constant_bool (K.JB (.bool b) h)
theorem Oo:au w os F fn (.p i):=λc z x k X Q E o H h K _=>wpAny_Constant_int (K.j (.int i _) h)
theorem N0:au w os F fn (.M i):=λc z x k X Q E o H h K _=>wpAny_Constant_str (K.j (.str i _) h)
theorem Hr(P):aY (ofString "MOST_LENGTH") (dM P)=some (.int 1000000 577):=by kernel_rfl
theorem HP:au w os F fn (.tQ i):=λc z x k X Q E o H h K _=>dE c.O z.S.H (aR o) (.inl (Hr _)) (K.JB (.int ..) (of_decide_eq_true (aL o)▸h))
theorem CV(z:Zt w os d L){C:Prop}(h:DA z.ρ i k)
 (next:∀v x ρ' W'(S:St w os d L ρ' z.s W'),(L i).At z.s.heap (some x)→k v ρ'→KE z.s.heap z.W z.s.heap W'→VR w z.s.heap W' v x→C):C:=by
 delta DA at h;generalize e:z.ρ[i]? =o at h;cases o with
 |none=>exact h.elim
 |some T=>
  have O:∀r:Rv,T=r.s→k r.v (z.ρ.set i (.j r.v))→C:=λr E h=>jO z.S.H e (λq=>by rw[E]at q;cases r<;>cases q) λx a q h8=>
   have K:=KE.wZ h8;have Z:=a5.cC K.kp Fz.v8 (E▸q)
   next r.v x (z.ρ.set i (.j r.v)) _ ⟨z.S.gens,z.S.os,z.S.H.mM K (λj H _=>Mv.v8 λq=>H (Nat.add_left_cancel q)) λ_ y A=>⟨x,A.qE a,Z⟩⟩ a h K Z
  cases T with
  |j v=>exact jO z.S.H e (λq=>nomatch q) λx a r _=>next v x z.ρ z.W z.S a h .refl r
  |U l=>exact O (.U l) rfl h
  |oi c f=>exact O (.oi c f) rfl h
  |_=>exact h.elim
theorem Gg:au w os F fn (.d i):=λc z x k X Q E o H h K _=>CV z h λv y ρ' W' S a h' M r=>bz c.O (bO o) a (K (.j v) ⟨ρ',z.s,W',S⟩ y h' M r)
theorem LF:au w os F fn (.JF i):=by
 intro c z x k X Q E o u h K KX;have h:HO z.ρ i k:=h;delta HO at h;generalize e:z.ρ[i]? =C at h;cases C with
 |none=>exact h.elim
 |some T=>
  have O:∀r:Rv,T=r.s→k r (z.ρ.set i .y)→wpAny (model PP w) c.A (eval (vX x) c.env) Q E z.s:=λr J h=>jO z.S.H e (λq=>by rw[J]at q;cases r<;>cases q) λy a q h8=>
   have M:=KE.v8 (cg h8) ck uL
   bz c.O (bO o) a (K r ⟨z.ρ.set i .y,z.s,_,z.S.gens,z.S.os,z.S.H.mM M (λj H _=>Mv.v8 λq=>H (Nat.add_left_cancel q)) λq=>absurd rfl q⟩ y h M (a5.cY M.kp Mv.to (J▸q)))
  cases T with
  |U l=>exact O (.U l) rfl h
  |oi c f=>exact O (.oi c f) rfl h
  |_=>exact h.elim
theorem Kk(H:au w os F fn a)(hb:au w os F fn b):au w os F fn (.w o a b):=λc z x k X Q E ok u h K KX=>
 wpAny_BinOp (fW H (aL ok) (mL u) h KX λR z₁ V U m y=>fW hb (aR ok) (mR u) U (KX.after m) λr Z v C S t=>
  Iw C Z.S (y.step S.kp) t (K.after (m.trans S)).res)
theorem Lv(H:au w os F fn a):au w os F fn (.neg a):=λc z x k X Q E ok u h K KX=>
 wpAny_UnaryOp (fW H ok u h KX λR z₁ V U m y=>QC U y λi t h=>neg_int ((K.after m).j (.int ..) h))
theorem HD(H:au w os F fn a):au w os F fn (.fO a):=λc z x k X Q E ok u h K KX=>
 wpAny_UnaryOp (fW H ok u h KX λR z₁ V U m y=>JV U y λi h=>PyProof.Rows.not_of (wpAny_truthy_bool ((K.after m).JB (.bool _) h)))
theorem Gx(H:au w os F fn a)(hb:au w os F fn b):au w os F fn (.ag o a b):=λc z x k X Q E ok u h K KX=>
 wpAny_Compare1 (fW H (aL (aR ok)) (mL u) h KX λR z₁ V U m y=>fW hb (aR (aR ok)) (mR u) U (KX.after m) λr Z v C S t=>
  j3 c.hA C (y.step S.kp) t λc tk d=>(K.after (m.trans S)).j (.bool c) d) (iA (aL ok))
theorem LN(H:au w os F fn a):au w os F fn (.Y a):=λc z x k X Q E ok u h K KX=>
 fW H ok u h KX λR z₁ V U m y=>K (.j _) _ _ U m y
end
section
variable{w:World}{os:OsState}{F:Nat→Spec}{fn:hM}
theorem cR(h:lg e=false):bC g (.cons e es) xs=aO g e (hd xs)::bC g es xs.tail:=by
 show(match lg e with
  |true=>[]
  |false=>aO g e (hd xs)::bC g es xs.tail)=_
 rw[h]
theorem tR(h:lg e=true):bC g (.cons e es) xs=[]:=by
 show(match lg e with
  |true=>[]
  |false=>aO g e (hd xs)::bC g es xs.tail)=_
 rw[h]
theorem kZ{C:Prop}(o:qo g (.cons e es) c xs=true)(f:lg e=true→ir es=true→C)(h:lg e=false→aB (aO g e (hd xs))=true→bT g e c (hd xs)=true→qo g es c xs.tail=true→C):C:=by
 have o:(match lg e with
  |true=>ir es
  |false=>aB (aO g e (hd xs))&&(bT g e c (hd xs)&&qo g es c xs.tail))=true:=o
 cases q:lg e with
 |true=>rw[q]at o;exact f q o
 |false=>rw[q]at o;exact h q (aL o) (aL (aR o)) (aR (aR o))
theorem DX:pU w os F fn .nil:=λc z xs p k X Q E o H h K _=>PyProof.Rows.spliced_none (K [] 0 z [] (λ_=>rfl) h .refl .nil rfl)
theorem AB(H:au w os F fn a)(hb:pU w os F fn b):pU w os F fn (.cons a b):=λc z xs p k X Q E o u h K KX=>kZ o
 (λd o=>by
  rw[tR d]at K⊢;have g:=sj d;have j:=k9 o;subst g j;exact PyProof.Rows.spliced_none (K [] 1 z [] (λq=>nomatch q) h .refl .nil rfl))
 λd P O y=>by
  rw[cR d]at K⊢;exact PyProof.Rows.spliced_more (fW H O (mL u) h KX λR z₁ V U m Z=>hb c z₁ xs.tail p _ X _ E y (mR u) U (λs n N S f h' Y r le=>
   K (R.v::s) n N (V::S) (λq=>f (Bool.or_eq_false_iff.mp q).2) h' (m.trans Y) (.cons (Z.step Y.kp) r) (congrArg succ le)) (KX.after m)) (aE P)
theorem z6:j5 w os F fn .nil:=λc z xs p k X Q E o H h K KX=>h.elim
theorem BX:pY w os F fn .nil:=λc z xs p k X Q E o H h K KX=>h.elim
theorem vP(H:au w os F fn a)(hb:j5 w os F fn b):j5 w os F fn (.cons a b):=λc z xs p k X Q E o u h K KX=>by
 have O:=aL (aR o);have h:(match ir b with
  |true=>ev F a z.ρ k X
  |false=>ev F a z.ρ (λx ρ=>match x.v with|.bool c=>(match c with|true=>xq F b ρ k X|false=>k (.j (.bool false)) ρ)|_=>False) X):=h
 rw[cR (nE (aL o))];cases q:ir b with
 |true=>
  rw[q]at h;have:=k9 q;subst this;exact BoolOp_one (H c z _ k X Q E O (mL u) h K KX)
 |false=>
  rw[q]at h;obtain⟨y,Y,T⟩:=w0 ((oE (aL (aR (aR o)))).resolve_left λz=>Bool.false_ne_true (q.symm.trans z));rw[T];exact BoolOp_and (fW H O (mL u) h KX λR z₁ V U m Z=>JV U Z λt U=>wpAny_truthy_bool (by
   cases t with
   |true=>exact T▸hb c z₁ _ p k X Q E (aR (aR (aR o))) (mR u) U (K.after m) (KX.after m)
   |false=>exact(K.after m).JB (.bool _) U))
theorem zu(H:au w os F fn a)(hb:pY w os F fn b):pY w os F fn (.cons a b):=λc z xs p k X Q E o u h K KX=>by
 have O:=aL (aR o);have h:(match ir b with
  |true=>ev F a z.ρ k X
  |false=>ev F a z.ρ (λx ρ=>match x.v with|.bool c=>(match c with|true=>k (.j (.bool true)) ρ|false=>DT F b ρ k X)|_=>False) X):=h
 rw[cR (nE (aL o))];cases q:ir b with
 |true=>
  rw[q]at h;have:=k9 q;subst this;exact BoolOp_one (H c z _ k X Q E O (mL u) h K KX)
 |false=>
  rw[q]at h;obtain⟨y,Y,T⟩:=w0 ((oE (aL (aR (aR o)))).resolve_left λz=>Bool.false_ne_true (q.symm.trans z));rw[T];exact BoolOp_or (fW H O (mL u) h KX λR z₁ V U m Z=>JV U Z λt U=>wpAny_truthy_bool (by
   cases t with
   |true=>exact(K.after m).JB (.bool _) U
   |false=>exact T▸hb c z₁ _ p k X Q E (aR (aR (aR o))) (mR u) U (K.after m) (KX.after m)))
theorem Jb(H:j5 w os F fn a):au w os F fn (.Q a):=λc z x k X Q E o u h K KX=>H c z _ _ k X Q E o u h K KX
theorem KP(H:pY w os F fn a):au w os F fn (.cL a):=λc z x k X Q E o u h K KX=>H c z _ _ k X Q E o u h K KX
theorem L4(H:gQ w os F fn t)(j:au w os F fn a)(hb:au w os F fn b):au w os F fn (.ite t a b):=λc z x k X Q E o u h K KX=>
 IfExp_ (H c z _ _ X _ E (aL o) (mL u) h (λt Z h' Y=>by
  cases t with
  |true=>exact j c Z _ k X Q E (aL (aR o)) (mL (mR u)) h' (K.after Y) (KX.after Y)
  |false=>exact hb c Z _ k X Q E (aR (aR o)) (mR (mR u)) h' (K.after Y) (KX.after Y)) KX)
theorem IY(H:au w os F fn a)(hb:au w os F fn b)(hd:au w os F fn d):au w os F fn (.mZ o q a b d):=λc z x k X Q E ok U h K KX=>
 Compare_chain (fW H (aL (aR (aR ok))) (mL U) h KX λr z₁ V T u y=>chain_link (fW hb (aL (aR (aR (aR ok)))) (mL (mR U)) T (KX.after u) λA Z v C S Y=>
  j3 c.hA C (y.step S.kp) Y λt tk R=>wpAny_truthy_bool (by
   cases t with
   |true=>exact chain_last (fW (z:=Z.tk tk) hd (aR (aR (aR (aR ok)))) (mR (mR U)) R (KX.after (u.trans S)) λI O W M L g=>
    j3 c.hA M (Y.step L.kp) g λt tk R=>(K.after ((u.trans S).trans L)).j (.bool t) R)
   |false=>exact(K.after (u.trans S)).j (.bool false) R))) (iA (aL (aR ok)))
theorem Bg(H:au w os F fn a)(hb:au w os F fn b)(hd:au w os F fn d):sD w os F fn (.mZ o q a b d):=λc z x k X Q E ok U h K KX=>
 isTrue_chain (fW H (aL (aR (aR ok))) (mL U) h KX λr z₁ v T u y=>test_link (fW hb (aL (aR (aR (aR ok)))) (mL (mR U)) T (KX.after u) λA Z P C S Y=>
  j3 c.hA C (y.step S.kp) Y λt tk R=>wpAny_truthy_bool (by
   cases t with
   |true=>exact test_last (fW (z:=Z.tk tk) hd (aR (aR (aR (aR ok)))) (mR (mR U)) R (KX.after (u.trans S)) λI V W M L g=>
    j3 c.hA M (Y.step L.kp) g λt tk R=>wpAny_truthy_bool (K _ (V.tk tk) R ((u.trans S).trans L)))
   |false=>exact K _ (Z.tk tk) R (u.trans S)))) (iA (aL (aR ok)))
theorem yq(O:au w os F fn e)(I:∀x env H,isTrue (aO fn.g e x) env H=(do let v←H;standAt (aO fn.g e x).pos;holding [v] (truthy v))):sD w os F fn e:=λc z x k X Q E ok u h K KX=>
 wpAny_isTrue_value (fW O ok u h KX λR z₁ V U m y=>JV U y λt h=>wpAny_truthy_bool (K t z₁ h m)) (I ..)
theorem ur{E:Value→Shared→Prop}(h:wpAny M A (eval (.Compare l [op] [r] p) env) (λv j=>wpAny M A (truthy v) Q E j) E s):
 wpAny M A (isTrue (.Compare l [op] [r] p) env (eval (.Compare l [op] [r] p) env)) Q E s:=by
 intro D p H;have z:=h D p H;rw[isTrue_Compare1];rw[eval_Compare1]at z;simp only[Sem.wp_bind',Sem.wp_holding,Sem.wp_cmd_standAt]at z⊢;exact Sem.wp_mono M D _ (λa J j=>Sem.wp_mono M D _ (λb K S C=>Sem.wp_mono M D _ (λc P Z I=>I D P H) (λ_ _ _ h'=>h') _ _ C) (λ_ _ _ h'=>h') _ _) (λ_ _ _ h'=>h') _ _ z
theorem AZ(H:au w os F fn e)(I:∀x,∃l op r p,aO fn.g e x=.Compare l [op] [r] p):sD w os F fn e:=λc z x k X Q E ok u h K KX=>by
 have z:=fW (Q:=λv s=>wpAny (model PP w) c.A (truthy v) Q E s) H ok u h KX λR z₁ V U m y=>JV U y λt h=>wpAny_truthy_bool (K t z₁ h m);obtain⟨l,op,r,p,e⟩:=I x;rw[e]at z⊢;exact ur z
theorem HY(H:tK a=true→sD w os F fn a):gQ w os F fn (.D a):=λc z x k X Q E ok u h K KX=>H (aR ok) c z x k X Q E (aL ok) u h K KX
theorem Ft(H:gQ w os F fn a):gQ w os F fn (.fO a):=λc z x k X Q E ok u h K KX=>isTrue_not (H c z _ _ X _ E ok u h (λt=>K _) KX)
theorem Eb(H:pS w os F fn a):gQ w os F fn (.Q a):=λc z x k X Q E ok u h K KX=>H c z _ _ _ k X Q E ok u h K KX
theorem Im(H:oW w os F fn a):gQ w os F fn (.cL a):=λc z x k X Q E ok u h K KX=>H c z _ _ _ k X Q E ok u h K KX
theorem Fp(H:gQ w os F fn t)(j:gQ w os F fn a)(hb:gQ w os F fn b):gQ w os F fn (.ite t a b):=λc z x k X Q E o u h K KX=>
 PyProof.Rows.isTrue_IfExp (H c z _ _ X _ E (aL o) (mL u) h (λt Z h' Y=>by
  cases t with
  |true=>exact j c Z _ k X Q E (aL (aR o)) (mL (mR u)) h' (K.after Y) (KX.after Y)
  |false=>exact hb c Z _ k X Q E (aR (aR o)) (mR (mR u)) h' (K.after Y) (KX.after Y)) KX)
theorem A5:pS w os F fn .nil:=λc z xs p W k X Q E o H h K KX=>isTrue_and_nil (K true z h .refl)
theorem Aq:oW w os F fn .nil:=λc z xs p W k X Q E o H h K KX=>isTrue_or_nil (K false z h .refl)
theorem zg(H:gQ w os F fn a)(hb:pS w os F fn b):pS w os F fn (.cons a b):=λc z xs p W k X Q E o u h K KX=>(cR (nE (aL o)))▸isTrue_and (H c z _ _ X _ E (aL (aR o)) (mL u) h (λt Z h' Y=>by
 cases t with
 |true=>exact hb c Z _ p W k X Q E (aR (aR o)) (mR u) h' (K.after Y) (KX.after Y)
 |false=>exact K false Z h' Y) KX)
theorem zG(H:gQ w os F fn a)(hb:oW w os F fn b):oW w os F fn (.cons a b):=λc z xs p W k X Q E o u h K KX=>(cR (nE (aL o)))▸isTrue_or (H c z _ _ X _ E (aL (aR o)) (mL u) h (λt Z h' Y=>by
 cases t with
 |true=>exact K true Z h' Y
 |false=>exact hb c Z _ p W k X Q E (aR (aR o)) (mR u) h' (K.after Y) (KX.after Y)) KX)
end
theorem H9(H:a<9)(hb:b<9)(e:an a=an b):a=b:=by
 have K:∀i,i<9→∀j,j<9→ax (an i) (an j)=beq i j:=by decide+kernel
 exact eq_of_beq_eq_true ((K a H b hb).symm.trans (aD.mpr e))
theorem gc{k:Y}:d6 n L=some k→(n,k)∈L:=by
 induction L with
 |nil=>exactλe=>nomatch e
 |cons p L I=>
  cases b:beq n p.1 with
  |true=>rw[uA b];exactλe=>eq_of_beq_eq_true b▸Option.some.inj e▸.head _
  |false=>rw[uq b];exactλe=>.tail _ (I e)
theorem sr{n M:Nat}{r:List (Nat×Y)}(e:Nat.beq n M=true):gI n v ((M,u)::r)=(M,v)::r:=by
 show(match Nat.beq n M with
  |true=>(M,v)::r
  |false=>(M,u)::gI n v r)=_
 rw[e]
theorem sk{n M:Nat}{r:List (Nat×Y)}(e:Nat.beq n M=false):gI n v ((M,u)::r)=(M,u)::gI n v r:=by
 show(match Nat.beq n M with
  |true=>(M,v)::r
  |false=>(M,u)::gI n v r)=_
 rw[e]
theorem Dq{k:Y}:x∈(gI n k f).map (·.1)→x=n∨x∈f.map (·.1):=by
 induction f with
 |nil=>exactλh=>.inl (mem_singleton.mp h)
 |cons p f I=>
  cases q:beq n p.1 with
  |true=>rw[sr q];exact .inr
  |false=>rw[sk q];exactλh=>(mem_cons.mp h).elim (λe=>.inr (e▸.head _)) λh=>(I h).imp id (.tail _)
theorem tW{p:Nat×Y}{f:List (Nat×Y)}:(f.map (·.1)).Nodup→p∈gI n k f→p=(n,k)∨(p∈f∧p.1≠n):=by
 induction f with
 |nil=>exactλ_ h=>.inl (mem_singleton.mp h)
 |cons r f I=>
  intro N;have N:=nodup_cons.mp N;cases q:beq n r.1 with
  |true=>
   have Q:=eq_of_beq_eq_true q;rw[sr q];exactλh=>(mem_cons.mp h).imp (λe=>Q▸e) λh=>⟨.tail _ h,λz=>N.1 (mem_map.mpr ⟨p,h,z.trans Q⟩)⟩
  |false=>
   rw[sk q];exactλh=>(mem_cons.mp h).elim (λe=>.inr (e▸⟨.head _,λz=>ne_of_beq_eq_false q z.symm⟩)) λh=>(I N.2 h).imp id λz=>⟨.tail _ z.1,z.2⟩
theorem wm{k:Y}:(f.map (·.1)).Nodup→((gI n k f).map (·.1)).Nodup:=by
 induction f with
 |nil=>exactλ_=>nodup_cons.mpr ⟨(λh=>nomatch h),nodup_nil⟩
 |cons r f I=>
  intro N;have O:=nodup_cons.mp N;cases q:beq n r.1 with
  |true=>rw[sr q];exact N
  |false=>rw[sk q];exact nodup_cons.mpr ⟨λh=>(Dq h).elim (λz=>ne_of_beq_eq_false q z.symm) O.1,I O.2⟩
theorem tB{k:FK}(h:(f.map (·.1)).Nodup∧∀p∈f,p.1<9)(H:n<9):((gI n k f).map (·.1)).Nodup∧∀p∈gI n k f,p.1<9:=
 ⟨wm h.1,λp P=>(tW h.1 P).elim (λe=>e▸H) λz=>h.2 p z.1⟩
section
variable{w:World}{h h':Heap}{W W':cw}{t:Nat}
theorem FR.Ip(K:Kp h W h' W')(M:∀a o,h.get? a=some o→W a=(t,n+1)→h'.get? a=some o∧W' a=(t,n+1))(r:FR w h W t n k x):FR w h' W' t n k x:=by
 cases k with
 |j v=>exact VR.step K r
 |U l=>cases r with|mk Q q C X=>exact .mk (M _ _ Q q).1 (M _ _ Q q).2 C (X.step K)
 |od l=>cases r with|mk Q q C=>exact(lN Q).elim λo e=>.mk (gD Q λo e=>(M _ o e q).1) (M _ _ e q).2 (C.step K)
theorem sQ(Q:m' (an n)=some j)(u:FR w h' W' H n k' j)(q:DF w h W t m f)(d:(f.map (·.1)).Nodup)
 (k:∀p∈f,p.1≠n→m' (an p.1)=m (an p.1))(L:∀p∈f,p.1≠n→∀x,FR w h W t p.1 p.2 x→FR w h' W' H p.1 p.2 x):DF w h' W' H m' (gI n k' f):=λp P=>
 (tW d P).elim (λe=>e▸⟨j,Q,u⟩) λz=>(q p z.1).imp λx y=>⟨(k p z.1 z.2).trans y.1,L p z.1 z.2 x y.2⟩
noncomputable def yd(a b:Nat×Nat)(p:Nat×Nat):Nat×Nat:=match decide (p=a)with
 |true=>b
 |false=>p
theorem BE:yd a b a=b:=by simp[yd]
theorem oR(h:p≠a):yd a b p=p:=by simp[yd,h]
theorem KE.yd(h1:¬qC a.1)(h2:¬ve a.1)(h3:a.1≠4):KE h W h (λx=>yd a b (W x)):=
 KE.yB λp l=>oR λe=>by subst e;exact l.elim h1 λl=>l.elim h2 h3
theorem N7{T:Mine.Internal.S}{C:Prop}(h:d5 T=some L)(f:∀c,(T=.oi c L∨T=.bi c L)→C):C:=by
 cases T<;>first|exact f _ (.inl (congrArg _ (Option.some.inj h)))|exact f _ (.inr (congrArg _ (Option.some.inj h)))|cases h
theorem Kh{T:Mine.Internal.S}(e:T=.oi c L∨T=.bi c L)(r:a5 w h W t T v):OI w h W t c L v:=e.elim (λe=>by subst e;exact r) λe=>by subst e;exact r
theorem AD{T:Mine.Internal.S}(e:T=.oi c L∨T=.bi c L)(r:OI w h W t c f v):a5 w h W t (dQ T f) v:=e.elim (λe=>by subst e;exact r) λe=>by subst e;exact r
theorem yI(C:aH w j y ρ h W){T:Mine.Internal.S}{G:Prop}(I:ρ[i]? =some T)(H:d5 T=some L)
 (f:∀c v,(T=.oi c L∨T=.bi c L)→(y i).At h (some v)→OI w h W (10+i) c L v→i<800→G):G:=
 N7 H λc E=>jO C I (λq=>by rw[q]at H;cases H) λv p r h8=>f c v E p (Kh E r) h8
end
inductive mr(w:World)(h:Heap)(W:cw):V→Value→Prop where
 |fr {v x}:VR w h W v x→mr w h W v x
 |li {a vs n l}:h.get? a=some (dk vs n)→vs.length≤aA→cW w h W l vs→mr w h W (.o l) (.ref a)
 |di {a kvs l}:jC w h a kvs→yZ w h W l kvs→mr w h W (.lJ l) (.ref a)
section
variable{w:World}{os:OsState}{F:Nat→Spec}{fn:hM}
theorem n4(r:FR w h W t n k x):mr w h W k.v x∧handedIn x=true:=by
 cases k with
 |j v=>exact⟨.fr r,qU r⟩
 |U l=>cases r with|mk h1 h2 h3 h4=>exact⟨.li h1 h3 h4,rfl⟩
 |od l=>cases r with|mk h1 h2 h3=>exact⟨.di h1 h3,rfl⟩
theorem CH{c:Fr fn}{z:Zt w os c.fs c.pl}{T:Mine.Internal.S}{R E:Value→Shared→Prop}(o:qp (fg y) c.cf.nm i=true)(e:z.ρ[i]? =some T)(j:d5 T=some L)(J:d6 n L=some k)
 (next:∀x tk,FR w z.s.heap z.W (10+i) n k x→R x {z.s with toks:=tk}):wpAny (model PP w) c.A (eval (.Attribute (vX y) (an n) p) c.env) R E z.s:=
 yI z.S.H e j λC v Y p1 oi h8=>by
  cases oi with
  |mk I G m A f d g X M=>
   obtain⟨x,m1,r⟩:=M _ (gc J);exact Attribute_Name_ (bz c.O (bO o) p1 (n6 z.S.H I ⟨_,_,_,m,rfl,f,λ_=>rfl⟩ m1 (n4 r).2 (next _ _ r)))
theorem nS{c:Fr fn}{z:Zt w os c.fs c.pl}{R E:Value→Shared→Prop}(o:Fg c.cf t y=true)(h:pk z.ρ t k)
 (next:∀v x tk,k v→mr w z.s.heap z.W v x→R x {z.s with toks:=tk}):wpAny (model PP w) c.A (eval (CS t y) c.env) R E z.s:=by
 cases t with
 |v i=>
  delta pk at h;dsimp only at h;generalize e:z.ρ[i]? =O at h;cases O with
  |none=>exact h.elim
  |some T=>
   have N:∀l,df T=some l→k (.o l)→wpAny (model PP w) c.A (eval (vX y) c.env) R E z.s:=λl L H=>z.S.xV e L λa s n p1 h1 h2 h3 h4=>bz c.O (bO o) p1 (next _ _ z.s.toks H (.li h1 h3 h4));cases T with
   |j v=>exact jO z.S.H e (λq=>nomatch q) λx a r _=>bz c.O (bO o) a (next _ _ z.s.toks h (.fr r))
   |U l=>exact N l rfl h
   |bl l=>exact N l rfl h
   |_=>exact h.elim
 |f i n=>
  delta pk at h;dsimp only at h;generalize e:(z.ρ[i]?).bind d5=O at h;cases O with
  |none=>exact h.elim
  |some B=>
   obtain⟨T,g,V⟩:=Option.bind_eq_some_iff.mp e;dsimp only at h;generalize J:d6 n B=O at h;cases O with
   |none=>exact h.elim
   |some K=>exact CH o g V J λx tk r=>next _ _ _ h (n4 r).1
theorem CB{Q E:Value→Shared→Prop}(hb:y0 v k)(r:mr w s.heap W v x)(K:∀i t tk,k (.int i)→Q (.int i t) {s with toks:=tk}):
 wpAny (model PP w) A (call (.builtin "len") [x]) Q E s:=by
 cases r with
 |fr r=>exact yQ hb r K
 |li g Y R=>exact len_list ⟨_,g,rfl,_,rfl⟩ (List.size_toArray▸gK Y) (by rw[size_toArray,←R.length];exact K _ _ _ hb)
 |di g R=>exact hb.elim
theorem za{C:Prop}(h:rM (.o l) i k)(f:∀j v,i=.int j→cy l j=some v→k v→C):C:=by
 cases i with
 |int j=>exact(tM h).elim λv q=>f j v rfl q.1 q.2
 |_=>exact h.elim
theorem zq{C:Prop}(h:rM (.lJ l) i k)(f:∀j v,i=.str j→a8 j l=some v→k v→C):C:=by
 cases i with
 |str j=>exact(tM h).elim λv q=>f j v rfl q.1 q.2
 |_=>exact h.elim
theorem BC{Q E:Value→Shared→Prop}(hb:rM v i k)(r:mr w s.heap W v x)(y:VR w s.heap W i b)
 (K:∀v x tk,k v→VR w s.heap W v x→Q x {s with toks:=tk})(H:subscripted M false x b=operate [x,b] (getItem x b)):wpAny (model PP w) A (subscriptTail C M x b) Q E s:=by
 cases r with
 |fr r=>exact yj hb r y K H
 |li g Y R=>
  exact za hb λj v e f d=>by
   subst e;cases y;exact tail_any ⟨_,g,rfl⟩ slot_list_getitem.lookup (yk g Y R f λx r=>K _ x s.toks d r) H
 |di g R=>
  exact zq hb λj v e f d=>by
   subst e;cases y;rcases R.find with⟨Z,_⟩|⟨V,X,Z,z,G⟩
   ·exact nomatch Z.symm.trans f
   ·cases Z.symm.trans f
    exact tail_any g.1.typeIs slot_dict_getitem.lookup (wpAny_getItem_of (strKind_is PP w ..) g.1.mapOf z (K _ _ _ d G)) H
theorem Hf:au w os F fn (.qz i n):=by
 intro c z x k X Q E o hu h K KX;have h:Dr z.ρ i n λv ρ=>k (.j v) ρ:=h;delta Dr at h;generalize e:z.ρ[i]? =O at h;cases O with
 |none=>exact h.elim
 |some T=>
  dsimp only at h;generalize V:d5 T=O at h;cases O with
  |none=>exact h.elim
  |some L=>
   dsimp only at h;generalize J:d6 n L=O at h;cases O with
   |none=>exact h.elim
   |some f=>
    have B:(∀(t:Nat)W' x,KE z.s.heap z.W z.s.heap W'→(∀a,z.W a=(t,n+1)→(W' a).1=0)→FR w z.s.heap z.W t n f x→VR w z.s.heap W' f.v x)→k (.j f.v) (z.ρ.set i (dQ T (gI n (.j f.v) L)))→wpAny (model PP w) c.A (eval (CS (.f i n) x) c.env) Q E z.s:=λj d=>
     yI z.S.H e V λc' v g p1 oi h8=>by
      cases oi with
      |mk A G m D u W s I S=>
       obtain⟨N,m1,r⟩:=S _ (gc J);have M:KE z.s.heap z.W z.s.heap (λb=>yd (10+i,n+1) (0,0) (z.W b)):=KE.yd (cg h8) ck uL;have Y:=j (10+i) _ N M (λa e=>by show(yd _ _ (z.W a)).1=0;rw[e,BE]) r;have Z:∀b,z.W b=(10+i,0)→yd (10+i,n+1) (0,0) (z.W b)=(10+i,0):=λb q=>by rw[q];exact oR λy=>nomatch y
       refine Attribute_Name_ (bz c.O (bO o) p1 (n6 z.S.H A ⟨_,_,_,m,rfl,u,λ_=>rfl⟩ m1 (n4 r).2 (K (.j f.v) ⟨_,{z.s with toks:=z.s.toks+1},_,z.S.gens,z.S.os,z.S.H.mM M (λj hj _ b o eb l=>⟨eb,?_⟩) λ_ y a'=>
        ⟨_,(p1.qE a').symm,AD g (.mk A (Z _ G) m (Z _ D) u W s (tB I (I.2 _ (gc J))) (sQ (k':=.j f.v) m1 Y S I.1 (λ_ _ _=>rfl) λp hp ne RD RC=>FR.Ip M.kp (λa o ea q=>⟨ea,?_⟩) RC))⟩⟩ N d M Y)))
       ·exact(oR λy=>AO hj (l.symm.trans (congrArg Prod.fst y))).trans (Prod.ext l rfl)
       ·show yd _ _ (z.W a)=_
        rw[q];exact oR λy=>ne (succ.inj (Prod.mk.inj y).2)
    cases f with
    |j v=>exact CH o e V J λN tk r=>K.j r h
    |U l=>exact B (λt W' N M H r=>by cases r with|mk P R C q4=>exact .o P (H _ R) C (q4.step M.kp)) h
    |od l=>exact B (λt W' N M H r=>by cases r with|mk P R C=>exact .lJ P (H _ R) (C.step M.kp)) h
theorem xo{C:Prop}(r:mr w h W v x)(f:∀M,VR w h M v x→Kp h W h M→C):C:=by
 have K:∀a,Kp h W h (dC W a (0,0)):=λa b o e q=>⟨e,by
  by_cases z:b=a
  ·subst z;rw[aJ]
  ·rw[bV z];exact q⟩
 cases r with
 |fr r=>exact f W r (.refl _ _)
 |li E Y R=>exact f _ (.o E (by rw[aJ]) Y (R.step (K _))) (K _)
 |di E R=>exact f _ (.lJ E (by rw[aJ]) (R.step (K _))) (K _)
theorem v7:behindInMarks o (CS t r)=false:=by cases t<;>rfl
theorem G4(H:au w os F fn a):au w os F fn (.DD g a p):=λc z x k X Q E o u h K KX=>
 wpAny_Compare1 (fW H (aL o) u h KX λR z₁ V U m Z=>nS (aR o) U λy v tk Y lk=>xo lk λW rv P=>
  j3 c.hA Y (Z.step P) rv λt T d=>(K.after m).j (.bool t) d) v7
theorem Zt.push(z:Zt w os fs pl)(ob)(f){C:Prop}(h:∀(S:St w os fs pl z.ρ {z.s with heap:=z.s.heap.push ob} (dC z.W z.s.heap.objs.size f)),KE z.s.heap z.W (z.s.heap.push ob) (dC z.W z.s.heap.objs.size f)→C):C:=
 z.S.head.elim λ_ g=>g.elim λ_ g=>g.elim λL g=>g.elim λ_ g=>
  have H:=λb o e=>bV λq=>by rw[q,bw]at e;cases e
  have G:=lT L z.s.heap ob
  h (G.st g.2.2.2 H z.S) (G.ke g.2.2.2 H)
theorem Gw:au w os F fn (.HE p):=λc z x k X Q E o u h K KX=>
 wpAny_Compare1 (nS o h λy v tk H lk=>xo lk λW rv P=>wpAny_List_spliced (PyProof.Rows.spliced_none ⟨zero_le _,(z.tk tk).push {cls:=.type "list",data:=.seq (#[])} (0,0) λS M=>
  have U:Kp z.s.heap W (z.s.heap.push {cls:=.type "list",data:=.seq (#[]:Array Value)}) (dC W z.s.heap.objs.size (0,0)):=λb o e q=>⟨Heap.get?_push_of_some _ e,by rw[bV (λq=>by rw[q,bw]at e;cases e)];exact q⟩
  j3 c.hA H (rv.step U) (.o (get?_push_size _ rfl) (by rw[aJ]) (zero_le _) .nil)
   λt T d=>(K.after (z₁:=⟨z.ρ,_,_,S⟩) M).j (.bool t) d⟩)) rfl
end
section
variable{w:World}{os:OsState}{F:Nat→Spec}{fn:hM}
theorem zK{P:Mine.Internal.S→Prop}(h:match o with|some a=>P a|.none=>False):∃a,o=some a∧P a:=by
 cases o with
 |some a=>exact⟨a,rfl,h⟩
 |none=>exact h.elim
theorem C7{P:List V→Prop}(h:match o with|some a=>P a|.none=>False):∃a,o=some a∧P a:=by
 cases o with
 |some a=>exact⟨a,rfl,h⟩
 |none=>exact h.elim
theorem rj:starEach (CS t y::Y) env=(false,eval (CS t y) env)::starEach Y env:=by cases t<;>rfl
theorem Px{P:List V→Prop}{C:Prop}(p:match v with|.o l=>P l|_=>False)(r:VR w h W v x)(f:∀l,P l→VR w h W (.o l) x→C):C:=by
 cases v with
 |o l=>exact f l p r
 |_=>exact p.elim
theorem L8{s:Str}{P:List Str→Prop}{C:Prop}(h:match s.cps.toList,hW l with|[],some ss=>P ss|_,_=>False)(f:∀ss,s.cps.toList=[]→hW l=some ss→P ss→C):C:=by
 generalize s.cps.toList=o at h f;generalize hW l=O at h f;cases o with
 |nil=>
  cases O with
  |some ss=>exact f ss rfl rfl h
  |none=>exact h.elim
 |cons a b=>exact h.elim
theorem ff{C:Prop}(h:false=true):C:=nomatch h
theorem fN{Y:Type}{v:Y}{C:Prop}(h:none=some v):C:=nomatch h
theorem As{o:Option Mine.Internal.S}(h:(match o with
 |some (.j v)=>some v
 |_=>none)=some v):o=some (.j v):=by
 cases o with
 |none=>exact fN h
 |some T=>cases T<;>first|exact congrArg (λv=>some (S.j v)) (Option.some.inj h)|exact fN h
theorem wj{C:E→Prop}(h:wH e ρ=some v)(f:v=.none→C .X)(f1:∀b,v=.bool b→C (.cB b))(y:∀i,v=.int i→C (.p i))(t:∀s,v=.str s→C (.M s))
 (j:∀i,v=.int (-i)→C (.neg (.p i)))(H:∀i,ρ[i]? =some (.j v)→C (.d i)):C e:=by
 cases e with
 |X=>exact f (Option.some.inj h).symm
 |cB b=>exact f1 b (Option.some.inj h).symm
 |p i=>exact y i (Option.some.inj h).symm
 |M s=>exact t s (Option.some.inj h).symm
 |neg a=>
  cases a with
  |p i=>exact j i (Option.some.inj h).symm
  |_=>exact fN h
 |d i=>exact H i (As h)
 |_=>exact fN h
theorem kO{c:Fr fn}{z:Zt w os c.fs c.pl}{R E:Value→Shared→Prop}(o:bT fn.g e c.cf x=true)(h:wH e z.ρ=some v)
 (next:∀y tk,VR w z.s.heap z.W v y→R y {z.s with toks:=tk}):wpAny (model PP w) c.A (eval (aO fn.g e x) c.env) R E z.s:=by
 revert o;exact wj (C:=λe=>bT fn.g e c.cf x=true→wpAny (model PP w) c.A (eval (aO fn.g e x) c.env) R E z.s) h (λq _=>wpAny_Constant_none (next _ z.s.toks (q▸.none))) (λb q _=>wpAny_Constant_bool (next _ z.s.toks (q▸.bool _)))
  (λi q _=>wpAny_Constant_int (next _ _ (q▸.int ..))) (λs q _=>wpAny_Constant_str (next _ _ (q▸.str ..))) (λi q _=>wpAny_UnaryOp (wpAny_Constant_int (neg_int (next _ _ (q▸.int ..)))))
  λi e o=>jO z.S.H e (λq=>nomatch q) λy a r _=>bz c.O (bO o) a (next _ z.s.toks r)
theorem yz{C:E→Prop}(nil:C .nil)(cons:∀e es,C es→C (.cons e es))(no:∀e,(∀g f xs,qo g e f xs=false)→C e)(e):C e:=by
 induction e with
 |nil=>exact nil
 |cons e es _ I=>exact cons e es I
 |_=>exact no _ λ_ _ _=>rfl
theorem zp{m:List V}{C:Prop}(h:(match o,O with
 |some v,some m=>some (v::m)
 |_,_=>none)=some m)(f:∀v l,o=some v→O=some l→v::l=m→C):C:=by
 cases o with
 |none=>cases h
 |some v=>
  cases O with
  |none=>cases h
  |some l=>exact f v l rfl rfl (Option.some.inj h)
theorem vj{c:Fr fn}{E:Value→Shared→Prop}:∀{z:Zt w os c.fs c.pl}{xs}{m}{R},qo fn.g es c.cf xs=true→me es z.ρ=some m→
 (∀Y tk,cW w z.s.heap z.W m Y→Y.length=(bC fn.g es xs).length→R Y {z.s with toks:=tk})→wpAny (model PP w) c.A (spliced (backTo p (starEach (bC fn.g es xs) c.env))) R E z.s:=
 λ{z xs m R}=>yz (C:=λes=>∀(z:Zt w os c.fs c.pl)xs m R,qo fn.g es c.cf xs=true→me es z.ρ=some m→
  (∀Y tk,cW w z.s.heap z.W m Y→Y.length=(bC fn.g es xs).length→R Y {z.s with toks:=tk})→wpAny (model PP w) c.A (spliced (backTo p (starEach (bC fn.g es xs) c.env))) R E z.s)
  (λz _ _ _ o h next=>PyProof.Rows.spliced_none (next [] z.s.toks (Option.some.inj h▸.nil) rfl))
  (λe es I z xs m R o h next=>kZ o (λd _=>by rw[sj d]at h;cases h) λd P O y=>by
   rw[cR d]at next⊢;exact zp h λv l g j N=>PyProof.Rows.spliced_more (kO O g λx tk r=>I (z.tk tk) _ _ _ y j λZ T s le=>next _ _ (N▸.cons r s) (congrArg succ le)) (aE P))
  (λe n z xs m R o=>ff ((n ..).symm.trans o)) es z xs m R
theorem Of(h:(!wG es)=true)(H:wG es=false→n=0):v++replicate n V.none=v:=(H (nE h))▸List.append_nil v
theorem KQ.L{z z₁:Zt w os fs pl}(K:KQ z k Q)(e:Le z z₁)(y:ys.length≤aA)(r:cW w z₁.s.heap z₁.W vs ys)(h:k (.j (.L vs)) z₁.ρ):Q (.ref z₁.s.heap.objs.size) {z₁.s with heap:=z₁.s.heap.push (xk ys 0)}:=
 z₁.push (xk ys 0) (0,0) λS E=>K (.j (.L vs)) ⟨z₁.ρ,_,_,S⟩ _ h (e.trans E) (.L (get?_push_size _ rfl) (congrArg Prod.fst aJ) y (r.step E.kp))
theorem KQ.o{z z₁:Zt w os fs pl}(K:KQ z k Q)(e:Le z z₁)(y:ys.length≤aA)(r:cW w z₁.s.heap z₁.W vs ys)(h:k (.U vs) z₁.ρ):Q (.ref z₁.s.heap.objs.size) {z₁.s with heap:=z₁.s.heap.push (dk ys 0)}:=
 z₁.push (dk ys 0) (2,0) λS E=>K (.U vs) ⟨z₁.ρ,_,_,S⟩ _ h (e.trans E) (.mk (get?_push_size _ rfl) aJ y (r.step E.kp))
theorem KU(H:pU w os F fn a):au w os F fn (.L a):=λc z x k X Q E o u h K KX=>
 wpAny_Tuple_spliced (H c z _ _ _ X _ E (aR o) u h (λV n Z s N h' Y R le=>by
  rw[Of (aL o) N]at h';have y:=R.length▸h'.1;exact⟨fb y,K.L Y y R h'.2⟩) KX)
theorem Mo(H:pU w os F fn a):au w os F fn (.Z a):=λc z x k X Q E o u h K KX=>
 wpAny_List_spliced (H c z _ _ _ X _ E (aR o) u h (λV n Z s N h' Y R le=>by
  rw[Of (aL o) N]at h';have y:=R.length▸h'.1;exact⟨fb y,K.o Y y R h'.2⟩) KX)
theorem Mx(H:au w os F fn a)(hb:au w os F fn b):au w os F fn (.sub a b):=λc z x k X Q E o u h K KX=>
 Subscript_ (fW H (aL (aR o)) (mL u) h KX λR z₁ V U m y=>fW hb (aR (aR o)) (mR u) U (KX.after m) λA Z P C S t=>
  yj C (y.step S.kp) t (λv x tk d r=>(K.after (m.trans S)).j r d) (mO (aL o) ..))
theorem Jd:au w os F fn (.dZ t b):=λc z x k X Q E o u h K KX=>
 (tM h).elim λj q=>Subscript_ (nS (aL (aR o)) q.2 λv x tk H lk=>kO (z:=z.tk tk) (aR (aR o)) q.1 λy T R=>
  BC H lk R (λv x tk H r=>K.j r H) (mO (aL o) ..))
theorem z7{C:E→Prop}(h:MY F e ρ k X)(no:k .none ρ→C .no)(D:∀a,ev F a ρ (λr ρ=>k r.v ρ) X→C (.D a)):C e:=by
 cases e with
 |no=>exact no h
 |D a=>exact D a h
 |_=>exact h.elim
theorem LW{lo:E}{c:Fr fn}{z:Zt w os c.fs c.pl}{Q E:Value→Shared→Prop}(H:∀a,lo=.D a→au w os F fn a)(o:(oX lo||bT fn.g lo c.cf y)=true)(u:br lo≤c.u)(h:MY F lo z.ρ k X)(K:KX z X E)
 (next:∀v(d:Zt w os c.fs c.pl)x,k v d.ρ→Le z d→VR w d.s.heap d.W v x→Q x d.s):wpAny (model PP w) c.A (evalPart (match oX lo with|true=>none|false=>some (aO fn.g lo y)) c.env) Q E z.s:=by
 revert H o u;exact z7 (C:=λlo=>(∀a,lo=.D a→au w os F fn a)→(oX lo||bT fn.g lo c.cf y)=true→br lo≤c.u→wpAny (model PP w) c.A (evalPart (match oX lo with|true=>none|false=>some (aO fn.g lo y)) c.env) Q E z.s) h
  (λh _ _ _=>evalPart_none_step (next .none z .none h .refl .none)) λa h H o u=>evalPart_some_step (fW (H a rfl) o u h K λr d v h' Y e=>next r.v d v h' Y e)
theorem N8{a lo H}(j:au w os F fn a)(L:∀e,lo=.D e→au w os F fn e)(Y:∀e,H=.D e→au w os F fn e):au w os F fn (.sl a lo H):=λc z x k X Q E o u h K KX=>
 Subscript_ (fW j (aL o) (mL u) h KX λR z₁ V U m y=>wpAny_Slice (LW L (aL (aR o)) (mL (mR u)) U (KX.after m) λv I G C S t=>
  LW Y (aR (aR o)) (mR (mR u)) C (KX.after (m.trans S)) λW Z J M N g=>evalPart_none_step
   (He M Z.S (y.step (KE.kp (S.trans N))) (t.step N.kp) g (K.after ((m.trans S).trans N)).res)))
theorem z8(h:aB y=true):eval (.Attribute y n p) env=(do
 let o←eval y env
 standAt p.atName
 let r←holding [o] (getAttr o n true)
 letTemporaryGo y o r
 pure r):=by
 show(attributeBase y n env (eval y env)>>=_)=_;rw[eQ h]
theorem JW{P:List (Nat×V)→Prop}{C:Prop}(p:match v with|.dn _ j=>P j|_=>False)(r:VR w h W v x)(f:∀a d m c j,x=.ref a→P j→iu h a (cK c) d→h.Ns d m→MU w h W j m→C):C:=by
 cases r with
 |dn I M i A X=>exact f _ _ _ _ _ rfl p I i X
 |_=>exact p.elim
theorem Hq(H:au w os F fn a):au w os F fn (.J a n):=λc z x k X Q E o u h K KX=>
 Attribute_any_ (fW H (aR o) u h KX λR z₁ V U g y=>JW U y λa d m C L ex U I i j=>(tM U).elim λv q=>by
  subst ex;obtain⟨x,m1,r⟩:=j.find q.1;exact n6 z₁.S.H I i m1 (qU r) ((K.after g).j r q.2)) (z8 (aL o))
theorem Ko(P):dy P (ofString "len") (.builtin "len"):=.inr ⟨by kernel_rfl,by kernel_rfl⟩
theorem Ld(P):dy P (ofString "isinstance") (.builtin "isinstance"):=.inr ⟨by kernel_rfl,by kernel_rfl⟩
theorem FY(P):dy P (ofString "range") (.type "range"):=.inr ⟨by kernel_rfl,by kernel_rfl⟩
theorem OU(P)(g):dy P (P0 g) (N5 g):=by
 cases g<;>exact .inr ⟨by kernel_rfl,by kernel_rfl⟩
theorem NQ(P)(g):dy P (Oj g) (NC g):=by
 cases g<;>exact .inr ⟨by kernel_rfl,by kernel_rfl⟩
theorem GY(P):dy P (ofString "str") (.type "str"):=.inr ⟨by kernel_rfl,by kernel_rfl⟩
theorem HX(P)(c):dy P (Hk c) (Mz c):=by
 rcases c with _|_|_|c
 ·exact .inl (by show aY (ofString "Vector") _=some (.ref 318);kernel_rfl)
 ·exact GY P
 ·exact .inr ⟨by show aY (ofString "list") _=none;kernel_rfl,by show aY (ofString "list") _=some (.type "list");kernel_rfl⟩
 ·exact GY P
theorem ID:au w os F fn (.jZ p):=λc z x k X Q E o u h K KX=>
 wpAny_Call_Name_kw (dE c.O z.S.H (aL o) (Ko _) (PyProof.Rows.callWith_builtin1 (PyProof.Rows.spliced_more (nS (aR o) h λv x tk H lk=>PyProof.Rows.spliced_none
  (CB H lk λi t tk O=>K.j (.int i t) O)) (rj)) rj rfl))
theorem Pm(H:au w os F fn a):au w os F fn (.b1 g a):=λc z x k X Q E o u h K KX=>by
 have st:= @aE _ [] c.env (aL (aR o));refine wpAny_Call_Name_kw (dE c.O z.S.H (aL o) (OU _ g) ?_);have a9:wpAny (model PP w) c.A (spliced (backTo x.pos (starEach [aO fn.g a (kd x 1)] c.env))) (λV S=>wpAny (model PP w) c.A (call (N5 g) V) Q E S) E z.s:=
  PyProof.Rows.spliced_more (fW H (aR (aR o)) u h KX λR z₁ v U m y=>PyProof.Rows.spliced_none (Iu U z₁.S y (K.after m).res)) st
 cases g
 ·exact PyProof.Rows.callWith_builtin1 a9 st rfl
 ·exact PyProof.Rows.callWith_builtin1 a9 st rfl
 ·exact PyProof.Rows.callWith_type1 a9 st rfl
 ·exact PyProof.Rows.callWith_type1 a9 st rfl
 ·exact PyProof.Rows.callWith_builtin1 a9 st rfl
theorem NA(H:au w os F fn a)(hb:au w os F fn b):au w os F fn (.b2 g a b):=λc z x k X Q E o u h K KX=>by
 have S:= @aE _ [] c.env (aL (aR (aR o)));have s:= @aE _ [aO fn.g b (kd x 2)] c.env (aL (aR o));refine wpAny_Call_Name_kw (dE c.O z.S.H (aL o) (NQ _ g) ?_);have a9:wpAny (model PP w) c.A (spliced (backTo x.pos (starEach [aO fn.g a (kd x 1),aO fn.g b (kd x 2)] c.env))) (λV j=>wpAny (model PP w) c.A (call (NC g) V) Q E j) E z.s:=
  PyProof.Rows.spliced_more (fW H (aL (aR (aR (aR o)))) (mL u) h KX λR z₁ v U m y=>PyProof.Rows.spliced_more (fW hb (aR (aR (aR (aR o)))) (mR u) U (KX.after m) λr Z P C A t=>
   PyProof.Rows.spliced_none (I3 c.hA C Z.S (y.step A.kp) t (K.after (m.trans A)).res)) S) s
 cases g<;>exact PyProof.Rows.callWith_builtin1 a9 s (by rw[S];rfl)
theorem Gu(H:au w os F fn a):au w os F fn (.tV a d):=λc z x k X Q E o u h K KX=>
 have st:=aE (aL (aR (aR o)))
 wpAny_Call_Name_kw (dE c.O z.S.H (aL o) (Ld _) (PyProof.Rows.callWith_builtin1 (PyProof.Rows.spliced_more (fW H (aR (aR (aR o))) u h KX λr z₁ V U m y=>PyProof.Rows.spliced_more
  (dE c.O z₁.S.H (aL (aR o)) (HX _ d) (PyProof.Rows.spliced_none (IT z₁.S.H U y λb tk R=>(K.after m).j (.bool b) R))) rfl) st) st rfl))
theorem lE(H:∀y∈xs,aB y=true)
 (h:wpAny M A (spliced (backTo p (starEach xs env))) (λv t=>Q ⟨v,[]⟩ t) C s):wpAny M A (evalArgs f true (backTo p (starEach xs env)) []) Q C s:=by
 cases xs with
 |nil=>
  unfold evalArgs;refine wpAny_bind (wpAny_mono h (λv t h'=> ?_) λ_ _ x=>x);apply wpAny_holding;exact wpAny_bind (wpAny_pure (wpAny_bind (wpAny_pure (wpAny_pure h'))))
 |cons y Y=>
  rw[aE (H y (.head _))]at h⊢;exact Calls.evalArgs_plain h
theorem fD:(∀y∈xs,aB y=true)→(backTo p (starEach xs env)).any (·.1)=false∧(backTo p (starEach xs env)).all (λx=> !x.1)=true:=by
 induction xs with
 |nil=>exactλ_=>⟨rfl,rfl⟩
 |cons y Y I=>
  intro h;rw[aE (h y (.head _))];exact I λz H=>h z (.tail _ H)
theorem gg:qo g es f xs=true→∀y∈bC g es xs,aB y=true:=
 yz (C:=λes=>∀xs,qo g es f xs=true→∀y∈bC g es xs,aB y=true) (λ_ _ y H=>nomatch H)
  (λe es I xs o=>kZ o (λd _=>(tR d)▸(λy H=>nomatch H)) λd P _ O=>(cR d)▸(λy H=>(List.mem_cons.mp H).elim (λe=>e▸P) (I _ O y))) (λe n xs o=>ff ((n ..).symm.trans o)) es xs
theorem gU{T id:String}
 (g:attributeBase o name env (eval o env)=eval o env)(L:(D.endLine==U.line)=true)(H:∀y∈xs,aB y=true)(J:xs.length<20)
 (u:PlainAttrs T)(t:Slot T name id)(Y:typeOf (.builtin id)=pure (.type "method_descriptor"))
 (h:wpAny (model PP w) A (eval o env) (λO j=>j.TypeIs O T∧(∀a,O=.ref a→∃ob,j.heap.get? a=some ob∧ob.dict=none)∧
  wpAny (model PP w) A (spliced (backTo U (starEach xs env))) (λv d=>wpAny (model PP w) A (call (.builtin id) (O::v)) Q C d) C j) C s):
 wpAny (model PP w) A (eval (.Call (.Attribute o name D) xs [] U) env) Q C s:=by
 have st:=fD (env:=env) (p:=U) H;refine wpAny_Call_method g ?_ L u t Y (wpAny_mono h (λO j K=>⟨K.1,K.2.1,Calls.callWith_builtin st.1 (lE H K.2.2)⟩) λ_ _ x=>x);rw[st.2];exact decide_eq_true (Nat.lt_trans J (by decide))
theorem gB:attributeBase (.Name n p) name env t=t:=eQ rfl
theorem PK:∀y∈([]),aB y=true:=λ_ h=>nomatch h
theorem JE(h:aB a=true):∀y∈[a],aB y=true:=λy H=>mem_singleton.mp H▸h
theorem Qa(h:aB a=true)(h2:aB b=true):∀y∈[a,b],aB y=true:=λy H=>(mem_cons.mp H).elim (λe=>e▸h) (JE h2 y)
theorem yp{h:Heap}(e:h.get? a=some o)(d:o.dict=none):∀b,Value.ref a=.ref b→∃ob,h.get? b=some ob∧ob.dict=none:=λb q=>⟨o,Value.ref.inj q▸e,d⟩
theorem LG:au w os F fn (.Jy i):=λc z x k X Q E o u h K KX=>
 (zK h).elim λT q=>(C7 q.2).elim λl R=>(tM R.2).elim λv C=>z.S.xV q.1 R.1 λa V N p1 h1 h2 h3 h4=>by
  obtain⟨x,H,r⟩:=h4.getLast C.1;exact gU gB (aL o) PK (by decide) PySem.F.plainAttrs_list PySem.F.slot_list_pop PySem.F.type_list_pop (bz c.O (bO (aR o)) p1 ⟨⟨_,h1,rfl⟩,yp h1 rfl,
   PyProof.Rows.spliced_none (Ho h1 h3 H λh' n J S=>z.S.xW q.1 R.1 p1 h2 S J (Nat.le_trans (by simp) h3) h4.dropLast λs M=>K (.j v) ⟨_,_,z.W,s⟩ x C.2 M (VR.step M.kp r))⟩)
theorem yi{s:Shared}:s.TypeIs (.str x t) "str":=rfl
theorem CQ{h:Heap}:∀a,Value.str x t=.ref a→∃ob,h.get? a=some ob∧ob.dict=none:=λ_ e=>nomatch e
theorem Ht(H:au w os F fn a)(hb:au w os F fn b):au w os F fn (.join a b):=λc z x k X Q E o u h K KX=>
 have ps:=aL (aR (aR o))
 gU (eQ (aL (aR o))) (aL o) (JE ps) (by decide:1<20) PySem.F.plainAttrs_str PySem.F.slot_str_join PySem.F.type_str_join (fW H (aL (aR (aR (aR o)))) (mL u) h KX λR z₁ V U m y=>Pu U y λt tk U=>
  ⟨yi,CQ,PyProof.Rows.spliced_more (fW hb (aR (aR (aR (aR o)))) (mR u) U (KX.after m) λr Z v C S Y=>PyProof.Rows.spliced_none (Px C Y λl C Y=>L8 C λss N D C=>
   D2 N Y D C.1 λT tk=>(K.after (m.trans S)).j (.str ..) C.2)) (aE ps)⟩)
theorem Jo{x:V}{y:V}{P:Int→Str→Nat→Prop}{C:Prop}(h:match x,y with
 |.int n,.str c=>(match c.cps.toList with|[H]=>P n c H|_=>False)
 |_,_=>False)(f:∀n c H,x=.int n→y=.str c→c.cps.toList=[H]→P n c H→C):C:=by
 cases x with
 |int n=>
  cases y with
  |str c=>
   dsimp only at h;generalize e:c.cps.toList=o at h;cases o with
   |nil=>exact h.elim
   |cons H r=>
    cases r with
    |nil=>exact f n c H rfl rfl e h
    |cons _ _=>exact h.elim
  |_=>exact h.elim
 |_=>exact h.elim
theorem Ol(e:v=.int n)(r:VR w h W v x):∃t,x=.int n t:=by subst e;exact r.cF
theorem O2(e:v=.str n)(r:VR w h W v x):∃t,x=.str n t:=by subst e;exact r.cF
theorem Ed(H:au w os F fn a)(hb:au w os F fn b)(hd:au w os F fn d):au w os F fn (.jD a b d):=λc z x k X Q E o u h K KX=>
 have ps:=aL (aR (aR o));have P:=aL (aR (aR (aR o)))
 gU (eQ (aL (aR o))) (aL o) (Qa ps P) (by decide:2<20) PySem.F.plainAttrs_str PySem.F.slot_str_rjust PySem.F.type_str_rjust (fW H (aL (aR (aR (aR (aR o))))) (mL u) h KX λr z₁ V U m y=>Pu U y λt tk U=>
  ⟨yi,CQ,PyProof.Rows.spliced_more (fW hb (aL (aR (aR (aR (aR (aR o)))))) (mL (mR u)) U (KX.after m) λA Z v C S Y=>PyProof.Rows.spliced_more (fW hd (aR (aR (aR (aR (aR (aR o)))))) (mR (mR u)) C (KX.after (m.trans S)) λI T W M L g=>
   PyProof.Rows.spliced_none (Jo M λn s D q R N M=>by
    obtain⟨B,rfl⟩:=Ol q (Y.step L.kp);obtain⟨j,rfl⟩:=O2 R g;exact BZ N M.2.1 M.1 λG tk=>(K.after ((m.trans S).trans L)).j (.str ..) M.2.2.2)) (aE P)) (aE ps)⟩)
theorem NX{P:List (Str×V)→Prop}{C:Prop}(p:match v with|.lJ l=>P l|_=>False)(r:VR w h W v x)(f:∀l a k,P l→VR w h W (.lJ l) x→x=.ref a→jC w h a k→C):C:=by
 cases r with
 |lJ E j N=>exact f _ _ _ p (.lJ E j N) rfl E
 |_=>exact p.elim
theorem H0(H:au w os F fn a)(hb:au w os F fn b):au w os F fn (.wB a b):=λc z x k X Q E o u h K KX=>
 have ps:=aL (aR (aR o))
 gU (eQ (aL (aR o))) (aL o) (JE ps) (by decide:1<20) PySem.F.plainAttrs_dict PySem.F.slot_dict_get PySem.F.type_dict_get (fW H (aL (aR (aR (aR o)))) (mL u) h KX λR z₁ V U m y=>NX U y λl a s U r ex hd=>
  ⟨ex▸hd.1.typeIs,λb B=>hd.1.elim λo g=>g.elim λes g=>g.elim λp g=>⟨o,(Value.ref.inj (ex.symm.trans B))▸g.1,g.2.1.2.1⟩,PyProof.Rows.spliced_more (fW hb (aR (aR (aR (aR o)))) (mR u) U (KX.after m) λA Z P C S Y=>PyProof.Rows.spliced_none
   (Pu C Y λt tk C=>Fy (r.step S.kp) λv tk rv=>(K.after (m.trans S)).j rv C)) (aE ps)⟩)
end
structure bA(w:World)(fs:List Env)(h:Heap)(W:cw):Prop where
 base:∀b o,(Hd.H1 w.params).get? b=some o→b≠910→h.get? b=some o∧(W b).1=0
 jd:((W 910).1=0∨(W 910).1=4∨(W 910).1=5)∧∃vs,h.get? 910=some (cD vs)
 frames:∀env∈fs,env.scope.kind≠.module∧∃L m,env.frame=some L∧h.Ns L m∧((W L).1=1∨(W L).1=3)
theorem aH.b(C:aH w fs pl ρ h W):bA w fs h W:=⟨C.base,C.jd.elim (λt=>⟨t.1.imp id .inr,t.2⟩) λt=>⟨.inr (.inl t.1),t.2.imp λ_ e=>e.1⟩,C.frames⟩
noncomputable def KC(t:Nat)(h:Heap)(W:cw)(h':Heap)(W':cw):Prop:=KE h W h' W'∧∀a o,h.get? a=some o→10≤(W a).1→(W a).1≠t→h'.get? a=some o∧W' a=W a
noncomputable def MP(v:List V)(n:Nat):List Mine.Internal.S:=(v++replicate n V.none).map Mine.Internal.S.j
inductive qx(w:World)(h:Heap)(W:cw)(t:Nat):List Mine.Internal.S→List Value→Prop where
 |all {vs xs n}:cW w h W vs xs→qx w h W t (MP vs n) xs
 |hd {a x vs xs n}:a≠.y→a5 w h W t a x→cW w h W vs xs→qx w h W t (a::MP vs n) (x::xs)
inductive ly(w:World)(h:Heap)(W:cw)(t:Nat):List Mine.Internal.S→List Value→Prop where
 |no {xs}:ly w h W t [] xs
 |wd {s x xs}:a5 w h W t s x→ly w h W t [s] (x::xs)
structure Nw(A:Around)(fs:List Env)(f:Nat):Prop where
 frames:A.frames=some fs
 handled:A.handled=none
 depth:A.depth+4*f+2<880
 units:A.units+60*f+120<9900
theorem DH.f{A fs n u f}(a:DH A fs n u)(h:f<n):Nw A fs f:=⟨a.frames,a.handled,by have:=a.depth;exact zl 0x220f93aabd2a22f9c8e033ef9c82 rfl h this,by have:=a.units;exact zl 0xc790ba10b36147f527d15f9c0181e104e0cec8a88ec482 rfl h this⟩
section
variable(w:World)(os:OsState)(F:Nat→Spec)(fn:hM)
noncomputable def xc(f:Nat):Prop:=∀j A s W t args xs K X R,
 Nw A j f→(fn.g f).sf≤xs.length→(t=7∨10≤t∧t<810)→s.gens= #[]→s.os=os→bA w j s.heap W→qx w s.heap W t args xs→F f args K X→
 (∀r ss S W' v,K r ss→S.gens= #[]→S.os=os→KC t s.heap W S.heap W'→a5 w S.heap W' 2 r.s v→ly w S.heap W' t ss xs→R (.ok (.ret v)) S)→
 (∀m a S,X m→XS os j s.heap W a m S→R (.error (.ref a)) S)→codeAny (model PP w) A (.call (.ref (fn.g f).I) ⟨xs,[]⟩) R s
structure ET(f:Nat):Prop where
 obj:∃o fd,(Hd.bD w.params).get (fn.g f).I=some o∧alive o=some o∧(fn.g f).I<914∧(fn.g f).I≠910∧o.data=.func fd
 tQ:(fn.g f).kd=0→dy w.params (fn.g f).name (.ref (fn.g f).I)
 zE:(fn.g f).kd=1→findIn (Kc w.params 1) (.ref (cK 1)) (fn.g f).name=some (some (.ref (fn.g f).I))∧typeIn (Kc w.params 1) (.ref (fn.g f).I)=some (.type "function")∧∀k,(fn.g f).name≠an k
 O7:∀c,c<2→(fn.g f).kd=2+c→findIn (Kc w.params c) (.ref (cK c)) "__init__"=some (some (.ref (fn.g f).I))∧typeIn (Kc w.params c) (.ref (fn.g f).I)=some (.type "function")
structure fB:Prop where
 ok:∀f,f<fn.top→ET w fn f
 snd:∀f,f<fn.top→xc w os F fn f
noncomputable def zA(as:E):Prop:=∀(c:Fr fn)z xs p k X Q E,
 qo fn.g as c.cf xs=true→br as≤c.u→Om F as z.ρ k X→
 (∀args(Z:Zt w os c.fs c.pl)Y,k args Z.ρ→Le z Z→qx w Z.s.heap Z.W 7 args Y→Y.length=(bC fn.g as xs).length→Q Y Z.s)→KX z X E→wpAny (model PP w) c.A (spliced (backTo p (starEach (bC fn.g as xs) c.env))) Q E z.s
end
section
variable{w:World}{os:OsState}{F:Nat→Spec}{fn:hM}
theorem lO(h:Heap)(W:cw):∃t,1600≤t∧∀a o,h.get? a=some o→(W a).1<t:=
 have:∀n,∃t,1600≤t∧∀a,a<n→(W a).1<t:=λn=>Nat.rec ⟨1600,Nat.le_refl _,λa H=>absurd H (not_lt_zero _)⟩ (λn I=>I.elim λt h=>⟨max t ((W n).1+1),Nat.le_trans h.1 (Nat.le_max_left ..),λa H=>
  (Nat.lt_or_eq_of_le (le_of_lt_succ H)).elim (λl=>Nat.lt_of_lt_of_le (h.2 a l) (Nat.le_max_left ..)) λe=>e▸Nat.le_max_right ..⟩) n
 (this h.objs.size).imp λt h=>⟨h.1,λa o e=>h.2 a (lt_size e)⟩
theorem ya(C:aH w f L ρ h W)(c:aH w f L D H U)(K:KE h W H U)(d:∀a o,h.get? a=some o→(W a).1<t):∀i,i<D.length→(U (L i).I).1<t:=λi I=>by
 rw[C.qk c]at I;obtain⟨x,a⟩:=C.cz I;obtain⟨o,e⟩:=a.lt;rw[K.ny (C.bG i I) a];exact d _ o e
noncomputable def KS(t:Nat)(h:Heap)(W:cw)(h':Heap)(W':cw):Prop:=∀b o,(W b).1<t→h.get? b=some o→h'.get? b=some o∧W' b=W b
theorem xy(e:n=m)(H:m<900)(C:900≤t):n<t:=e▸Nat.lt_of_lt_of_le H C
theorem KS.kp(k:KS t h W h' W')(ht:900≤t):Kp h W h' W':=λb o e l=>have z:=k b o (xy l (by decide) ht) e;⟨z.1,z.2▸l⟩
theorem KS.mv(k:KS t h W h' W')(ht:900≤t)(hi:i<800):Mv h W (10+i) h' W' (10+i):=λb o e l=>
 have z:=k b o (xy l (Nat.lt_trans (Nat.add_lt_add_left hi 10) (by decide)) ht) e
 ⟨z.1,z.2.trans (Prod.ext l rfl)⟩
theorem eR{p:fQ}(a:p.At h x)(k:∀o,h.get? p.I=some o→h'.get? p.I=some o):p.At h' x:=by
 cases p with
 |ns L n=>exact a.imp λm y=>⟨cj y.1 k,y.2⟩
 |cell c=>exact a.imp λo y=>⟨k _ y.1,y.2⟩
theorem aH.GH(C:aH w fs pl ρ h W)(ht:900≤t)(hl:ρ'.length=ρ.length)(RC:∀i,i<ρ'.length↔pl' i≠.cell 910)(k:KS t h W h' W')
 (hs:∀i S,ρ'[i]? =some S→∃x,(pl' i).At h' x∧(S=.y∨∃v,x=some v∧a5 w h' W' (10+i) S v))(RD:∀i,i<ρ'.length→qA (pl' i) (W' (pl' i).I).1):aH w fs pl' ρ' h' W':=
 have K:∀L m,(W L).1<t→h.Ns L m→h'.Ns L m∧W' L=W L:=λL m l e=>⟨cj e λo H=>(k L o l H).1,e.elim λo e=>e.elim λ_ e=>e.elim λ_ e=>(k L o l e.1).2⟩;have X:=λL l=>l.elim (λe=>xy e (by decide) ht) λe=>xy e (by decide) ht
 ⟨λb o e n=>have z:=C.base b o e n;k.kp ht b o z.1 z.2,C.jd.elim (λy=>y.2.elim λV e=>have q:=k _ _ (y.1.elim (λe=>xy e (by decide) ht) λe=>xy e (by decide) ht) e;.inl ⟨q.2▸y.1,V,q.1⟩)
  (λy=>y.2.elim λV e=>have q:=k _ _ (xy y.1 (by decide) ht) e.1;.inr ⟨q.2▸y.1,V,q.1,e.2.step (k.kp ht)⟩),hl▸C.len,RC,hs,RD,
  λenv E=>have c:=C.frames env E;⟨c.1,c.2.imp λL y=>y.imp λm y=>have q:=K L m (X L y.2.2) y.2.1;⟨y.1,q.1,q.2▸y.2.2⟩⟩,
  C.head.imp λenv y=>y.imp λO y=>y.imp λL y=>y.imp λm y=>have q:=K L m (X L (.inl y.2.2.2)) y.2.2.1;⟨y.1,y.2.1,q.1,q.2▸y.2.2.2⟩⟩
theorem aH.k8{S:Mine.Internal.S}(C:aH w fs pl ρ h W)(ht:900≤t)(k:KS t h W h' W')(e:ρ[i]? =some S)(hp:∀o,h.get? (pl i).I=some o→h'.get? (pl i).I=some o∧W' (pl i).I=W (pl i).I):
 (∃x,(pl i).At h' x∧(S=.y∨∃v,x=some v∧a5 w h' W' (10+i) S v))∧qA (pl i) (W' (pl i).I).1:=
 have H:=(List.getElem?_eq_some_iff.mp e).1
 (C.slots i S e).elim λx y=>y.1.lt.elim λo E=>
  ⟨⟨x,eR y.1 λo e=>(hp o e).1,y.2.imp id λz=>z.imp λv z=>⟨z.1,z.2.cY (k.kp ht) (k.mv ht (Nat.lt_of_lt_of_le H C.len))⟩⟩,(hp o E).2▸C.bG i H⟩
theorem Kn{ρ:R}(h:i<ρ.length):∃S,ρ[i]? =some S:=⟨_,getElem?_eq_getElem h⟩
theorem aH.qX(C:aH w fs pl ρ h W)(ht:900≤t)(hp:∀i,i<ρ.length→∀o,h.get? (pl i).I=some o→h'.get? (pl i).I=some o∧W' (pl i).I=W (pl i).I)(k:KS t h W h' W'):aH w fs pl ρ h' W':=
 C.GH ht rfl C.a9 k (λi S e=>(C.k8 ht k e (hp i (List.getElem?_eq_some_iff.mp e).1)).1) λi H=>(Kn H).elim λS e=>(C.k8 ht k e (hp i H)).2
theorem aH.jX{S:Mine.Internal.S}(C:aH w fs pl ρ h W)(ht:900≤t)(k:KS t h W h' W')(RC:∀i,i≠j→pl' i=pl i)(hj:j<ρ.length)(nj:pl' j≠.cell 910)
 (hp:∀i,i≠j→i<ρ.length→∀o,h.get? (pl i).I=some o→h'.get? (pl i).I=some o∧W' (pl i).I=W (pl i).I)
 (aj:∃x,(pl' j).At h' x∧(S=.y∨∃v,x=some v∧a5 w h' W' (10+j) S v))(lj:qA (pl' j) (W' (pl' j).I).1):aH w fs pl' (ρ.set j S) h' W':=by
 refine C.GH ht length_set (λi=> ?_) k (λi T e=> ?_) λi H=> ?_
 ·rw[length_set]
  by_cases I:i=j
  ·subst I;exact⟨λ_=>nj,λ_=>hj⟩
  ·rw[RC i I];exact C.a9 i
 ·rw[getElem?_set]at e
  by_cases I:j=i
  ·subst I
   rw[if_pos rfl,if_pos hj]at e;exact Option.some.inj e▸aj
  ·rw[if_neg I]at e
   rw[RC i (Ne.symm I)];exact(C.k8 ht k e (hp i (Ne.symm I) (List.getElem?_eq_some_iff.mp e).1)).1
 ·rw[length_set]at H
  by_cases I:i=j
  ·subst I;exact lj
  ·rw[RC i I]
   exact(Kn H).elim λS e=>(C.k8 ht k e (hp i I H)).2
theorem aH.yB(C:aH w fs pl ρ h W)(ht:900≤t)(hp:∀i,i<ρ.length→(W (pl i).I).1<t):aH w fs pl ρ h (λa=>lb t u (W a)):=
 C.qX ht (λi H o e=>⟨e,pq (ne_of_lt (hp i H))⟩) λb o l e=>⟨e,pq (ne_of_lt l)⟩
theorem Kq.gE(K:Kq xx ss h W RC RD)(hf:∀a o,h.get? a=some o→(W a).1<t)(hk:KS t RC RD RE RF):Kq xx ss h W RE RF:=
 ⟨λa o e l=>have z:=K.ex a o e l;have q:=hk a o (z.2▸hf a o e) z.1;⟨q.1,q.2.trans z.2⟩,
  λa o e l=>have z:=K.sl a o e l;(K.there a o e l).elim λO E=>have lt:=z.2▸hf a o e;⟨λm H=>cj (z.1 m H) λo e=>(hk a o lt e).1,(hk a O lt E).2.trans z.2⟩,
  λa o e l=>(K.there a o e l).imp λO E=>(hk a O ((K.sl a o e l).2▸hf a o e) E).1,
  λV l e=>have y:=K.jd V l e;y.2.elim λm E=>have q:=hk _ _ (y.1▸hf _ _ e) E;⟨q.2.trans y.1,m,q.1⟩⟩
theorem Kq.Oq(K:KE h W h' W')(ht:900≤t):Mv h W t h' W' t:=λa o e l=>have z:=K.ex a o e (.inr (.inr (.inr (l▸ht))));⟨z.1,z.2.trans (Prod.ext l rfl)⟩
theorem Mw{r:Rv}:r.s≠.y:=by cases r<;>exactλe=>nomatch e
theorem zS{C:E→E→Prop}(h:Om F (.cons a b) ρ k X)(H:∀e,ev F e ρ (λr ρ=>Cy F b ρ (λv ρ=>k (r.s::v.map .j) ρ) X) X→C (.j6 e) b)
 (o:ev F a ρ (λr ρ=>Cy F b ρ (λv ρ=>k (.j r.v::v.map .j) ρ) X) X→C a b):C a b:=by
 cases a with
 |j6 e=>exact H e h
 |_=>exact o h
theorem ED:zA w os F fn .nil:=λc z xs p k X Q E o H h K _=>PyProof.Rows.spliced_none (K [] z [] h .refl (.all (n:=0) .nil) rfl)
theorem C8(H:(∀e,a≠.j6 e)→au w os F fn a)(m:∀e,a=.j6 e→au w os F fn e)(hb:pU w os F fn b):zA w os F fn (.cons a b):=λc z xs p k X Q E o u h K KX=>kZ o
 (λd o=>by
  rw[tR d]at K⊢;have M:=sj d;have B:=k9 o;subst M B;exact PyProof.Rows.spliced_none (K _ z [] h .refl (.all (n:=1) .nil) rfl)) λd x O y=>by
  rw[cR d]at K⊢;refine PyProof.Rows.spliced_more ?_ (aE x)
  by_cases N:∃e,a=.j6 e
  ·obtain⟨e,rfl⟩:=N
   obtain⟨t,D,f⟩:=lO z.s.heap z.W;exact m e rfl c z (hd xs) _ X _ E O (mL u) h (λr z₁ v U g I=>
    have J:=g.trans (KE.bo)
    hb c ⟨z₁.ρ,z₁.s,λa=>lb 2 t (z₁.W a),z₁.S.gens,z₁.S.os,z₁.S.H.bo⟩ _ p _ X _ E y (mR u) U (λV n Z W _ A S G le=>
     have j:=J.trans S;have T:=Nat.le_trans (by decide) D;have s:KS t Z.s.heap Z.W Z.s.heap (λa=>lb t 7 (Z.W a)):=λb o l e=>⟨e,pq (ne_of_lt l)⟩;have P:=s.kp T
     K _ ⟨Z.ρ,Z.s,_,Z.S.gens,Z.S.os,Z.S.H.yB T (ya z.S.H Z.S.H j f)⟩ _ A (j.gE f s)
      (.hd Mw (((I.cY (KE.bo).kp Mv.to).cY S.kp (S.Oq T)).cY P Mv.to) (G.step P)) (congrArg succ le)) (KX.after J)) KX
  ·have R:=λe q=>N ⟨e,q⟩
   have h:=zS (C:=λa b=>(∀e,a≠.j6 e)→ev F a z.ρ (λr ρ=>Cy F b ρ (λV ρ=>k (.j r.v::V.map .j) ρ) X) X) h (λe _ n=>absurd rfl (n e)) (λh _=>h) R;exact fW (H R) O (mL u) h KX λRC z₁ RD U g L=>hb c z₁ _ p _ X _ E y (mR u) U (λV n i W _ h' Y r' le=>
    K _ i _ h' (g.trans Y) (.hd (λq=>nomatch q) (VR.step Y.kp L) r') (congrArg succ le)) (KX.after g)
theorem aH.AH(C:aH w fs pl ρ h W)(K:KC 7 h W h' W'):aH w fs pl ρ h' W':=
 C.BO K.1 λj H a o e l=>have z:=K.2 a o e (l▸le_add_right 10 j) (λq=>absurd (l.symm.trans q) (zm 2744556240278 rfl _));⟨z.1,z.2.trans (Prod.ext l rfl)⟩
theorem aH.Lz{S:Mine.Internal.S}(C:aH w fs pl ρ h W)(K:KC (10+i) h W h' W')(hs:S≠.y→∀x,(pl i).At h x→∃v,x=some v∧a5 w h' W' (10+i) S v):aH w fs pl (ρ.set i S) h' W':=
 C.mM K.1 (λj H _ a o e l=>have z:=K.2 a o e (l▸le_add_right 10 j) (λq=>AO H (l.symm.trans q));⟨z.1,z.2.trans (Prod.ext l rfl)⟩) hs
theorem ET.has(O:ET w fn f)(C:aH w fs pl ρ h W):∃o fd,h.get? (fn.g f).I=some o∧o.data=.func fd:=
 O.obj.imp λo g=>g.imp λfd g=>⟨C.obj g.2.2.1 g.2.2.2.1 g.1 g.2.1,g.2.2.2.2⟩
noncomputable def CP(Q C:Value→Shared→Prop)(r:Result)(t:Shared):Prop:=match r with|.ok (.ret v)=>Q v t|.ok _=>False|.error e=>C e t
theorem callAny(H:∀y∈xs,aB y=true)
 (h:wpAny M A (spliced (backTo p (starEach xs env))) (λv j=>(∃b,(b=Keeper.frame∨b=Keeper.machine)∧∀f,f b j→wpAny M A (keeperOf (.ref a)) f C j)∧codeAny M A (.call (.ref a) ⟨first++v,[]⟩) (CP Q C) j) C s):
 wpAny M A (callWith p (.ref a) first (backTo p (starEach xs env)) []) Q C s:=by
 unfold callWith;refine wpAny_bind (wpAny_holding (lE H (wpAny_mono h (λv j U=>wpAny_bind (wpAny_standAt ?_)) λ_ _ x=>x)));obtain⟨⟨b,k,hb⟩,c⟩:=U;have S:=wpAny_call c;rw[(fD H).1];have tail:∀{t:Sem Value},wpAny M A t Q C j→wpAny M A (t>>=λr=>holding [r] point>>=λ_=>pure r) Q C j:=
  λT=>wpAny_bind (wpAny_mono T (λr d R=>wpAny_bind (wpAny_holding (wpAny_point (wpAny_pure R)))) λ_ _ x=>x)
 refine wpAny_bind (hb _ ?_);rcases k with rfl|rfl
 ·show wpAny M A (if(backTo p (starEach xs env)).length+2*([]).length>30 then _ else _) Q C j
  split
  ·exact tail S
  ·exact tail (Calls.wpAny_keep S)
 ·exact tail S
theorem vw(h:∃o d,s.heap.get? a=some o∧o.data=.func d):∃b,(b=Keeper.frame∨b=Keeper.machine)∧∀Q,Q b s→wpAny M A (keeperOf (.ref a)) Q C s:=
 h.elim λo g=>g.elim λd g=>⟨.frame,.inl rfl,λQ q=>by
  unfold keeperOf;refine wpAny_bind (wpAny_load g.1 ?_);rw[g.2];exact wpAny_pure q⟩
theorem Lw(Y:Makes (model PP w) s.heap a):∃b,(b=Keeper.frame∨b=Keeper.machine)∧∀Q,Q b s→wpAny (model PP w) A (keeperOf (.ref a)) Q C s:=by
 obtain⟨⟨O,od,d,sl,H,E,j,t⟩,M,B,S,top,cl,T⟩:=Y;refine⟨.machine,.inr rfl,λQ q=> ?_⟩;unfold keeperOf;exact wpAny_bind (wpAny_load H (wpAny_bind (cl.here (wpAny_pure q))))
theorem sC{C:Prop}(o:JS g c f k r=true)(h:(g f).kd=k→f<c.lv→(g f).sf≤r→C):C:=h (eq_of_beq_eq_true (aL o)) (le_of_ble_eq_true (aL (aR o))) (le_of_ble_eq_true (aR (aR o)))
theorem Bl(G:fB w os F fn)(H:zA w os F fn as):au w os F fn (.call f as):=λc z x k X Q E o u h K KX=>sC (aL (aR o)) λkd d R=>
 have g:=G.ok f (Nat.lt_of_lt_of_le d c.tp)
 wpAny_Call_Name_kw (dE c.O z.S.H (aL o) (g.tQ kd) (callAny (gg (aR (aR o))) (H c z _ _ _ X _ E (aR (aR o)) u h (λargs Z s h' Y C le=>⟨vw (g.has Z.S.H),
  G.snd f (Nat.lt_of_lt_of_le d c.tp) c.fs c.A Z.s Z.W 7 args s _ X _ (c.hA.f d) (le▸R) (.inl rfl) Z.S.gens Z.S.os Z.S.H.b C h' (λr ss S W v B g2 O kc t _=>K r ⟨Z.ρ,S,W,g2,O,Z.S.H.AH kc⟩ v B (Y.trans kc.1) t)
   λm a S V x=>KX m a S V (x.pre Y)⟩) KX)))
theorem CG(e:mJ o=some J)(r:a5 w h W t o x):a5 w h W t J x:=by
 cases o<;>first|exact fN e|(cases e;exact r)
theorem sW(e:mJ o=some J):o≠.y∧J≠.y:=by
 cases o<;>first|exact fN e|(cases e;exact⟨(λq=>nomatch q),(λq=>nomatch q)⟩)
theorem FH(e:F8 o=some J):mJ o=some J∧∃L,o=.oi 1 L∨o=.bi 1 L:=by
 cases o with
 |oi c s=>match c,e with|1,e=>exact⟨e,s,.inl rfl⟩
 |bi c s=>match c,e with|1,e=>exact⟨e,s,.inr rfl⟩
 |_=>exact fN e
theorem J0{x y:Mine.Internal.S}{C:Prop}(h:(match b with|true=>some x|false=>none)=some y)(f:b=true→x=y→C):C:=by
 cases b with
 |true=>exact f rfl (Option.some.inj h)
 |false=>exact fN h
theorem Bp(e:pZ o d=some O)(r:a5 w h W t d x):a5 w h W t O x:=by
 cases o with
 |U l=>cases d<;>first|(cases e;exact r)|exact fN e
 |bl l=>cases d<;>first|(cases e;exact r)|exact fN e
 |oi c f=>
  cases d with
  |bi C Z=>exact J0 e λq e=>by rw[←e,eq_of_beq_eq_true q];exact r
  |_=>exact fN e
 |bi c f=>
  cases d with
  |bi C Z=>exact J0 e λq e=>by rw[←e,eq_of_beq_eq_true q];exact r
  |_=>exact fN e
 |_=>exact fN e
theorem QK{P:Mine.Internal.S→List V→Prop}{C:Prop}(h:match o,O with|some a,some b=>P a b|_,_=>False)(f:∀a b,o=some a→O=some b→P a b→C):C:=by
 cases o with
 |none=>exact h.elim
 |some a=>cases O with
  |none=>exact h.elim
  |some b=>exact f a b rfl rfl h
theorem Rk{P:Mine.Internal.S→Prop}{C:Prop}(h:match l with|[a]=>P a|_=>False)(f:∀a,l=[a]→P a→C):C:=by
 cases l with
 |nil=>exact h.elim
 |cons a l=>cases l with
  |nil=>exact f a rfl h
  |cons b l=>exact h.elim
theorem qx.Ms(n:a≠.y)(o:a5 w h W t a x)(r:cW w h W vs xs):qx w h W t (a::vs.map .j) (x::xs):=
 congrArg (λl=>a::l.map Mine.Internal.S.j) (append_nil vs)▸qx.hd (n:=0) n o r
theorem ly.cF(b:ly w h W t [s] (x::xs)):a5 w h W t s x:=by
 cases b with
 |wd r=>exact r
theorem vr{c:Fr fn}{z:Zt w os c.fs c.pl}{tk:Nat}{X:Str→Prop}{Q E:Value→Shared→Prop}(G:fB w os F fn)(H:f<c.cf.lv)(U:(fn.g f).sf≤Y.length+1)(J:mJ O=some u)
 (I:(c.pl i).At z.s.heap (some y))(M:a5 w z.s.heap z.W (10+i) O y)(h8:i<800)(C:cW w z.s.heap z.W D Y)
 (h:F f (u::D.map .j) (λr ss=>match ss with|[t]=>(match pZ O t with|some o=>k r (z.ρ.set i o)|.none=>False)|_=>False) X)(K:KQ z k Q)(KX:KX z X E):
 codeAny (model PP w) c.A (.call (.ref (fn.g f).I) ⟨y::Y,[]⟩) (CP Q E) {z.s with toks:=tk}:=
 G.snd f (Nat.lt_of_lt_of_le H c.tp) c.fs c.A {z.s with toks:=tk} z.W (10+i) _ _ _ X _ (c.hA.f H) U (.inr ⟨le_add_right 10 i,Nat.add_lt_add_left h8 10⟩) z.S.gens z.S.os z.S.H.b (.Ms (sW J).2 (CG J M) C) h
  (λr ss S W v d g2 L kc R B=>Rk d λt es d=>(zK d).elim λo q=>by
   subst es;exact K r ⟨_,S,W,g2,L,z.S.H.Lz kc λ_ x a=>⟨y,(I.qE a).symm,Bp q.1 B.cF⟩⟩ v q.2 kc.1 R) λm a S N x=>KX m a S N x
theorem Ee(G:fB w os F fn):au w os F fn (.P f i as):=λc z x k X Q E o H h K KX=>sC (aL (aR o)) λkd d R=>QK h λJ S Y j h=>(zK h).elim λZ q=>
 jO z.S.H Y (sW q.1).1 λy V r h8=>
  have g:=G.ok f (Nat.lt_of_lt_of_le d c.tp);have O:=aR (aR (aR o))
  wpAny_Call_Name_kw (dE c.O z.S.H (aL o) (g.tQ kd) (callAny (λu H=>(mem_cons.mp H).elim (λe=>e▸rfl) (gg O u)) (PyProof.Rows.spliced_more (bz c.O (bO (aL (aR (aR o)))) V
   (vj O j λC tk s le=>⟨vw (g.has z.S.H),vr G d (le▸R) q.1 V r h8 s q.2 K KX⟩)) rfl)))
theorem yT(G:fB w os F fn):au w os F fn (.gz f i as):=λc z x k X Q E o L h K KX=>sC (aL (aR o)) λj H r=>QK h λA v Y S h=>(zK h).elim λZ q=>by
 have g:=G.ok f (Nat.lt_of_lt_of_le H c.tp);have O:=aL (aR (aR (aR o)));obtain⟨N,B,W⟩:=FH q.1;refine jO z.S.H Y (sW N).1 λy V R h8=> ?_;cases Kh W R with
 |mk I M J D u d U C T=>
  obtain⟨m1,m2,m3⟩:=g.zE j;have P:=gg O;have m:methodCallForm ((bC fn.g as (bP x).tail).length+([]:List Keyword).length) (backTo x.pos (starEach (bC fn.g as (bP x).tail) c.env)) (backToKw x.pos (keywordEach [] c.env))=true:=by
   show((backTo x.pos (starEach (bC fn.g as (bP x).tail) c.env)).all (λx=> !x.1)&&true&&decide ((bC fn.g as (bP x).tail).length+0+0<30))=true;rw[(fD P).2];exact decide_eq_true (Nat.lt_trans (le_of_ble_eq_true (aR (aR (aR (aR o))))) (by decide))
  show wpAny _ _ (eval (.Call (.Attribute (vX _) _ _) _ [] _) _) _ _ _;rw[arm_eval_Call,show∀t,attributeBase (vX (kd (kd x 0) 0)) (fn.g f).name c.env t=t fromλt=>gB];refine wpAny_bind (bz c.O (bO (aL (aR (aR o)))) V (wpAny_bind (wpAny_standAt ?_)));unfold methodCall;rw[m];refine wpAny_bind (wpAny_holding (zk z.S.H I ⟨_,_,_,J,rfl,u,λ_=>rfl⟩ (U _ m3) m1 m2 ?_));refine wpAny_bind (wpAny_of_eq (show methodCallPos true _ _ _ _=pure x.pos by unfold methodCallPos;rw[(aL o:((kd x 0).pos.endLine==x.pos.line)=true)];rfl) ?_);exact callAny P (vj O S λp tk s le=>⟨vw (g.has z.S.H),vr G H (le▸r) N V R h8 s q.2 K KX⟩)
theorem Ma(P)(h:c<2):dy P (I6 c) (.ref (cK c)):=by
 rcases c with _|_|c
 ·exact .inl (by show aY (ofString "Vector") _=some (.ref 318);kernel_rfl)
 ·exact .inl (by show aY (ofString "Matching") _=some (.ref 614);kernel_rfl)
 ·exact absurd h (zm 701935988683 rfl _)
theorem mz:StrKeys (#[]):=λe H=>by simp at H
theorem y8(a:DH A j n u)(h:f<n):Nw (A.under (.builtin "type.__call__" ⟨.ref C::t,[]⟩)) j f:=
 ⟨a.frames,a.handled,by have:=a.depth;exact zl 0x883e4eaaf4de8c2269c8e033ef9c82 rfl h this,by have:=a.units;exact zl 0x31e42e842cd851fd4ba4611179c0181e104e0cec8a88ec482 rfl h this⟩
theorem PW{r:Rv}{ss:List Mine.Internal.S}{c:Nat}{P:List (Nat×FK)→Prop}{C:Prop}(h:match r,ss with|.j .none,[.bi U d]=>(match Nat.beq c U with|true=>P d|false=>False)|_,_=>False)(f:∀d,r=.j .none→ss=[.bi c d]→P d→C):C:=by
 cases r with
 |j v=>
  cases v with
  |none=>
   cases ss with
   |nil=>exact h.elim
   |cons s ss=>
    cases s with
    |bi U d=>
     cases ss with
     |nil=>
      dsimp only at h;cases e:Nat.beq c U with
      |true=>rw[e]at h;exact f d rfl (by rw[Nat.eq_of_beq_eq_true e]) h
      |false=>rw[e]at h;exact h.elim
     |cons _ _=>exact h.elim
    |_=>exact h.elim
  |_=>exact h.elim
 |_=>exact h.elim
theorem Lb(G:fB w os F fn)(H:pU w os F fn as):au w os F fn (.new c f as):=λC z x k X Q E o u h K KX=>sC (aL (aR o)) λkd d g=>
 have M:=le_of_ble_eq_true (aL (aR (aR o)));have N:=(G.ok f (Nat.lt_of_lt_of_le d C.tp)).O7 c M kd;have O:=aR (aR (aR o))
 wpAny_Call_Name_kw (dE C.O z.S.H (aL o) (Ma _ M) (callAny (gg O) (H C z _ _ _ X _ E O u h (λvs n Z D _ h' U A le=>
  have Y:=makes_of (o9 Z.S.H c) (Ez _ c)
  ⟨Lw Y,Z.push emptyDict (7,0) λJ T=>Zt.push ⟨Z.ρ,_,_,J⟩ (instObj (cK c) Z.s.heap.objs.size) (7,0) λS V=>by
   have I:=T.trans V;refine make_core Y (looks_findIn (o9 Z.S.H c) N.1) (λt=>bind_fn (o9 Z.S.H c) t N.2) (.inl rfl) ?_;dsimp only at S V I;rw[size_push]at S V I;have B:((Z.s.heap.push emptyDict).push (instObj (cK c) Z.s.heap.objs.size)).get? (Z.s.heap.objs.size+1)=some (instObj (cK c) Z.s.heap.objs.size):=by
    have:((Z.s.heap.push emptyDict).push (instObj (cK c) Z.s.heap.objs.size)).get? (Z.s.heap.push emptyDict).objs.size=some (instObj (cK c) Z.s.heap.objs.size):=get?_push_size _ rfl;rw[size_push]at this;exact this
   have oi:OI w ((Z.s.heap.push emptyDict).push (instObj (cK c) Z.s.heap.objs.size)) (dC (dC Z.W Z.s.heap.objs.size (7,0)) (Z.s.heap.objs.size+1) (7,0)) 7 c [] (.ref (Z.s.heap.objs.size+1)):=
    .mk (es:=[]) (n:=0) ⟨_,B,rfl,rfl,rfl⟩ aJ (Heap.get?_push_of_some _ (Heap.get?_push_size _ rfl)) ((bV (Nat.ne_of_lt (Nat.lt_succ_self _))).trans aJ) mz (Nat.zero_le _) (λy _=>rfl) ⟨List.nodup_nil,λp P=>nomatch P⟩ (λp P=>nomatch P)
   exact G.snd f (Nat.lt_of_lt_of_le d C.tp) C.fs _ _ _ 7 _ (.ref (Z.s.heap.objs.size+1)::D) _ X _ (y8 C.hA d) (by rw[length_cons,le];exact g) (.inl rfl) S.gens S.os S.H.b (.hd (a:=.bi c []) (λq=>nomatch q) oi (A.step (KE.kp I))) h'
    (λr ss s W v L g2 i kc b l=>PW L λe er es RC=>by
     subst er es;have ev:=VR.cF b;subst ev;have R:KE s.heap W s.heap (λa=>lb 7 2 (W a)):=KE.v8 (by unfold qC;exact zm 0x20574f04523feb3598157e71888 rfl) (by unfold ve;exact zm 670338037205128 rfl) (zm 85029060 rfl);exact⟨rfl,K (.oi c e) ⟨Z.ρ,s,λa=>lb 7 2 (W a),g2,i,(S.H.AH kc).BO R λj _=>Mv.v8 (zm 2744556240278 rfl _)⟩ _ RC (((U.trans I).trans kc.1).trans R) (OI.cY R.kp Mv.to l.cF)⟩)
    (λm a s hx x=>KX m a s hx (x.pre (U.trans I)))⟩) KX)))
end
inductive IH(w:World)(A:Around)(h:Heap)(W:cw)(I:Addr)(items:List V):Prop where
 |mk {fp P Q} (wk:Walks PP w A I fp [I] items.length P Q) (live:∀i h,Q i h→∃o,h.get? I=some o) (q0:Q 0 h) (hfp:∀b∈fp,b=I∨(∃o,h.get? b=some o)∧(W b).1=0) (hv:∀i x v,items[i]? =some x→P i v→VR w h W x v)
section
variable(w:World)(os:OsState)(F:Nat→Spec)(fn:hM)
noncomputable def sU(I:E):Prop:=∀(c:Fr fn)z x k X Q E t,
 bT fn.g I c.cf x=true→br I≤c.u→qY F I z.ρ k X→
 (∀items(Z:Zt w os c.fs c.pl)S,k items Z.ρ→Le z Z→Z.W S=(t,0)→(∃o,Z.s.heap.get? S=some o)→IH w c.A Z.s.heap Z.W S items→Q (.ref S) Z.s)→KX z X E→
 wpAny (model PP w) c.A (eval (aO fn.g I x) c.env) (λv s=>wpAny (model PP w) c.A (pyIter v) Q E s) E z.s
end
section
variable{w:World}{os:OsState}{F:Nat→Spec}{fn:hM}
theorem xm{lo st:Int}{n i:Nat}(e:(ao lo n st)[i]? =some x):x=.int (lo+i*st):=by
 unfold ao at e;rw[getElem?_map]at e;obtain⟨j,q,e⟩:=Option.map_eq_some_iff.mp e;have:=(List.getElem?_eq_some_iff.mp q).2;simp at this;rw[←e,←this,Int.mul_comm]
theorem uT{z:Zt w os y p}(g:z.s.heap.get? a=some o)(u:(z.W a).1=0)(j:cW w z.s.heap z.W l m)
 (k:KE z.s.heap z.W (z.s.heap.push ob) (dC z.W z.s.heap.objs.size (t,0)))(H:Walks PP w A z.s.heap.objs.size [z.s.heap.objs.size,a] [z.s.heap.objs.size] m.toArray.size P Q)(L:∀i h,Q i h→∃o,h.get? z.s.heap.objs.size=some o)(f:Q 0 (z.s.heap.push ob))(d:∀i v,P i v→m[i]? =some v):
 IH w A (z.s.heap.push ob) (dC z.W z.s.heap.objs.size (t,0)) z.s.heap.objs.size l:=by
 rw[((List.size_toArray (as:=m)).trans j.length.symm)]at H;refine .mk H L f (λb hb=>(mem_cons.mp hb).imp id λhb=>mem_singleton.mp hb▸KE.kp k a o g u|>.imp (λe=>⟨o,e⟩) id) λi x v E V=> ?_;obtain⟨N,X,R⟩:=j.get E;cases X.symm.trans (d i v V);exact R.step k.kp
theorem BL{P:List V→Prop}{C:Prop}(p:match sY v with|some l=>P l|.none=>False)(r:VR w h W v x)
 (f:∀l a m n,P l→x=.ref a→h.get? a=some (dk m n)→(W a).1=0→cW w h W l m→C)(ft:∀l a m n,P l→x=.ref a→h.get? a=some (xk m n)→(W a).1=0→cW w h W l m→C):C:=by
 cases r with
 |o E j N t=>exact f _ _ _ _ p rfl E j t
 |L E j N t=>exact ft _ _ _ _ p rfl E j t
 |_=>exact p.elim
theorem kS{h:Heap}(e:h.get? a=some o):a≠h.objs.size:=ne_of_lt (lt_size e)
theorem IJ(H:au w os F fn a):sU w os F fn (.D a):=λc z x k X Q E t o y h K KX=>fW H o y h KX λr z₁ O Y u Z=>BL Y Z
 (λl a V n d ex g W R=>by
  subst ex;have U:=kS g;exact wpAny_pyIter_list ⟨_,g,rfl,n,rfl⟩ (z₁.push _ (t,0) λS M=>K l ⟨z₁.ρ,_,_,S⟩ _ d (u.trans M) aJ ⟨_,get?_push_size _ rfl⟩
   (uT g W R M (Walks.list c.hA.handled _ a U V.toArray) (λi h q=>q.1.imp λo q=>q.1) ⟨⟨_,get?_push_size _ rfl,rfl,rfl⟩,⟨_,get?_push_of_some _ g,rfl,n,rfl⟩⟩ λi v P=>by simpa using P)))
 λl a V n d ex g W R=>by
  subst ex;have U:=kS g;exact wpAny_pyIter_tuple ⟨_,g,rfl,n,rfl⟩ (z₁.push _ (t,0) λS M=>K l ⟨z₁.ρ,_,_,S⟩ _ d (u.trans M) aJ ⟨_,get?_push_size _ rfl⟩
   (uT g W R M (Walks.tuple c.hA.handled _ a U V.toArray) (λi h q=>q.1.imp λo q=>q.1) ⟨⟨_,get?_push_size _ rfl,rfl,rfl⟩,⟨_,get?_push_of_some _ g,rfl,n,rfl⟩⟩ λi v P=>by simpa using P))
theorem jV(h:va a b=true):(-(2^62)≤a∧a<2^62∧-(2^62)≤b∧b<2^62):=by
 have h:(match decide (a.natAbs<2^60)with
  |true=>decide (b.natAbs<2^60)
  |false=>false)=true:=h
 cases q:decide (a.natAbs<2^60)with
 |true=>
  rw[q]at h;have h1:=of_decide_eq_true q;have h2:=of_decide_eq_true h;exact zl 0x22386b50900c8bb969b33f81ffc89879c640fc48dbaecc773 rfl h1 h2
 |false=>rw[q]at h;cases h
theorem js:Builtin.Range.rangeSize a b 2=(((b-a+1).fdiv 2).toNat):=by
 unfold Builtin.Range.rangeSize;simp only[show(2:Int)>0 by decide,if_true];rw[Int.fdiv_eq_ediv_of_nonneg _ (by decide)];split<;>lia
theorem fits(h: -(2^63)≤a∧a<2^63):Builtin.Range.rangeFitsLong a=true:=by
 unfold Builtin.Range.rangeFitsLong;simp only[Bool.and_eq_true,decide_eq_true_eq];exact h
theorem zc(h:va a b=true):Builtin.Range.small a b 2=true:=by
 obtain⟨h1,h2,h3,h4⟩:=jV h;have d1:(((b-a+1)/2).toNat:Int)<2^63:=zl 0x14d2b2003f6cc79f61010ed3462859149fa75d45d3d057c6b0a5e55d26a0372 rfl (QE _) h1 h4;unfold Builtin.Range.small;rw[js,Int.fdiv_eq_ediv_of_nonneg _ (by decide)];simp only[show(2:Int)>0 by decide,if_true,fits (show-(2^63)≤a∧a<2^63 from zl 0xa6f9223ed99cc8ee4053e4b254f9ca7 rfl h1 h2),fits (show-(2^63)≤b∧b<2^63 from zl 0xa6f9223ed99cc8ee4053e4b254f9ca7 rfl h3 h4),fits (show-(2^63)≤(2:Int)∧(2:Int)<2^63 by decide),fits (a:=(((b-a+1)/2).toNat:Int)) ⟨zl 0x5d891e9b001075659c3875d45d3d057e9181fe7a376a0372 rfl (QE _),d1⟩,
  fits (show-(2^63)≤b+(2-1)∧b+(2-1)<2^63 from zl 0xa6f9273f152dba84aff150e8ee4053e4b254f9ca7 rfl h3 h4),Bool.and_true,Bool.or_true]
theorem j4{c:Fr fn}{z z₁:Zt w os c.fs c.pl}{lo H st:Int}{n:Nat}{u M D tk t:Nat}{Q E:Value→Shared→Prop}{k:List V→R→Prop}(m:Le z z₁)
 (C:Builtin.Range.small lo H st=true)(U:Builtin.Range.rangeSize lo H st=n)(y:k (ao lo n st) z₁.ρ)
 (next:∀items(d:Zt w os c.fs c.pl)I,k items d.ρ→Le z d→d.W I=(t,0)→(∃o,d.s.heap.get? I=some o)→IH w c.A d.s.heap d.W I items→Q (.ref I) d.s):
 wpAny (model PP w) c.A (pyIter (.ref z₁.s.heap.objs.size)) Q E {z₁.s with heap:=z₁.s.heap.push {cls:=.type "range",data:=.fields #[.int lo u,.int H M,.int st D]},toks:=tk}:=
 (z₁.tk tk).push _ (0,0) λs K=>wpAny_pyIter_range (IsRange.new z₁.s.heap lo H st u M D) C (by
  rw[U];exact Zt.push ⟨z₁.ρ,_,_,s⟩ {cls:=.type "range_iterator",data:=.fields #[rawInt lo,rawInt n,rawInt st]} (t,0) λS B=>next (ao lo n st) ⟨z₁.ρ,_,_,S⟩ _ y (m.trans (K.trans B)) aJ ⟨_,get?_push_size _ rfl⟩ (by
   have W:=Walks.range (prog:=PP) (w:=w) c.hA.handled (z₁.s.heap.push {cls:=.type "range",data:=.fields #[.int lo u,.int H M,.int st D]}).objs.size lo st n;rw[←j9 (n:=n)]at W;refine .mk W (λi h q=>⟨_,q⟩) ?_ (λb hb=>.inl (mem_singleton.mp hb)) λi x v T P=> ?_
   ·have e:∀(h:Heap)(o O:Obj),o.isFreed=false→o=O→(h.push o).get? h.objs.size=some O:=λh o O f e=>e▸get?_push_size _ f
    exact e _ _ _ rfl (by simp[j9])
   ·obtain⟨j,rfl⟩:=P
    rw[xm T];exact .int ..))
theorem qg(h:oU v=some i):v=.int i:=by cases v<;>first|exact congrArg V.int (Option.some.inj h)|exact fN h
theorem JH{l l':List V}(h:(match b with|true=>some l|false=>none)=some l'):b=true∧l=l':=by
 cases b with
 |true=>exact⟨rfl,Option.some.inj h⟩
 |false=>exact fN h
theorem rY{C:Prop}(h:dG v=some l)(f1:∀n,v=[.int n]→va 0 n=true→ao 0 n.toNat 1=l→C)(f:∀a b,v=[.int a,.int b]→va a b=true→ao a (b-a).toNat 1=l→C)
 (t:∀a b,v=[.int a,.int b,.int 2]→va a b=true→ao a ((b-a+1).fdiv 2).toNat 2=l→C):C:=by
 cases v with
 |nil=>exact fN h
 |cons x r=>
  delta dG at h;dsimp only at h;generalize e:oU x=o at h;cases o with
  |none=>exact fN h
  |some a=>
   have e:=qg e;subst e;cases r with
   |nil=>exact f1 a rfl (JH h).1 (JH h).2
   |cons y r=>
    dsimp only at h;generalize e:oU y=o at h;cases o with
    |none=>exact fN h
    |some b=>
     have e:=qg e;subst e;cases r with
     |nil=>exact f a b rfl (JH h).1 (JH h).2
     |cons y r=>
      dsimp only at h;generalize e:oU y=o at h;cases o with
      |none=>exact fN h
      |some c=>
       have e:=qg e;subst e;cases r with
       |nil=>
        dsimp only at h;generalize q:decide (c=2)=d at h;cases d with
        |true=>exact t a b (by rw[of_decide_eq_true q]) (JH h).1 (JH h).2
        |false=>exact fN h
       |cons _ _=>exact fN h
theorem zd{C:Prop}(r:cW w h W (.int a::v) y)(f:∀t Y,y=.int a t::Y→cW w h W v Y→C):C:=by
 cases r with
 |cons R P=>exact(VR.cF R).elim λt e=>f t _ (by rw[e]) P
theorem Ha(r:cW w h W [] Y):Y=[]:=by cases r;rfl
theorem DQ(H:pU w os F fn as):sU w os F fn (.eJ as):=λc z x k X Q E t o u h K KX=>by
 have O:=aR (aR (aR o));have P:=gg O;obtain⟨y,s,L⟩:=w0 (aL (aR (aR o)));refine wpAny_Call_Name_kw (dE c.O z.S.H (aL o) (FY _) ?_);have a9:wpAny (model PP w) c.A (spliced (backTo x.pos (starEach (bC fn.g as (bP x).tail) c.env))) (λV=>wpAny (model PP w) c.A (call (.type "range") V) (λv S=>wpAny (model PP w) c.A (pyIter v) Q E S) E) E z.s:=by
  refine H c z _ _ _ X _ E O u h (λV n I s N h' Y R le=> ?_) KX;rw[Of (aL (aR o)) N]at h';obtain⟨l,e,d⟩:=C7 h';refine rY e (λn ev ok L=> ?_) (λa b ev ok L=> ?_) λa b ev ok L=> ?_
  ·subst ev L
   exact zd R λT B e R=>by
    have:=Ha R;subst this e;exact call_range_1 (j4 Y (small_one (by decide) (by decide) (jV ok).2.2.1 (jV ok).2.2.2) (by rw[rangeSize_one];split<;>(first|exact zl 46378913731112 rfl ‹_›|exact zl 21921293853630 rfl ‹_›)) d K)
  ·subst ev L
   exact zd R λT B e R=>zd R λW J j R=>by
    have:=Ha R;subst this j e;exact call_range_2 (j4 Y (small_one (jV ok).1 (jV ok).2.1 (jV ok).2.2.1 (jV ok).2.2.2) (by rw[rangeSize_one];split<;>(first|exact zl 0xa70ec2a615a61 rfl ‹_›|exact zl 5556375717148977 rfl ‹_›)) d K)
  ·subst ev L
   exact zd R λT B e R=>zd R λW J j R=>zd R λD f m R=>by
    have:=Ha R;subst this m j e;exact call_range_3 (by decide) (j4 Y (zc ok) js d K) (.inl (PyProof.noPylong_small (by decide)))
 rw[L]at a9 P⊢;exact PyProof.Rows.callWith_type1 a9 (aE (P y (.head _))) (fD λz Z=>P z (.tail _ Z)).1
end
noncomputable def lW(cells:List (Str×Addr)):List (Str×NameKind)→List (Str×Addr)→List (Str×Addr)
|[],c=>c
|(n,k)::r,c=>if k==.free then lW cells r ((n,(cells.lookup n).getD 0)::c)else lW cells r c
theorem BI
 (H:∀n k cs,f (n,k) cs=if(k==.free)=true then(do let c←cellOf env n;pure (ForInStep.yield ((n,c)::cs)))else pure (ForInStep.yield cs))
 (names):∀C,(∀n,(n,NameKind.free)∈names→(env.cells.lookup n).isSome=true)→(forIn names C f:Sem _)=pure (lW env.cells names C):=by
 induction names with
 |nil=>exactλ_ _=>rfl
 |cons p r I=>
  obtain⟨n,k⟩:=p;intro C h;have I:=λA=>I A λm M=>h m (.tail _ M);rw[forIn_cons,H];show _=pure (if(k==NameKind.free)=true then lW env.cells r ((n,(env.cells.lookup n).getD 0)::C)else lW env.cells r C);split
  ·rename_i K
   have U:k=.free:=by simpa using K
   subst U;obtain⟨c,O⟩:=Option.isSome_iff_exists.mp (h n (.head _));have:cellOf env n=pure c:=by unfold cellOf;rw[O]
   rw[this,O];simp only[pure_bind];exact I _
  ·simp only[pure_bind]
   exact I _
theorem jy(h:∀n,(n,NameKind.free)∈sc.names→(env.cells.lookup n).isSome=true):closureFor sc env=pure (lW env.cells sc.names []):=by
 unfold closureFor;show(forIn sc.names [] _>>=λs=>pure s)=_;rw[BI _ sc.names [] h]
 ·rfl
 ·intro n k cs
  dsimp only
theorem Ja{a b:Str}(h:¬a=b):(a==b)=false:=by simpa using h
theorem mT(H:cells.lookup n=some c)(names):∀C,((n,NameKind.free)∈names∨C.lookup n=some c)→(∀U,C.lookup n=some U→U=c)→(lW cells names C).lookup n=some c:=by
 induction names with
 |nil=>exactλC h _=>h.elim (λh=>nomatch h) id
 |cons p r I=>
  obtain⟨m,k⟩:=p;intro C h q;show List.lookup n (if(k==NameKind.free)=true then lW cells r ((m,(cells.lookup m).getD 0)::C)else lW cells r C)=_;split
  ·by_cases e:n=m
   ·subst e
    have E:List.lookup n ((n,(cells.lookup n).getD 0)::C)=some c:=by rw[lookup_cons_self,H];rfl
    exact I _ (.inr E) λU h'=>Option.some.inj (h'.symm.trans E)
   ·have E:List.lookup n ((m,(cells.lookup m).getD 0)::C)=List.lookup n C:=by rw[lookup_cons,Ja e]
    exact I _ (h.imp (λh=>(mem_cons.mp h).resolve_left λz=>e (Prod.mk.inj z).1) λh=>E.trans h) λU h'=>q U (E.symm.trans h')
  ·rename_i K
   exact I _ (h.imp (λh=>(mem_cons.mp h).resolve_left λz=>K (by rw[←(Prod.mk.inj z).2];rfl)) id) q
theorem dI(names):∀k c,cellsFrom k names c=cellsFrom k names []++c:=by
 induction names with
 |nil=>exactλ_ _=>rfl
 |cons p r I=>
  obtain⟨n,kd⟩:=p;intro k c;unfold cellsFrom;split
  ·rw[I (k+1) ((n,k)::c),I (k+1) [(n,k)],List.append_assoc];rfl
  ·exact I k c
theorem qs:∀{k},(n,c)∈cellsFrom k names []→(n,NameKind.cell)∈names:=by
 induction names with
 |nil=>exactλh=>nomatch h
 |cons p r I=>
  obtain⟨m,kd⟩:=p;intro k h;unfold cellsFrom at h;split at h
  ·rename_i H
   have O:kd=.cell:=by simpa using H
   subst O;rw[dI]at h;exact(mem_append.mp h).elim (λh=>.tail _ (I h)) λh=>(Prod.mk.inj (mem_singleton.mp h)).1▸.head _
  ·exact .tail _ (I h)
theorem jF:∀{k},(n,NameKind.cell)∈names→∃c,(n,c)∈cellsFrom k names []:=by
 induction names with
 |nil=>exactλh=>nomatch h
 |cons p r I=>
  obtain⟨m,kd⟩:=p;intro k h;unfold cellsFrom;split
  ·rw[dI]
   exact(mem_cons.mp h).elim (λz=>⟨k,mem_append_right _ ((Prod.mk.inj z).1▸.head _)⟩) λh=>(I h).imp λc H=>mem_append_left _ H
  ·rename_i K
   exact(mem_cons.mp h).elim (λz=>absurd (by rw[←(Prod.mk.inj z).2];rfl) K) I
theorem o8{Y:Type}{l l':List (Str×Y)}:(l++l').lookup n=(l.lookup n).or (l'.lookup n):=by
 induction l with
 |nil=>rfl
 |cons p l I=>
  rw[cons_append,lookup_cons,lookup_cons];cases n==p.1 with
  |true=>rfl
  |false=>exact I
theorem uC{Y:Type}{l:List (Str×Y)}(h:∀c,(n,c)∉l):l.lookup n=none:=by
 cases e:l.lookup n with
 |none=>rfl
 |some c=>exact absurd (mem_of_lookup e) (h c)
theorem oq{Y:Type}{n:Str}{c:Y}{l:List (Str×Y)}:(n,c)∈l→(l.lookup n).isSome=true:=by
 induction l with
 |nil=>exactλh=>nomatch h
 |cons p l I=>
  intro h;rw[lookup_cons];cases e:n==p.1 with
  |true=>rfl
  |false=>exact(mem_cons.mp h).elim (λz=>by rw[←z,beq_self_eq_true]at e;cases e) I
theorem wR{E:Value→Shared→Prop}
 (H:Q (newEnv sc s.heap.objs.size g (cellsFrom (s.heap.objs.size+1) sc.names cl) L none .none (some env) builtinsNs) {s with heap:=pushCells (s.heap.push {cls:=.type "dict",data:=.dict #[]}) sc.names}):
 wpAny M A (newFunctionEnv sc g cl [] L none .none (some env)) Q E s:=by
 simp only[newFunctionEnv,Option.isSome_some,if_true];refine wpAny_bind (wpAny_alloc ?_);refine wpAny_bind (wpAny_layCells _ (λname K cells=>by cases c:K==NameKind.cell<;>simp[c]) _ _ _ _ ?_);rw[show({s with heap:=s.heap.push {cls:=.type "dict",data:=.dict #[]}}:Shared).heap.objs.size=s.heap.objs.size+1 from size_push ..,forIn_nil];exact wpAny_bind (wpAny_pure (wpAny_pure H))
noncomputable def qG(j:Nat)(P:fQ)(L:Nat→fQ):Nat→fQ:=λi=>match decide (i=j)with
 |true=>P
 |false=>L i
theorem dh:qG j P L j=P:=by simp[qG]
theorem iM(h:i≠j):qG j P L i=L i:=by simp[qG,h]
theorem iJ{env:Env}{names:List (Str×NameKind)}:
 (names.map λ(n,k)=>if(k==NameKind.free&&env.scope.kind==.function&&env.kindOf n==some .cell)then(n,NameKind.cell)else(n,k)).lookup x=(names.lookup x).map λk=>if(k==NameKind.free&&env.scope.kind==.function&&env.kindOf x==some .cell)=true then NameKind.cell else k:=by
 induction names with
 |nil=>rfl
 |cons p r I=>
  obtain⟨n,k⟩:=p;show List.lookup x ((if(k==NameKind.free&&env.scope.kind==.function&&env.kindOf n==some .cell)=true then(n,NameKind.cell)else(n,k))::_)=_;cases H:x==n with
  |true=>
   have:x=n:=by simpa using H
   subst this;simp only[List.lookup_cons,H,Option.map_some];split<;>simp
  |false=>
   simp only[H];split<;>(simp only[List.lookup_cons,H];exact I)
noncomputable abbrev rS(sc:Scope)(C k:Nat)(cl:List (Str×Addr))(env:Env):Env:={newEnv sc C env.globals (cellsFrom k sc.names cl) env.qual none .none (some env) builtinsNs with scope:=relabel sc env}
section
variable{w:World}{os:OsState}{F:Nat→Spec}{fn:hM}
noncomputable def yN(sc:Scope)(t:Str)(C k:Nat)(cl:List (Str×Addr))(P:fQ):Prop:=(sc.names.lookup t=some .local∧P=.ns C t)∨(sc.names.lookup t=some .cell∧∃c,(cellsFrom k sc.names cl).lookup t=some c∧P=.cell c)
theorem zw(H:Jk g t j sc)(f:sc.names.lookup n=some .free)(C:cl.lookup n=some c):(cellsFrom k sc.names cl).lookup n=some c:=by
 rw[dI,o8,uC λX m=>(H.free n (mem_of_lookup f)).2 (H.cel n (qs m))];exact C
theorem gy{kd:NameKind}(ne:kd≠.free)(e:sc.names.lookup n=some kd):(rS sc C k cl env).kindOf n=some kd:=by
 show(relabel sc env).names.lookup n=_;unfold relabel;dsimp only;rw[iJ,e];simp[ne]
theorem El(H:sc.names.lookup n=some .free):(rS sc C k cl env).kindOf n=some .cell∨(rS sc C k cl env).kindOf n=some .free:=by
 show(relabel sc env).names.lookup n=_∨(relabel sc env).names.lookup n=_;unfold relabel;dsimp only;rw[iJ,H];dsimp only[Option.map_some];split
 ·exact .inl rfl
 ·exact .inr rfl
theorem zV(O:jw f env L)(H:Jk f t j sc)
 (U:∀n c,(n,NameKind.free)∈sc.names→env.cells.lookup n=some c→cl.lookup n=some c)(d:yN sc t C k cl P):jw (rW f j sc) (rS sc C k cl env) (qG j P L):=by
 have free:∀n,sc.names.lookup n=some .free→∃c,(cellsFrom k sc.names cl).lookup n=some c∧((rS sc C k cl env).kindOf n=some .cell∨(rS sc C k cl env).kindOf n=some .free)∧∀i,aQ n f.nm=some i→L i=.cell c:=λn V=>
  (O.Ij n (H.free n (mem_of_lookup V)).1).imp λc e=>⟨zw H V (U n c (mem_of_lookup V) e.1),El V,e.2.2⟩
 refine⟨H.kind,O.vn,O.blt,λn i h=> ?_,λn N=> ?_,λn N=>⟨gy (by decide) (H.gl n N).1,(H.gl n N).2⟩⟩
 ·rcases H.nm n i h with⟨rfl,rfl⟩|⟨h1,h2,h3⟩
  ·rw[dh]
   exact⟨H.Qr.1,H.Qr.2,d.imp (λp=>⟨gy (by decide) p.1,p.2⟩) λp=>⟨.inl (gy (by decide) p.1),p.2⟩⟩
  ·have z:=O.d n i h2
   rw[iM h3];exact⟨z.1,z.2.1,.inr ((free n h1).elim λc e=>⟨e.2.1,c,e.1,e.2.2 i h2⟩)⟩
 ·rcases H.QY n N with⟨h1,rfl⟩|⟨h1,h2⟩
  ·rcases d with⟨p1,p2⟩|⟨p1,c,p2,p3⟩
   ·exact nomatch h1.symm.trans p1
   ·refine⟨c,p2,.inl (gy (by decide) p1),λi I=> ?_⟩
    rcases H.nm _ i I with⟨_,rfl⟩|⟨y,_⟩
    ·rw[dh];exact p3
    ·exact nomatch h1.symm.trans y
  ·refine(free n h1).imp λc e=>⟨e.1,e.2.1,λi I=> ?_⟩
   rcases H.nm _ i I with⟨rfl,rfl⟩|⟨_,T,h3⟩
   ·exact absurd rfl (H.free _ (mem_of_lookup h1)).2
   ·rw[iM h3];exact e.2.2 i T
theorem xj(d:sc.kind=.function)(J:yN sc t C k cl P)(a:P.At s.heap x)(H:s.heap.Ns C m)
 (h:∀h' tk m',P.At h' (some v)→Heap.SameBut P.I s.heap h'→h'.Ns C m'→Q () {s with heap:=h',toks:=tk}):wpAny M A (assign (.Name t p) (rS sc C k cl env) v) Q Y s:=by
 rcases J with⟨p1,rfl⟩|⟨p1,c,p2,rfl⟩
 ·refine wpAny_assign_Name (wpAny_storeName_local (gy (by decide) p1) H (λh' n S=>h h' _ _ ⟨_,n,by simp⟩ S n) ?_)
  show((relabel sc env).kind==.class||((relabel sc env).kind==.module&&_))=false;unfold relabel;dsimp only;rw[d];rfl
 ·refine wpAny_assign_Name (wpAny_storeName_cell (by show(relabel sc env).kind=_;exact d) (gy (by decide) p1) p2 a λh' O S=>h h' s.toks m O S (H.sameBut S ?_))
  rintro rfl;obtain⟨o,U,hd⟩:=id a;obtain⟨X,es,f,R,E,_⟩:=H;rw[U]at R;cases R;rw[hd]at E;cases E
theorem aH.J9(C:aH w fs pl ρ h W)(j):aH w fs pl (ρ.set j .y) h W:=
 C.mM .refl (λj _ _ a o e l=>⟨e,by rw[←l]⟩) λq=>absurd rfl q
theorem gJ{S:Mine.Internal.S}(h:bH ρ j S k):k (ρ.set j S)∧j<ρ.length:=by
 delta bH at h;generalize e:ρ[j]? =o at h;cases o with
 |none=>exact h.elim
 |some T=>
  have l:=(List.getElem?_eq_some_iff.mp e).1;cases T<;>first|exact h.elim|exact⟨h,l⟩
noncomputable def vd(w:World)(os:OsState)(F:Nat→Spec)(fn:hM)(d:E):Prop:=∀(c:Fr fn)(z:Zt w os c.fs c.pl)y k X Q R,
 MR fn.g d c.cf y=true→br d≤c.u→Gb F d z.ρ k X→GC z k Q→KX z X R→
 wpAny (model PP w) c.A (forIn (match oX d with|true=>[]|false=>[aO fn.g d y]) true λx r=>if r=true then do let ok←isTrue x c.env (eval x c.env);pure (ForInStep.yield ok)else pure (ForInStep.yield r)) Q R z.s
theorem I2:vd w os F fn .no:=λc z y k X Q E o H h K _=>wpAny_tests_nil (K true z h .refl)
theorem Hs(H:gQ w os F fn a):vd w os F fn (.D a):=λc z y k X Q E o u h K KX=>wpAny_tests_one (H c z y k X Q E o u h K KX)
theorem KE.J1(K:KE h W h' W')(e:h.get? a=some o)(l:900≤(W a).1):h'.get? a=some o∧W' a=W a:=K.ex a o e (.inr (.inr (.inr l)))
end
section
variable{w:World}{os:OsState}{F:Nat→Spec}{fn:hM}
noncomputable def FU{f L}(z:Zt w os f L)(A:Around)(k:Rv→R→Prop)(Q Y:Value→Shared→Prop)(use:Option (Value→Sem Unit)):Prop:=
 ∀c Z D C tt,1600≤tt→(∀a o,z.s.heap.get? a=some o→(z.W a).1<tt)→k (.U c) Z.ρ→Le z Z→a5 w Z.s.heap Z.W 2 (.U c) (.ref D)→(∃m,Z.s.heap.Ns C m)→tt≤(Z.W C).1→
  (∀i,i<Z.ρ.length→(Z.W (L i).I).1<tt)→compPost (model PP w) A Y use Q (.ref D) C (.ok .next) Z.s
noncomputable def Mf{f L}(z:Zt w os f L)(j:Nat)(P:fQ)(items:List V)(p:List Addr)(J:Nat→Value→Prop)(Q:Nat→Heap→Prop)(I D tt:Nat)(step:V→(List V→R→Prop)→List V→R→Prop)(a9:List V→R→Prop)(k:Nat)(t:Shared):Prop:=
 ∀C,(∀i A ρ' W' xs n m,i≤items.length→k=items.length+1-i→St w os f (qG j P L) (ρ'.set j .y) t W'→j<ρ'.length→KE z.s.heap z.W t.heap W'→Q i t.heap→W' I=(tt,0)→
  t.heap.get? D=some (dk xs n)→W' D=(tt+1,0)→cW w t.heap W' A xs→xs.length≤i→t.heap.Ns (D+1) m→W' (D+1)=(tt+2,0)→W' P.I=(tt+2,0)→
  (∀b∈p,b=I∨(∃o,t.heap.get? b=some o)∧(W' b).1=0)→(∀i x v,items[i]? =some x→J i v→VR w t.heap W' x v)→((items.drop i).foldr step a9) A ρ'→C)→C
theorem we(Y:aB y=true):foldedSetIterable y env x=pure x:=by cases y<;>first|rfl|cases Y
theorem Pl(H:1600≤tt):900≤tt+n:=Nat.le_trans (Nat.le_trans (by decide) H) (le_add_right ..)
theorem pK{W':cw}(e:W' a=(tt+n,0)):tt≤(W' a).1:=e▸Nat.le_add_right _ _
theorem rI{W':cw}(e:W' a=n)(j:W' b=m)(h:n≠m):a≠b:=λz=>h (e.symm.trans (z▸j))
theorem Ek{Y U:Type}{items:List Y}{step:Y→(List U→R→Prop)→List U→R→Prop}{j c}{ρ:R}{a9}(h:items.foldr step a9 c ρ)(H:∀v r a,step v r a ρ→j<ρ.length)(f:∀a,a9 a ρ→j<ρ.length):j<ρ.length:=by
 cases items with
 |nil=>exact f _ h
 |cons v V=>exact H v _ _ h
theorem z9{g:Heap}{W:cw}{sc:Scope}{t:Str}{tt D:Nat}{cl:List (Str×Addr)}{h4:Heap}(O:g.objs.size=D)(H:pushCells ((g.push {cls:=.type "list",data:=.seq ([]:List Value).toArray}).push {cls:=.type "dict",data:=.dict #[]}) sc.names=h4)
 (J:sc.names.lookup t=some .local∨sc.names.lookup t=some .cell)(f:910<D){C:Prop}
 (next:∀(L:cw)P,(∀b o,g.get? b=some o→h4.get? b=some o)→(∀a o,g.get? a=some o→L a=W a)→h4.get? D=some (dk [] 0)→L D=(tt+1,0)→h4.Ns (D+1) (λ_=>none)→L (D+1)=(tt+2,0)→yN sc t (D+1) (D+2) cl P→P.At h4 none→L P.I=(tt+2,0)→P≠.cell 910→C):C:=by
 have E:(g.push {cls:=.type "list",data:=.seq ([]:List Value).toArray}).objs.size=D+1:=by rw[Heap.size_push,O]
 have T:∀b o,g.get? b=some o→h4.get? b=some o:=λb o e=>H▸pushCells_keeps _ _ b o (Heap.get?_push_of_some _ (Heap.get?_push_of_some _ e))
 let L:cw:=λa=>match decide (a=D)with
  |true=>(tt+1,0)
  |false=>match decide (D+1≤a)with
   |true=>(tt+2,0)
   |false=>W a
 have Q:L D=(tt+1,0):=by simp[L]
 have i:∀a,D+1≤a→L a=(tt+2,0):=λa h=>by
  have h1:a≠D:=λz=>by rw[z]at h;exact absurd h (Nat.not_succ_le_self _)
  simp[L,h1,h]
 have R:∀a o,g.get? a=some o→L a=W a:=λa o e=>by
  have K:=Heap.lt_size e;rw[O]at K;have h1:a≠D:=Nat.ne_of_lt K;have h2:¬D+1≤a:=Nat.not_le.mpr (Nat.lt_succ_of_lt K);simp[L,h1,h2]
 have d:h4.get? D=some (dk [] 0):=H▸pushCells_keeps _ _ _ _ (Heap.get?_push_of_some _ (O▸Heap.get?_push_size _ rfl));have N:h4.Ns (D+1) λ_=>none:=by
  have:=(Heap.Ns.new (g.push {cls:=.type "list",data:=.seq ([]:List Value).toArray}) (.type "dict")).keeps (pushCells_keeps sc.names _);rw[E,H]at this;exact this
 obtain⟨P,Z,A,j,n⟩:∃P,yN sc t (D+1) (D+2) cl P∧P.At h4 none∧L P.I=(tt+2,0)∧P≠.cell 910:=by
  rcases J with h1|h1
  ·exact⟨.ns (D+1) _,.inl ⟨h1,rfl⟩,⟨_,N,rfl⟩,i _ (Nat.le_refl _),λz=>nomatch z⟩
  ·obtain⟨X,S⟩:=jF (k:=D+2) (mem_of_lookup h1)
   obtain⟨c,I⟩:=Option.isSome_iff_exists.mp (oq S);have ok:=cellsFrom_ok sc.names ((g.push {cls:=.type "list",data:=.seq ([]:List Value).toArray}).push {cls:=.type "dict",data:=.dict #[]}) (D+2) [] ⟨λ_ _ m=>(nomatch m),List.Pairwise.nil⟩ (by rw[Heap.size_push,E];exact Nat.le_refl _);rw[Heap.size_push,E,H]at ok;have z:=ok.empty _ c (mem_of_lookup I);exact⟨.cell c,.inr ⟨h1,c,by rw[dI,o8,I];rfl,rfl⟩,z.1,i _ (Nat.le_of_succ_le z.2),
    λq=>absurd (Nat.lt_of_lt_of_le f (Nat.le_of_succ_le (Nat.le_of_succ_le ((fQ.cell.inj q)▸z.2)))) (Nat.lt_irrefl _)⟩
 exact next L P T R d Q N (i (D+1) (Nat.le_refl _)) Z A j n
theorem uz(H:sU w os F fn I)(O:vd w os F fn d)(J:au w os F fn e){c:Fr fn}{z:Zt w os c.fs c.pl}
 (o:bT fn.g (.comp j I d e) c.cf x=true)(u:br (.comp j I d e)≤c.u)(h:ev F (.comp j I d e) z.ρ k X)(K:FU z c.A k Q Y use)(KX:KX z X Y):
 wpAny (model PP w) c.A (comprehension (aO fn.g (.comp j I d e) x) (qD x) c.env p (newList []) false (eval (aO fn.g I (kd x 2)) c.env) use) Q Y z.s:=by
 have u:=Nat.le_trans (Nat.le_add_right _ 2) u;have L:=AV (aL (aR o));have hn:=bO (aL o);have py:=aL (aR (aR o));have oi:=aL (aR (aR (aR o)));have oc:=aL (aR (aR (aR (aR o))));have oe:=aR (aR (aR (aR (aR o))));clear o;obtain⟨tt,ht,hf⟩:=lO z.s.heap z.W;have Si:=jy (sc:=qD x) (env:=c.env) λn hn=>(c.O.Ij n (L.free n hn).1).elim λ_ e=>by rw[e.1];rfl
 have Sj:∀n c',(n,NameKind.free)∈(qD x).names→c.env.cells.lookup n=some c'→(lW c.env.cells (qD x).names []).lookup n=some c':=λn c' hn e=>mT e _ _ (.inl hn) λ_ e=>nomatch e;generalize lW c.env.cells (qD x).names []=cl at Si Sj;refine wpAny_comprehension_free (use:=use) (cl:=cl) (g:=⟨vX (kd x 1),aO fn.g I (kd x 2),match oX d with|true=>[]|false=>[aO fn.g d (kd x 3)],0⟩) (gs:=[]) rfl (λ_=>we py) Si L.kind (λx hx e=>bL L.Cb (e▸hx)) ?_;refine H c z (kd x 2) _ X _ Y tt oi (mL u) h (λitems B G hh SV wI eI SW=> ?_) KX;cases SW with
 | @mk fp Pp Qs Wk SX q0 SY hv=>
 have RS:=hh.2;have Sk:=hh.1;have hj:=Ek RS (λ_ _ _ h=>(gJ h).2) λ_ h=>(gJ h).2;have M:∀n,900≤tt+n:=λn=>Pl ht;refine wpAny_newList ?_ (by simp[sizeLine]);refine wR ?_;dsimp only;generalize hD:B.s.heap.objs.size=D;have eC:(B.s.heap.push {cls:=.type "list",data:=.seq ([]:List Value).toArray}).objs.size=D+1:=by rw[Heap.size_push,hD]
 rw[eC];generalize Sl:pushCells ((B.s.heap.push {cls:=.type "list",data:=.seq ([]:List Value).toArray}).push {cls:=.type "dict",data:=.dict #[]}) (qD x).names=h4;have S0:910<D:=hD▸B.S.H.b.jd.2.elim λvs e=>Heap.lt_size e;refine z9 (W:=B.W) (tt:=tt) (cl:=cl) hD Sl L.has S0 λW4 P k4 RT dD wD nC S2 hP aP wP nP=> ?_;obtain⟨Ts,Tt,Z,m0,S3,S5,S6,hl⟩:=B.S.head;have g4:Gr Z B.s.heap h4:=.fZ k4;have S4:=g4.st (t:=B.s.toks) hl RT B.S;have Sn:KE B.s.heap B.W h4 W4:=g4.ke hl RT;have K4:=SV.trans Sn;clear hD Sl eC S3 S5 S6 hl g4 hh
 let c':Fr fn:=⟨rW c.cf j (qD x),rS (qD x) (D+1) (D+2) cl c.env,c.fs,qG j P c.pl,c.A,c.u,zV (C:=D+1) (k:=D+2) c.O L Sj hP,c.hA,c.tp⟩
 have R4:∀ρ'(s:Shared)W',aH w c.fs (qG j P c.pl) ρ' s.heap W'→KE z.s.heap z.W s.heap W'→∀i,i≠j→i<ρ'.length→(W' (c.pl i).I).1<tt:=λρ'(s:Shared)W' C' A i ne H=>by
  have:qG j P c.pl i≠.cell 910:=(C'.a9 i).mp H;rw[iM ne]at this;have So:=(z.S.H.a9 i).mpr this;obtain⟨x,a⟩:=z.S.H.cz So;obtain⟨o,e⟩:=a.lt;rw[A.ny (z.S.H.bG i So) a];exact hf _ o e
 have Fg:∀W':cw,W' P.I=(tt+2,0)→qA (qG j P c.pl j) (W' (qG j P c.pl j).I).1:=λW' e=>by
  rw[dh,e];exact .inl (.inr (.inr (.inl (M 2))))
 have start:St w os c.fs (qG j P c.pl) (B.ρ.set j .y) {B.s with heap:=h4} W4:=⟨S4.gens,S4.os,
  S4.H.jX (t:=tt) (M 0) (λb o _ e=>⟨e,rfl⟩) (λi ne=>iM ne) hj (by rw[dh];exact nP) (λi _ _ o e=>⟨e,rfl⟩) ⟨none,by rw[dh];exact aP,.inl rfl⟩ (Fg _ wP)⟩
 generalize Sp:(λ(v:V)(Sq:List V→R→Prop)(RE:List V)(ρ:R)=>bH ρ j (.j v) λρ=>Gb F d ρ (λc ρ=>match c with
  |true=>ev F e ρ (λr ρ=>Sq (RE++[r.v]) ρ) (λ_=>False)
  |false=>Sq RE ρ) (λ_=>False))=step at RS
 generalize S7:(λ(RE:List V)(ρ:R)=>bH ρ j .y λρ=>k (.U RE) ρ)=a9 at RS;have Sr:∀ρ'(s:Shared)W'(h':Heap)a,aH w c.fs (qG j P c.pl) ρ' s.heap W'→KE z.s.heap z.W s.heap W'→tt≤(W' a).1→a≠P.I→(∀b o,b≠a→s.heap.get? b=some o→h'.get? b=some o)→
  ∀i,i<ρ'.length→∀o,s.heap.get? (qG j P c.pl i).I=some o→h'.get? (qG j P c.pl i).I=some o∧W' (qG j P c.pl i).I=W' (qG j P c.pl i).I:=λρ'(s:Shared)W' h' a C' A wa na kk i H o eo=>by
  refine⟨kk _ o (λz=> ?_) eo,rfl⟩
  by_cases q:i=j
  ·subst q;rw[dh]at z;exact na z.symm
  ·rw[iM q]at z
   have:=R4 ρ' s W' C' A i q H;rw[z]at this;exact Nat.not_lt.mpr wa this
 have R5:∀{W':cw}{h h':Heap}{a:Addr},tt≤(W' a).1→(∀b o,b≠a→h.get? b=some o→h'.get? b=some o)→KS tt h W' h' W':=λwa kk b o l e=>⟨kk b o (λz=>Nat.not_lt.mpr wa (z▸l)) e,rfl⟩;have Ss:codeAny (model PP w) c.A (.compLoop (aO fn.g (.comp j I d e) x) 0 (.ref G) (.ref D) (rS (qD x) (D+1) (D+2) cl c.env)) (compPost (model PP w) c.A Y use Q (.ref D) (D+1)) {B.s with heap:=h4}:=by
  refine codeAny_compLoop_tests (Mf z j P items fp Pp Qs G D tt step a9) (λkk s S8=>S8 _ λi RE ρ' W' xs n m S9 ek S' RU A q' RJ eD RF rv hx Su RV RK R6 Sv RX=> ?_) (items.length+1)
   (λ_ f=>f 0 [] B.ρ W4 [] 0 _ (Nat.zero_le _) rfl start hj K4 (Wk.frame _ _ _ q0 (λb hb o e=>k4 b o e)) (eI.elim λoI eI=>(RT _ _ eI).trans wI) dD wD .nil (Nat.zero_le _) nC S2 wP
    (λb hb=>(SY b hb).imp id λq=>⟨q.1.imp λo=>k4 b o,q.1.elim λo e=>by rw[RT b o e];exact q.2⟩) (λi x v ei pv=>(hv i x v ei pv).step Sn.kp) RS)
  subst ek;have Ta:(tt+1,0)≠((tt,0):Nat×Nat):=λq=>Nat.succ_ne_self _ (Prod.mk.inj q).1;have Sw:(tt+2,0)≠((tt,0):Nat×Nat):=λq=>absurd (Prod.mk.inj q).1 (zm 167115702 rfl _);have Tb:(tt+2,0)≠((tt+1,0):Nat×Nat):=λq=>absurd (Prod.mk.inj q).1 (zm 174839045046 rfl _);have Sx:D+1≠G:=rI RV RJ Sw;have RY:D≠G:=rI RF RJ Ta;have Sy:P.I≠G:=rI RK RJ Sw;have R7:P.I≠D:=rI RK RF Tb;have R8:D+1≠D:=Nat.succ_ne_self _;have RG:tt≤(W' G).1:=pK (n:=0) RJ;have Sz:tt≤(W' D).1:=pK RF;have RL:tt≤(W' P.I).1:=pK RK;have nz:∀{b a:Addr},tt≤(W' a).1→(W' b).1=0→b≠a:=λg l q=>by subst q;rw[l]at g;exact absurd (Nat.le_trans ht g) (by decide)
  by_cases lt:i<items.length
  ·rw[List.drop_eq_getElem_cons lt,List.foldr_cons,←Sp]at RX
   have hk:=(gJ RX).1;rw[Sp]at hk;refine Wk.item i s _ _ lt q' λv U tk pv Tc R9=> ?_;have RC:∀b o,b≠G→s.heap.get? b=some o→U.get? b=some o:=λb o ne e=>R9 b o (λq=>ne (List.mem_singleton.mp q)) e;have Sa:KS tt s.heap W' U W':=R5 RG RC;have S1:St w os c.fs (qG j P c.pl) (ρ'.set j .y) {s with heap:=U,toks:=tk} W':=⟨S'.gens,S'.os,S'.H.qX (t:=tt) (M 0) (Sr _ s W' U G S'.H A RG (Ne.symm Sy) RC) Sa⟩;have K1:KE z.s.heap z.W U W':=A.gE hf Sa;obtain⟨xP,SA⟩:=S1.H.cz (i:=j) (by rw[List.length_set];exact RU);rw[dh]at SA;refine xj L.kind hP SA (cj Su λo e=>RC _ o Sx e) λN SD SE SG Td SH=> ?_;have RM:∀b o,b≠P.I→U.get? b=some o→N.get? b=some o:=λb o ne e=>(Td.2 b ne).trans e;have Sb:KS tt U W' N W':=R5 RL RM;have RZ:Kp s.heap W' N W':=(Sa.kp (M 0)).trans (Sb.kp (M 0));have K2:KE z.s.heap z.W N W':=K1.gE hf Sb;have SI:St w os c.fs (qG j P c.pl) (ρ'.set j (.j items[i])) {s with heap:=N,toks:=SD} W':=by
    have C2:=S1.H.jX (t:=tt) (j:=j) (pl':=qG j P c.pl) (S:=.j items[i]) (h':=N) (W':=W') (M 0) Sb (λ_ _=>rfl) (by rw[List.length_set];exact RU) (by rw[dh];exact nP)
     (λi ne H o e=>⟨RM _ o (λz=>by rw[iM ne]at z;have:=R4 _ _ W' S1.H K1 i ne H;rw[z]at this;exact Nat.not_lt.mpr RL this) e,rfl⟩)
     ⟨some v,by rw[dh];exact SG,.inr ⟨v,rfl,(Sv i _ v (List.getElem?_eq_getElem lt) pv).step RZ⟩⟩ (Fg _ RK)
    rw[List.set_set]at C2;exact⟨S1.gens,S1.os,C2⟩
   have q2:Qs (i+1) N:=Wk.frame _ _ _ Tc λb hb o e=>RM b o ((R6 b hb).elim (λq=>q▸Ne.symm Sy) λq=>nz RL q.2) e;have SJ:N.get? D=some (dk xs n):=RM _ _ (Ne.symm R7) (RC _ _ RY eD);have again:∀R0 RN(RD:Shared)E RO Sd,St w os c.fs (qG j P c.pl) RN RD E→KE z.s.heap z.W RD.heap E→(∀a o,a≠D→N.get? a=some o→(900≤(W' a).1∨(W' a).1=0)→RD.heap.get? a=some o∧E a=W' a)→
    RD.heap.get? D=some (dk RO Sd)→E D=(tt+1,0)→cW w RD.heap E R0 RO→RO.length≤i+1→Kp N W' RD.heap E→((items.drop (i+1)).foldr step a9) R0 RN→
    ∃m',m'<items.length+1-i∧Mf z j P items fp Pp Qs G D tt step a9 m' RD:=λR0 RN RD E RO Sd R1 Se RH e4 w4 r4 l4 Te f4=>⟨items.length+1-(i+1),zl 0x5496d6178b00abff02 rfl lt,λ_ f=>by
    obtain⟨Tf,Tg⟩:=SX _ _ q2;have pI:=RH G Tf (Ne.symm RY) Tg (.inl (Nat.le_trans (M 0) RG));have R2:∀b∈fp,b≠D∧(900≤(W' b).1∨(W' b).1=0):=λb hb=>(R6 b hb).elim (λq=>⟨q▸Ne.symm RY,.inl (q▸Nat.le_trans (M 0) RG)⟩) λq=>⟨nz Sz q.2,.inr q.2⟩;have pP:E P.I=W' P.I:=SG.lt.elim λoP eP=>(RH P.I oP R7 eP (.inl (Nat.le_trans (M 0) RL))).2;have Th:j<RN.length:=by rw[SI.H.qk R1.H,List.length_set];exact RU
    have SK:900≤(W' (D+1)).1:=by rw[RV];exact M 2
    have pC:RD.heap.Ns (D+1) SE∧E (D+1)=W' (D+1):=⟨cj SH λo e=>(RH (D+1) o R8 e (.inl SK)).1,SH.elim λo q=>q.elim λ_ q=>q.elim λ_ q=>(RH (D+1) o R8 q.1 (.inl SK)).2⟩;exact f (i+1) R0 RN E RO Sd SE lt rfl ⟨R1.gens,R1.os,R1.H.J9 j⟩ Th Se (Wk.frame _ _ _ q2 λb hb o e=>(RH b o (R2 b hb).1 e (R2 b hb).2).1) (pI.2.trans RJ) e4 w4 r4 l4 pC.1 (pC.2.trans RV) (pP.trans RK)
     (λb hb=>(R6 b hb).imp id λq=>q.1.elim λo eo=>have y:=RH b o (R2 b hb).1 (RM b o (nz RL q.2) (RC b o (nz RG q.2) eo)) (R2 b hb).2;⟨⟨o,y.1⟩,by rw[y.2];exact q.2⟩)
     (λi x v ei pv=>(Sv i x v ei pv).step (RZ.trans Te)) f4⟩
   have SM:900≤(W' D).1:=by rw[RF];exact M 1
   refine O c' ⟨ρ'.set j (.j items[i]),{s with heap:=N,toks:=SD},W',SI⟩ (kd x 3) _ (λ_=>False) _ _ oc (mL (mR u)) hk (λcc RP SN RI=> ?_) (λ_ _ _ q _=>q.elim);cases cc with
   |false=>
    have D3:=KE.J1 RI SJ SM;exact again RE RP.ρ RP.s RP.W xs n RP.S (K2.trans RI) (λa o _ e l=>RI.ex a o e (l.elim (λq=>.inr (.inr (.inr q))) .inl)) D3.1 (D3.2.trans RF) ((rv.step RZ).step RI.kp) (Nat.le_succ_of_le hx) RI.kp SN
   |true=>
    refine fW (c:=c') (z:=RP) (X:=λ_=>False) J oe (mR (mR u)) SN (λ_ _ _ q _=>q.elim) λr T Ti Tj Se Tn=> ?_;have RQ:KE N W' T.s.heap T.W:=RI.trans Se;have D4:=KE.J1 RQ SJ SM;have SO:T.W D=(tt+1,0):=D4.2.trans RF;have SQ:tt≤(T.W D).1:=pK SO;refine qL D4.1 (Nat.lt_of_le_of_lt hx (Nat.lt_of_lt_of_le lt Sk)) λR3 To Tp Tq=> ?_;have Sf:∀b o,b≠D→T.s.heap.get? b=some o→R3.get? b=some o:=λb o ne e=>(Tq.2 b ne).trans e;have Sg:KS tt T.s.heap T.W R3 T.W:=R5 SQ Sf;have SR:KE z.s.heap z.W T.s.heap T.W:=K2.trans RQ;have k5:=Sg.kp (M 0);exact again (RE++[r.v]) T.ρ {T.s with heap:=R3} T.W (xs++[Ti]) To ⟨T.S.gens,T.S.os,T.S.H.qX (t:=tt) (M 0) (Sr _ T.s T.W R3 D T.S.H SR SQ (Ne.symm R7) Sf) Sg⟩ (SR.gE hf Sg)
     (λa o ne e l=>have y:=RQ.ex a o e (l.elim (λq=>.inr (.inr (.inr q))) .inl);⟨Sf a o ne y.1,y.2⟩) Tp SO (cM.append ((((rv.step RZ).step RQ.kp)).step k5) (.cons (VR.step k5 Tn) .nil)) (by rw[List.length_append];exact Nat.succ_le_succ hx) (Kp.trans RQ.kp k5) Tj
  ·have Tr:i=items.length:=Nat.le_antisymm S9 (Nat.not_lt.mp lt)
   subst Tr;rw[List.drop_length,List.foldr_nil,←S7]at RX;have hk:=(gJ RX).1;refine Wk.done s _ _ q' λU tk R9=> ?_;have RC:∀b o,b≠G→s.heap.get? b=some o→U.get? b=some o:=λb o ne e=>R9 b o (λq=>ne (List.mem_singleton.mp q)) e;have ks:KS tt s.heap W' U (dC W' D (2,0)):=λb o l e=>⟨RC b o (λz=>Nat.not_lt.mpr RG (z▸l)) e,bV λz=>Nat.not_lt.mpr Sz (z▸l)⟩;have l2:B.ρ.length=z.ρ.length:=z.S.H.qk B.S.H;have RR:j<z.ρ.length:=l2▸hj;obtain⟨x0,a0⟩:=z.S.H.cz RR;have lj:=A.ny (z.S.H.bG j RR) a0;have aj:=A.cz (z.S.H.bG j RR) a0;have SS:(W' (c.pl j).I).1<tt:=a0.lt.elim λoj ej=>by rw[lj];exact hf _ oj ej
   have Sh:=S'.H.jX (t:=tt) (j:=j) (pl':=c.pl) (S:=.y) (M 0) ks (λi ne=>(iM ne).symm) (by rw[List.length_set];exact RU) ((z.S.H.a9 j).mp RR)
    (λi ne H o e=>by
     have:=R4 _ s W' S'.H A i ne H;rw[iM ne]at e⊢;exact ks _ o this e) ⟨x0,eR aj λo e=>(ks _ o SS e).1,.inl rfl⟩ (aj.lt.elim λo' e'=>by
     rw[(ks _ o' SS e').2,lj];exact z.S.H.bG j RR)
   rw[List.set_set]at Sh;have SU:KE z.s.heap z.W U (dC W' D (2,0)):=A.gE hf ks;exact K RE ⟨ρ'.set j .y,{s with heap:=U,toks:=tk},dC W' D (2,0),S'.gens,S'.os,Sh⟩ D (D+1) tt ht hf hk SU
    (OL.mk (RC D _ RY eD) aJ (Nat.le_trans hx Sk) (rv.step (ks.kp (M 0)))) ⟨m,cj Su λo e=>RC _ o Sx e⟩ (by show tt≤(dC W' D (2,0) (D+1)).1;rw[bV R8];exact pK RV) (ya z.S.H Sh SU hf)
 exact codeAny_compStart_list Ss (Wk.self 0 _ _ _ (Wk.frame _ _ _ q0 (λb hb o e=>k4 b o e)) Ss)
theorem I0(H:sU w os F fn I)(O:vd w os F fn d)(y:au w os F fn e):au w os F fn (.comp j I d e):=λc z x k X Q r o u h K KX=>by
 show wpAny _ _ (eval (.ListComp _ _ _ _) _) _ _ _;rw[eval_ListComp];refine uz H O y o u h (λA Z D C tt t f R Y E N W L=>N.elim λm N=>⟨m,N,λh' S=> ?_⟩) KX;have p:∀b o,b≠C→Z.s.heap.get? b=some o→h'.get? b=some o:=λb o ne e=>(S.2 b ne).trans e;have s:KS tt Z.s.heap Z.W h' Z.W:=λb o l e=>⟨p b o (λq=>Nat.not_lt.mpr W (q▸l)) e,rfl⟩;cases E with
 |mk B P g M=>
  exact K (.U A) ⟨Z.ρ,{Z.s with heap:=h'},Z.W,Z.S.gens,Z.S.os,Z.S.H.qX (Pl (n:=0) t) (λi H o=>s _ o (L i H)) s⟩ _ R (Y.gE f s)
   (OL.mk (p D _ (λq=>by rw[←q,P]at W;exact absurd W (by show¬tt≤2;exact zl 0x9a61925a2b34a rfl t)) B) P g (M.step (s.kp (Pl (n:=0) t))))
end
section
variable{w:World}{os:OsState}{F:Nat→Spec}{fn:hM}
noncomputable def PN{f L}(z:Zt w os f L)(A:Around)(k:Rv→R→Prop)(Q:Unit→Shared→Prop)(Y:Value→Shared→Prop)(use:Value→Sem Unit):Prop:=
 ∀r Z D C tt,1600≤tt→(∀a o,z.s.heap.get? a=some o→(z.W a).1<tt)→k r Z.ρ→Le z Z→a5 w Z.s.heap Z.W 2 r.s (.ref D)→(∃m,Z.s.heap.Ns C m)→tt≤(Z.W C).1→
  (∀i,i<Z.ρ.length→(Z.W (L i).I).1<tt)→wpAny (model PP w) A (use (.ref D)) (λ_ S=>∃m,S.heap.Ns C m∧∀h',SameBut C S.heap h'→Q () {S with heap:=h'}) Y Z.s
noncomputable def vW(w:World)(os:OsState)(F:Nat→Spec)(fn:hM)(e:E):Prop:=∀(c:Fr fn)(z:Zt w os c.fs c.pl)x k X Q r use,
 bT fn.g e c.cf x=true→br e≤c.u→ev F e z.ρ k X→PN z c.A k Q r use→KX z X r→wpAny (model PP w) c.A (evalThenUse (aO fn.g e x) c.env use) Q r z.s
theorem Ax(H:sU w os F fn I)(C:vd w os F fn d)(O:au w os F fn e):vW w os F fn (.comp j I d e):=λc z x k X Q E use o u h K KX=>by
 show wpAny _ _ (evalThenUse (.ListComp _ _ _ _) _ _) _ _ _;rw[arm_evalThenUse_ListComp];dsimp only;refine wpAny_bind (wpAny_mono ?_ (λ_ _=>wpAny_pure) λ_ _ h=>h);exact uz H C O o u h (λA=>K (.U A)) KX
theorem JX(h:p.1<tt)(H:u<tt):(lb a u p).1<tt:=by
 by_cases q:p.1=a
 ·rw[A8 q];exact H
 ·rw[pq q];exact h
theorem D7(H:vW w os F fn e):vW w os F fn (.Y e):=λc z x k X Q E use o u h K KX=>
 H c z x (λr=>k (.j r.v)) X Q E use o u h (λr Z D C tt t f d Y O JL W P=>K (.j r.v) Z.Y D C tt t f d (Y.trans KE.bo) (a5.cC KE.bo.kp Fz.v8 O) JL
  (by show tt≤(lb 2 0 (Z.W C)).1;rw[pq (λq=>by rw[q]at W;exact absurd (Nat.le_trans t W) (by decide))];exact W) λi I=>JX (P i I) (Nat.lt_of_lt_of_le (by decide) t)) KX
noncomputable def M9:E→Option E
|.j6 a=>some a
|.D a=>some a
|.dj _ _ a=>some a
|_=>none
structure jk(w:World)(os:OsState)(F:Nat→Spec)(fn:hM)(e:E):Prop where
 ee:au w os F fn e
 s:pU w os F fn e
 a:zA w os F fn e
 an:j5 w os F fn e
 or:pY w os F fn e
 t:gQ w os F fn e
 ta:pS w os F fn e
 to:oW w os F fn e
 i:sU w os F fn e
 c:vd w os F fn e
 b:tK e=true→sD w os F fn e
 u:Al e=true→vW w os F fn e
 sb:∀a,M9 e=some a→au w os F fn a
theorem jk.m(h:jk w os F fn e):∀e',e=.j6 e'→au w os F fn e':=λa q=>h.sb a (q▸rfl)
theorem jk.v(h:jk w os F fn e):∀e',e=.D e'→au w os F fn e':=λa q=>h.sb a (q▸rfl)
theorem jk.kp(h:jk w os F fn e):∀f vs b,e=.dj f vs b→au w os F fn b:=λ_ _ b q=>h.sb b (q▸rfl)
theorem x9{C:Prop}(e:a=false)(h:a=true):C:=ff (e.symm.trans h)
theorem vS(h:∀g C x,qo g e C x=false):pU w os F fn e:=λ_ _ _ _ _ _ _ _ o=>x9 (h ..) o
theorem vA(h:∀g C x,qo g e C x=false):zA w os F fn e:=λ_ _ _ _ _ _ _ _ o=>x9 (h ..) o
theorem vN(h:∀g C x,D0 g e C x=false):j5 w os F fn e:=λ_ _ _ _ _ _ _ _ o=>x9 (h ..) o
theorem vO(h:∀g C x,D0 g e C x=false):pY w os F fn e:=λ_ _ _ _ _ _ _ _ o=>x9 (h ..) o
theorem vT(h:∀g C x,Am g e C x=false):gQ w os F fn e:=λ_ _ _ _ _ _ _ o=>x9 (h ..) o
theorem QQ(h:∀g C x,rC g e C x=false):pS w os F fn e:=λ_ _ _ _ _ _ _ _ _ o=>x9 (h ..) o
theorem Ru(h:∀g C x,rC g e C x=false):oW w os F fn e:=λ_ _ _ _ _ _ _ _ _ o=>x9 (h ..) o
theorem vI(h:∀F ρ k X,qY F e ρ k X=False):sU w os F fn e:=λ_ _ _ _ _ _ _ _ _ _ q=>((h ..).mp q).elim
theorem vC(h:∀g C x,MR g e C x=false):vd w os F fn e:=λ_ _ _ _ _ _ _ o=>x9 (h ..) o
theorem vE(h:∀g C x,bT g e C x=false):au w os F fn e:=λ_ _ _ _ _ _ _ o=>x9 (h ..) o
abbrev MQ:(Nat→Fn)→Cf→Expr→Bool:=λ_ _ _=>false
abbrev JL:(Nat→Fn)→Cf→List Expr→Bool:=λ_ _ _=>false
noncomputable def nL(e:E):=(λg=>qo g e,λg=>D0 g e,λg=>rC g e)
noncomputable def nI(e:E):=(λg=>qY g e,λg=>MR g e,M9 e)
noncomputable def nT(e:E):=(λg=>Am g e,Al e)
noncomputable def nM:=(JL,JL,JL)
noncomputable def nJ:((Nat→Spec)→R→(List V→R→Prop)→(Str→Prop)→Prop)×((Nat→Fn)→Cf→Expr→Bool)×Option E:=(λ_ _ _ _=>False,MQ,none)
theorem MX{C:Prop}{a:Y}(h:i=none)(q:i=some a):C:=by rw[h]at q;cases q
theorem jk.sp(ee:au w os F fn e)(t:gQ w os F fn e)(b:tK e=true→sD w os F fn e)(u:Al e=true→vW w os F fn e)(i:sU w os F fn e)(c:vd w os F fn e)(sb:∀a,M9 e=some a→au w os F fn a)(h:nL e=nM):jk w os F fn e:=
 have p (g) (C) (x):qo g e C x=false:=congrFun (congrFun (congrFun (congrArg (·.1) h) g) C) x;have q (g) (C) (x):D0 g e C x=false:=congrFun (congrFun (congrFun (congrArg (·.2.1) h) g) C) x;have r (g) (C) (x):rC g e C x=false:=congrFun (congrFun (congrFun (congrArg (·.2.2) h) g) C) x
 ⟨ee,vS p,vA p,vN q,vO q,t,QQ r,Ru r,i,c,b,u,sb⟩
theorem jk.te(ee:au w os F fn e)(t:gQ w os F fn e)(b:tK e=true→sD w os F fn e)(u:Al e=true→vW w os F fn e)(h:(nL e,nI e)=(nM,nJ)):jk w os F fn e:=
 have k:=congrArg (·.2) h
 .sp ee t b u (vI λF ρ k' X=>congrFun (congrFun (congrFun (congrFun (congrArg (·.1) k) F) ρ) k') X) (vC λg C x=>congrFun (congrFun (congrFun (congrArg (·.2.1) k) g) C) x) (λ_=>MX (congrArg (·.2.2) k)) (congrArg (·.1) h)
theorem jk.ex(ee:au w os F fn e)(b:tK e=true→sD w os F fn e)(h:((nL e,nI e),nT e)=((nM,nJ),MQ,false)):jk w os F fn e:=
 .te ee (vT λg C x=>congrFun (congrFun (congrFun (congrArg (·.2.1) h) g) C) x) b (x9 (congrArg (·.2.2) h)) (congrArg (·.1) h)
theorem jk.li(s:pU w os F fn e)(a:zA w os F fn e)(an:j5 w os F fn e)(or:pY w os F fn e)(ta:pS w os F fn e)(to:oW w os F fn e)(h:((λg=>bT g e,nI e),nT e,tK e)=((MQ,nJ),(MQ,false),false)):jk w os F fn e:=
 have k:=congrArg (·.1.2) h
 ⟨vE λg C x=>congrFun (congrFun (congrFun (congrArg (·.1.1) h) g) C) x,s,a,an,or,vT λg C x=>congrFun (congrFun (congrFun (congrArg (·.2.1.1) h) g) C) x,ta,to,vI λF ρ k' X=>congrFun (congrFun (congrFun (congrFun (congrArg (·.1) k) F) ρ) k') X,
  vC λg C x=>congrFun (congrFun (congrFun (congrArg (·.2.1) k) g) C) x,x9 (congrArg (·.2.2) h),x9 (congrArg (·.2.1.2) h),λ_=>MX (congrArg (·.2.2) k)⟩
theorem PF:au w os F fn .dN:=λ_ _ _ _ _ _ _ o=>ff o
theorem DN:au w os F fn .K:=λ_ _ _ _ _ _ _ _ _ h=>h.elim
theorem zR:sD w os F fn .K:=λ_ _ _ _ _ _ _ _ _ h=>h.elim
theorem Jl(H:au w os F fn a):au w os F fn (.j6 a):=λ_ _ _ _ _ _ _ _ _ h=>h.elim
theorem Mn:au w os F fn (.D a):=λ_ _ _ _ _ _ _ _ _ h=>h.elim
theorem Ii:au w os F fn (.eJ a):=λ_ _ _ _ _ _ _ _ _ h=>h.elim
theorem Kf(G:fB w os F fn)(e):jk w os F fn e:=by
 induction e with
 |X=>exact .ex Pt ff rfl
 |cB b=>exact .ex NB ff rfl
 |p i=>exact .ex Oo ff rfl
 |M s=>exact .ex N0 ff rfl
 |tQ i=>exact .ex HP ff rfl
 |d i=>exact .ex Gg (λ_=>yq Gg λ_ _ _=>rfl) rfl
 |JF i=>exact .ex LF ff rfl
 |qz i n=>exact .ex Hf ff rfl
 |w o a b I B=>exact .ex (Kk I.ee B.ee) ff rfl
 |neg a I=>exact .ex (Lv I.ee) ff rfl
 |fO a I=>exact .te (HD I.ee) (Ft I.t) ff ff rfl
 |Q a I=>exact .te (Jb I.an) (Eb I.ta) ff ff rfl
 |cL a I=>exact .te (KP I.or) (Im I.to) ff ff rfl
 |ite t a b T I B=>exact .te (L4 T.t I.ee B.ee) (Fp T.t I.t B.t) ff ff rfl
 |ag o a b I B=>exact .ex (Gx I.ee B.ee) (λ_=>AZ (Gx I.ee B.ee) λ_=>⟨_,_,_,_,rfl⟩) rfl
 |mZ o p a b c I B ic=>exact .ex (IY I.ee B.ee ic.ee) (λ_=>Bg I.ee B.ee ic.ee) rfl
 |DD g x p u=>exact .ex (G4 u.ee) (λ_=>AZ (G4 u.ee) λ_=>⟨_,_,_,_,rfl⟩) rfl
 |HE p=>exact .ex Gw (λ_=>AZ Gw λ_=>⟨_,_,_,_,rfl⟩) rfl
 |L a I=>exact .ex (KU I.s) ff rfl
 |Z a I=>exact .ex (Mo I.s) ff rfl
 |nil=>exact .li DX ED z6 BX A5 Aq rfl
 |cons a b I B=>exact .li (AB I.ee B.s) (C8 (λ_=>I.ee) I.m B.s) (vP I.ee B.an) (zu I.ee B.or) (zg I.t B.ta) (zG I.t B.to) rfl
 |j6 a I=>exact .sp (Jl I.ee) (vT λ_ _ _=>rfl) ff ff (vI λ_ _ _ _=>rfl) (vC λ_ _ _=>rfl) (λ_ q=>Option.some.inj q▸I.ee) rfl
 |sub a b I B=>exact .ex (Mx I.ee B.ee) ff rfl
 |dZ p b B=>exact .ex Jd ff rfl
 |sl a b c I B ic=>exact .ex (N8 I.ee B.v ic.v) ff rfl
 |no=>exact .sp (vE λ_ _ _=>rfl) (vT λ_ _ _=>rfl) ff ff (vI λ_ _ _ _=>rfl) I2 (λ_=>MX rfl) rfl
 |J a n I=>exact .ex (Hq I.ee) ff rfl
 |jZ p=>exact .ex ID ff rfl
 |call f a I=>exact .ex (Bl G I.a) (λ_=>yq (Bl G I.a) λ_ _ _=>rfl) rfl
 |P f i a I=>exact .ex (Ee G) ff rfl
 |gz f i a I=>exact .ex (yT G) (λ_=>yq (yT G) λ_ _ _=>rfl) rfl
 |new c f a I=>exact .ex (Lb G I.s) ff rfl
 |b1 g a I=>exact .ex (Pm I.ee) ff rfl
 |b2 g a b I B=>exact .ex (NA I.ee B.ee) ff rfl
 |tV a c I=>exact .ex (Gu I.ee) (λ_=>yq (Gu I.ee) λ_ _ _=>rfl) rfl
 |Jy i=>exact .ex LG ff rfl
 |join a b I B=>exact .ex (Ht I.ee B.ee) ff rfl
 |jD a b c I B ic=>exact .ex (Ed I.ee B.ee ic.ee) ff rfl
 |wB a b I B=>exact .ex (H0 I.ee B.ee) ff rfl
 |comp j T c e S ic E=>exact .te (I0 S.i ic.c E.ee) (vT λ_ _ _=>rfl) ff (λ_=>Ax S.i ic.c E.ee) rfl
 |eJ a I=>exact .sp Ii (vT λ_ _ _=>rfl) ff ff (DQ I.s) (vC λ_ _ _=>rfl) (λ_=>MX rfl) rfl
 |dj f V b B=>exact .sp (vE λ_ _ _=>rfl) (vT λ_ _ _=>rfl) ff ff (vI λ_ _ _ _=>rfl) (vC λ_ _ _=>rfl) (λ_ q=>Option.some.inj q▸B.ee) rfl
 |D a I=>exact .sp Mn (HY I.b) ff ff (IJ I.ee) (Hs I.t) (λ_ q=>Option.some.inj q▸I.ee) rfl
 |Y a I=>exact .te (LN I.ee) (vT λ_ _ _=>rfl) ff (λq=>D7 (I.u q)) rfl
 |dN=>exact .ex PF ff rfl
 |K=>exact .ex DN (λ_=>zR) rfl
end
noncomputable def OJ:List ExceptHandler→Expr×Pos×List Stmt
|.ExceptHandler (some x) _ b p::_=>(x,p,b)
|_=>(default,⟨0,0,0,0⟩,[])
set_option backward.match.sparseCases false in
noncomputable def sA:Stmt→List Expr×List Stmt×List Stmt×Bool
|.Expr y _=>([y],[],[],false)
|.Assign ts v _=>(v::ts,[],[],false)
|.AugAssign t _ v _=>([v,t],[],[],false)
|.If y a b _=>([y],a,b,false)
|.While y a _ _=>([y],a,[],false)
|.For t y a _ _=>([y,t],a,[],false)
|.Return (some y) _=>([y],[],[],false)
|.Return none _=>([],[],[],true)
|.Raise (some y) _ _=>([y],[],[],false)
|.Try b h _ _ _=>([(OJ h).1,.Name default (OJ h).2.1],b,(OJ h).2.2,false)
|_=>([],[],[],false)
noncomputable def sx(x:Stmt):=(sA x).1
noncomputable def sv(x:Stmt):Expr:=hd (sx x)
noncomputable def st(x:Stmt):Expr:=hd (sx x).tail
noncomputable def HQ(x:Stmt):=(sA x).2.1
noncomputable def PC(x:Stmt):=(sA x).2.2.1
noncomputable def Bo(x:Stmt):=(sA x).2.2.2
noncomputable def DM:List Stmt→Stmt
|[]=>.Continue ⟨0,0,0,0⟩
|x::_=>x
section
variable(g:Nat→Fn)
set_option backward.match.sparseCases false in
noncomputable def K3:E→Expr→Expr
|.dj _ _ b,v=>.Call (nX (ofString "_law_kept") (kd v 0)) [.Lambda ⟨[],[],none,[],[],none,[]⟩ (aO g b (kd (kd v 1) 0)) (qD (kd v 1)) (kd v 1).pos] [] v.pos
|e,v=>aO g e v
set_option backward.match.sparseCases false in
noncomputable def vx:List Nat→List Expr→List Expr
|[],_=>[]
|_::is,xs=>vX (hd xs)::vx is xs.tail
noncomputable def N3(n:String)(as:List Expr)(x:Stmt):Stmt:=.Expr (.Call (.Attribute (vX (kd (kd (sv x) 0) 0)) (ofString n) (kd (sv x) 0).pos) as [] (sv x).pos) x.pos
set_option backward.match.sparseCases false in
mutual
noncomputable def QD:T→Stmt→Stmt
|.ex e,x=>.Expr (aO g e (sv x)) x.pos
|.C _ e,x=>.Assign [vX (st x)] (K3 g e (sv x)) x.pos
|.jo is e,x=>.Assign [.Tuple (vx is (bP (st x))) (G2 (st x)) (st x).pos] (aO g e (sv x)) x.pos
|.F0 _ _ a b,x=>.Assign [.Tuple [vX (kd (st x) 0),vX (kd (st x) 1)] (G2 (st x)) (st x).pos] (.Tuple [aO g a (kd (sv x) 0),aO g b (kd (sv x) 1)] (G2 (sv x)) (sv x).pos) x.pos
|.vH _ o e,x=>.AugAssign (vX (st x)) (yX o) (aO g e (sv x)) x.pos
|.dx t I e,x=>.Assign [.Subscript (CS t (kd (st x) 0)) (aO g I (kd (st x) 1)) (st x).pos] (aO g e (sv x)) x.pos
|.lh _ n e,x=>.Assign [.Attribute (vX (kd (st x) 0)) (an n) (st x).pos] (aO g e (sv x)) x.pos
|.wN _ n,x=>.Assign [.Attribute (vX (kd (st x) 0)) (an n) (st x).pos] (.Dict [] [] (sv x).pos) x.pos
|.lK _ e,x=>N3 "append" [aO g e (kd (sv x) 1)] x
|.ins _ a b,x=>N3 "insert" [aO g a (kd (sv x) 1),aO g b (kd (sv x) 2)] x
|.Hp _,x=>N3 "reverse" [] x
|.iff c a b,x=>.If (aO g c (sv x)) (uH a (HQ x)) (uH b (PC x)) x.pos
|.tT c b,x=>.While (aO g c (sv x)) (uH b (HQ x)) [] x.pos
|.bU _ i b,x=>.For (vX (st x)) (aO g i (sv x)) (uH b (HQ x)) [] x.pos
|.ret e,x=>.Return (match Bo x with|true=>none|false=>some (aO g e (sv x))) x.pos
|.gv e,x=>.Raise (some (.Call (nX (Str.ofString "Refusal") (kd (sv x) 0)) [aO g e (kd (sv x) 1)] [] (sv x).pos)) none x.pos
|.cont,x=>.Continue x.pos
|_,x=>x
noncomputable def uH:T→List Stmt→List Stmt
|.nil,_=>[]
|.cons s r,xs=>QD s (DM xs)::uH r xs.tail
|_,xs=>xs
end
noncomputable def Br(C:Cf)(i:Nat)(x:Expr):Bool:=qp (fg x) C.nm i&& !(C.F2&&beq i 0)
noncomputable def IX(C:Cf):List Nat→List Expr→Bool
|[],_=>true
|i::is,xs=>Br C i (hd xs)&&IX C is xs.tail
noncomputable def LZ(cl:List Str)(x:Str×NameKind):Bool:= !kB .cell x.2&&(!kB .local x.2&&((!kB .free x.2||(bR x.1 cl&&Ai x.1))&&(!kB .globalImplicit x.2|| !ax x.1 DI)))
noncomputable def Pb(C:Cf)(v:List Nat)(l:List (Str×NameKind)):Bool:=
 (iX C.nm 0 l).all (λx=>bR x.1 C.cl&&fK x.2 v)&&v.all λi=>C.cl.any λn=>qp n C.nm i
noncomputable def Mg(C:Cf)(v:List Nat)(sc:Scope):Bool:=tO sc&&(!sc.isCoroutine&&(!sc.isGenerator&&(qZ (sc.names.map (·.1))&&(sc.names.all (LZ C.cl)&&Pb C v sc.names))))
noncomputable def A9(C:Cf)(sc:Scope):Cf:=⟨iX C.nm 0 sc.names,uW sc.names,[],C.lv-1,false,false⟩
noncomputable def MV:E→Cf→Expr→Bool
|.dj _ Q b,C,v=>bR (ofString "_law_kept") C.gs&&(Mg C Q (qD (kd v 1))&&(blt 0 C.lv&&(C.lm&&bT g b (A9 C (qD (kd v 1))) (kd (kd v 1) 0))))
|e,C,v=>(dY (aO g e v)||Al e)&&bT g e C v
noncomputable def Qi(H t:Expr)(y z:Expr):Bool:=(t.pos.line==H.pos.line)&&(!ax (fg H) (fg t)&&(!([y,z].all (foldedForSure 8))&& !([y,z].all (constantsAlone 8))))
noncomputable def PS(C:Cf)(i:Nat)(x:Stmt):Bool:=JC (kd (sv x) 0) (sv x)&&qp (fg (kd (kd (sv x) 0) 0)) C.nm i
set_option backward.match.sparseCases false in
noncomputable def Cq:Expr→Bool
|.Tuple .. =>false
|_=>true
set_option backward.match.sparseCases false in
mutual
noncomputable def Ow:T→Cf→Stmt→Bool
|.ex e,C,x=>dY (aO g e (sv x))&&bT g e C (sv x)
|.C i e,C,x=>Br C i (st x)&&MV g e C (sv x)
|.jo is e,C,x=>IX C is (bP (st x))&&(dY (aO g e (sv x))&&(Cq (aO g e (sv x))&&bT g e C (sv x)))
|.F0 i j a b,C,x=>(Br C i (kd (st x) 0)&&Br C j (kd (st x) 1))&&((!bR (fg (kd (st x) 0)) C.cl&& !bR (fg (kd (st x) 1)) C.cl)&&(((aB (aO g a (kd (sv x) 0))&&aB (aO g b (kd (sv x) 1)))&&Qi (kd (st x) 0) (kd (st x) 1) (aO g a (kd (sv x) 0)) (aO g b (kd (sv x) 1)))&&(bT g a C (kd (sv x) 0)&&bT g b C (kd (sv x) 1))))
|.vH i _ e,C,x=>Br C i (st x)&&bT g e C (sv x)
|.dx p I e,C,x=>(dY (aO g e (sv x))&&aB (aO g I (kd (st x) 1)))&&(Fg C p (kd (st x) 0)&&(bT g I C (kd (st x) 1)&&bT g e C (sv x)))
|.lh i _ e,C,x=>dY (aO g e (sv x))&&(qp (fg (kd (st x) 0)) C.nm i&&bT g e C (sv x))
|.wN i _,C,x=>qp (fg (kd (st x) 0)) C.nm i
|.lK i e,C,x=>PS C i x&&(aB (aO g e (kd (sv x) 1))&&bT g e C (kd (sv x) 1))
|.ins i a b,C,x=>PS C i x&&((aB (aO g a (kd (sv x) 1))&&aB (aO g b (kd (sv x) 2)))&&(bT g a C (kd (sv x) 1)&&bT g b C (kd (sv x) 2)))
|.Hp i,C,x=>PS C i x
|.iff c a b,C,x=>Am g c C (sv x)&&(An a C (HQ x)&&An b C (PC x))
|.tT c b,C,x=>Am g c C (sv x)&&An b C (HQ x)
|.bU i t b,C,x=>Br C i (st x)&&(aB (aO g t (sv x))&&(bT g t C (sv x)&&An b C (HQ x)))
|.ret e,C,x=>(match Bo x with|true=>Jv e|false=>bT g e C (sv x))
|.gv e,C,x=>K0 e&&(bR (Str.ofString "Refusal") C.gs&&bT g e C (kd (sv x) 1))
|.cont,_,_=>true
|.K,_,_=>true
|_,_,_=>false
noncomputable def An:T→Cf→List Stmt→Bool
|.nil,_,_=>true
|.cons s r,C,xs=>Ow s C (DM xs)&&An r C xs.tail
|.K,_,_=>true
|_,_,_=>false
end
end
structure vh(fn:hM)extends Fr fn where
 z:Option Value
 bh:List Env
 zz:z=none∨cf.F2=true
 fr:env.frame=some env.locals
 hd:fs=env::bh
 kd:∀n i,aQ n cf.nm=some i→(env.kindOf n=some .local∧pl i=.ns env.locals n)∨(n∈cf.cl∧env.kindOf n=some .cell∧∃c,env.cells.lookup n=some c∧pl i=.cell c)
 P5:∀i,pl i≠.cell 910→(∃n,pl i=.ns env.locals n)∨∃c,pl i=.cell c
 inj:∀i j,pl i=pl j→pl i≠.cell 910→i=j
 Rh:cf.lm=true→env.code=.ref 912∧env.qual++("<lambda>":Str)=kj
structure dw(w:World)(os:OsState){fn:hM}(c:vh fn)extends Zt w os c.fs c.pl where
 cel:∀i a,i<ρ.length→c.pl i=.cell a→(W a).1=4
 zero:∀v,c.z=some v→0<ρ.length∧(c.pl 0).At s.heap (some v)
 lm:c.env.code=.ref 912→(W 910).1=4
section
variable{w:World}{os:OsState}{fn:hM}{c:vh fn}
noncomputable abbrev q8(z d:dw w os c):Prop:=KT z.s.heap z.W d.s.heap d.W
noncomputable def dw.ke(z:dw w os c)(y)(K:Le z.toZt y):dw w os c where
 toZt:=y
 cel i a H e:=by
  have H:=z.S.H.qk y.S.H▸H;obtain⟨x,A⟩:=z.S.H.cz H;have l:=K.ny (z.S.H.bG i H) A;rw[e]at l;exact(congrArg Prod.fst l).trans (z.cel i a H e)
 zero v e:=(z.zero v e).elim λF a=>⟨z.S.H.qk y.S.H▸F,K.cz (z.S.H.bG 0 F) a⟩
 lm e:=by
  have l:=z.lm e;obtain⟨_,V,e⟩:=z.S.H.b.jd;exact(congrArg Prod.fst (K.ex 910 _ e (.inr (.inl l))).2).trans l
theorem su{h:Heap}(x:h.IsCell a v)(y:h.Ns a m):False:=
 x.elim λo q=>y.elim λO Q=>Q.elim λes Q=>Q.elim λE Q=>by
  cases q.1.symm.trans Q.1;cases q.2.symm.trans Q.2.1
end
section
variable{w:World}{os:OsState}{F:Nat→Spec}{fn:hM}
theorem zP(C:aH w f L ρ h W)(H:i<ρ.length)(e:h.get? 910=some (cD v)):910≠(L i).I:=λq=>(C.cz H).elim λy a=>by
 have N:=(C.a9 i).mp H;generalize L i=p at a q N;cases p with
 |cell c=>exact N (congrArg _ q.symm)
 |ns j n=>
  obtain⟨m,⟨o,es,E,O,hd,_⟩,_⟩:=a;cases(q.symm:j=910);cases e.symm.trans O;cases hd
theorem Qx(l:n=1∨n=4)(k:yg n∨EU n):False:=by
 unfold yg EU at k;exact zl 0xf7481f82dfed8e908b67c4fcd3 rfl l k
theorem aH.Ik{S:Mine.Internal.S}(C:aH w fs pl ρ h W)(hi:i<ρ.length)(hl:(W (pl i).I).1=1∨(W (pl i).I).1=4)(sb:∀b o,b≠(pl i).I→h.get? b=some o→h'.get? b=some o)
 (RC:(pl i).At h' (some v))(RD:∀j x,j≠i→j<ρ.length→(pl j).At h x→(pl j).At h' x)(ns:∀m,h.Ns (pl i).I m→∃m',h'.Ns (pl i).I m')(r:a5 w h W (10+i) S v):aH w fs pl (ρ.set i S) h' W:=by
 have ne:∀b,(W b).1≠1→(W b).1≠4→b≠(pl i).I:=λb h1 h2 z=>(z▸hl).elim h1 h2;have N:=λL m e=>by
  by_cases q:L=(pl i).I
  ·exact q▸ns m (q▸e)
  ·exact⟨m,cj e λo=>sb L o q⟩
 have K:Kp h W h' W:=λb o e l=>⟨sb b o (ne b (λz=>nomatch l.symm.trans z) λz=>nomatch l.symm.trans z) e,l⟩;have t:∀{j n},10+j=n→¬n<10:=λq=>q▸Nat.not_lt.mpr (le_add_right 10 _);have M:∀j,Mv h W (10+j) h' W (10+j):=λj b o e l=>⟨sb b o (ne b (λz=>t (l.symm.trans z) (by decide)) λz=>t (l.symm.trans z) (by decide)) e,by rw[←l]⟩;refine⟨λb o e n=>have z:=C.base b o e n;⟨sb b o (ne b (λq=>nomatch z.2.symm.trans q) λq=>nomatch z.2.symm.trans q) z.1,z.2⟩,?_,by rw[List.length_set];exact C.len,by rw[List.length_set];exact C.a9,λj T e=> ?_,
  λj H=>C.bG j (length_set▸H),λenv Z=> ?_,?_⟩
 ·refine C.jd.imp (λl=>⟨l.1,l.2.imp λV e=>sb _ _ (zP C hi e) e⟩) λl=>⟨l.1,l.2.imp λV e=>⟨sb _ _ (zP C hi e.1) e.1,e.2.step K⟩⟩
 ·rw[getElem?_set]at e
  by_cases I:i=j
  ·subst I
   rw[if_pos rfl,if_pos hi]at e;cases e;exact⟨some v,RC,.inr ⟨v,rfl,r.cY K (M i)⟩⟩
  ·rw[if_neg I]at e
   obtain⟨x,a,q⟩:=C.slots j T e;exact⟨x,RD j x (Ne.symm I) (List.getElem?_eq_some_iff.mp e).1 a,q.imp id λ⟨v,e,q⟩=>⟨v,e,q.cY K (M j)⟩⟩
 ·obtain⟨k,L,m,f,e,l⟩:=C.frames env Z
  exact⟨k,L,(N L m e).elim λm' E=>⟨m',f,E,l⟩⟩
 ·obtain⟨env,O,L,m,f,q,e,l⟩:=C.head
  exact⟨env,O,L,(N L m e).elim λm' E=>⟨m',f,q,E,l⟩⟩
theorem aH.Ji(C:aH w fs pl ρ h W)(hi:i<ρ.length)(hl:(W (pl i).I).1=1∨(W (pl i).I).1=4)(sb:∀b o,b≠(pl i).I→h.get? b=some o→h'.get? b=some o):KT h W h' W:=
 have ne:∀b,yg (W b).1∨EU (W b).1→b≠(pl i).I:=λb l z=>Qx hl (z▸l)
 ⟨λa o e l=>⟨sb a o (ne a (.inl l)) e,rfl⟩,λa o e l=>⟨λm q=>cj q λo=>sb a o (ne a (.inr l)),rfl⟩,λa o e l=>⟨o,sb a o (ne a (.inr l)) e⟩,λV l e=>⟨rfl,#[],by simpa using sb _ _ (zP C hi e) e⟩⟩
theorem pT(h:Br C i x=true):aQ (fg x) C.nm=some i∧(C.F2=true→i≠0):=⟨bO (aL h),λq z=>by
 have h:=nE (aR h);rw[q,z]at h;cases h⟩
variable{c:vh fn}
theorem dw.own(z:dw w os c):(∃m,z.s.heap.Ns c.env.locals m)∧(z.W c.env.locals).1=1:=by
 obtain⟨E,O,L,m,H,r,s,R⟩:=z.S.head;cases c.hd.symm.trans H;cases c.fr.symm.trans r;exact⟨⟨m,s⟩,R⟩
theorem dw.cz(z:dw w os c){i}(hi:i<z.ρ.length):(z.W (c.pl i).I).1=1∨(z.W (c.pl i).I).1=4:=
 (c.P5 i ((z.S.H.a9 i).mp hi)).elim (λ⟨n,e⟩=>.inl (e▸z.own.2)) λ⟨a,e⟩=>.inr ((congrArg (λp:fQ=>(z.W p.I).1) e).trans (z.cel i a hi e))
theorem dw.GI(z){S:Mine.Internal.S}(hi:i<z.ρ.length)(h0:c.cf.F2=true→i≠0)(sb:∀b o,b≠(c.pl i).I→z.s.heap.get? b=some o→h'.get? b=some o)
 (RD:(c.pl i).At h' (some v))(RC:∀j x,j≠i→j<z.ρ.length→(c.pl j).At z.s.heap x→(c.pl j).At h' x)(ns:∀m,z.s.heap.Ns (c.pl i).I m→∃m',h'.Ns (c.pl i).I m')(r:a5 w z.s.heap z.W (10+i) S v){C:Prop}
 (next:∀z':dw w os c,z'.s={z.s with heap:=h',toks:=t}→z'.ρ=z.ρ.set i S→q8 z z'→C):C:=
 next ⟨⟨z.ρ.set i S,{z.s with heap:=h',toks:=t},z.W,z.S.gens,z.S.os,z.S.H.Ik hi (z.cz hi) sb RD RC ns r⟩,λj a H=>z.cel j a (length_set▸H),
  λv e=>have q:=z.zero v e;⟨(length_set).symm▸q.1,RC 0 _ (λq=>c.zz.elim (λy=>nomatch y.symm.trans e) λy=>h0 y q.symm) q.1 q.2⟩,z.lm⟩ rfl rfl (z.S.H.Ji hi (z.cz hi) sb)
theorem yO(O:jw C env L):interactive env=false:=by
 unfold interactive;rw[O.kind];rfl
theorem vk{S:Mine.Internal.S}(o:Br c.cf i x=true)(h:bH z.ρ i S k)(r:a5 w z.s.heap z.W (10+i) S v)
 (next:∀d:dw w os c,k d.ρ→q8 z d→(∃h' t,d.s={z.s with heap:=h',toks:=t})→Q () d.s):wpAny (model PP w) c.A (storeName c.env (fg x) v) Q C z.s:=by
 have I:=(gJ h).2;have N:∀h' t,∀d:dw w os c,d.s={z.s with heap:=h',toks:=t}→d.ρ=z.ρ.set i S→q8 z d→Q () {z.s with heap:=h',toks:=t}:=λh' t d g f l=>g▸next d (f▸((gJ h).1)) l ⟨h',t,g⟩;rcases c.kd _ i (pT o).1 with⟨k1,k2⟩|⟨_,k1,a,k2,k3⟩
 ·obtain⟨⟨m,s⟩,L⟩:=z.own
  have K:(c.pl i).I=c.env.locals:=congrArg fQ.I k2;refine wpAny_storeName_local k1 s (λh' E B=>z.GI I (pT o).2 (λb o ne=>(B.2 b (K▸ne)).trans) (k2▸⟨_,E,if_pos rfl⟩) (λj y ne H a=> ?_) (λm' e=>⟨_,by rw[k2];exact E⟩) r (N h' _)) (by rw[c.O.kind];rfl);rcases c.P5 j ((z.S.H.a9 j).mp H)with⟨n,e⟩|⟨b,e⟩
  ·rw[e]at a⊢
   obtain⟨m1,W,Z⟩:=a;exact⟨_,E,(if_neg λq=>ne (c.inj j i ((q▸e).trans k2.symm) ((z.S.H.a9 j).mp H))).trans ((congrFun (s.eq_nsMap.trans W.eq_nsMap.symm) n).trans Z)⟩
  ·rw[e]at a⊢
   exact IsCell.sameBut a B λz=>su (z▸a) s
 ·obtain⟨X,A⟩:=z.S.H.cz I
  rw[k3]at A;have K:(c.pl i).I=a:=congrArg fQ.I k3;refine wpAny_storeName_cell c.O.kind k1 k2 A λh' O B=>z.GI I (pT o).2 (λb o ne e=>(B.2 b (K▸ne)).trans e) (k3▸O) (λj x ne H M=> ?_) (λm' e=>by rw[k3]at e;exact(su A e).elim) r (N h' _);rcases c.P5 j ((z.S.H.a9 j).mp H)with⟨n,e⟩|⟨b,e⟩
  ·rw[e]at M⊢
   exact M.imp λm1 q=>⟨q.1.sameBut B λz=>su A (z▸q.1),q.2⟩
  ·rw[e]at M⊢
   exact IsCell.sameBut M B λq=>ne (c.inj j i (e.trans (q▸k3.symm)) ((z.S.H.a9 j).mp H))
end
structure LV(fs:List Env)(a:Addr)(T:Option Addr)(h h':Heap)(T':Addr):Prop where
 new:T=some T'∨h.get? T'=none
 keep:∀b o,h.get? b=some o→b≠a→T≠some b→b∉fs.filterMap (·.frame)→h'.get? b=some o
 ns:∀b m,h.Ns b m→h'.Ns b m
theorem yr{h:Heap}{j}(f:∀env∈j,env.scope.kind≠.module∧∃L m',env.frame=some L∧h.Ns L m'):h.FunFrames {} j:=by
 induction j with
 |nil=>trivial
 |cons env j I=>
  obtain⟨k,L,m',e,o,es,p,H,hd,_⟩:=f env (.head _);exact⟨k,⟨L,o,e,l9 _,H,λV q=>by rw[hd]at q;cases q⟩,I λenv E=>f env (.tail _ E)⟩
theorem J3{h h':Heap}(k:∀b o,h.get? b=some o→(∀v,o.data≠.fields v)→∃sl,h'.get? b=some {o with slots:=sl})(n:h.Ns b m):h'.Ns b m:=by
 obtain⟨o,es,E,H,hd,r⟩:=n;obtain⟨sl,e⟩:=k b o H λv q=>by rw[hd]at q;cases q
 exact⟨_,es,E,e,hd,r⟩
section
variable{M:Model}{A:Around}{E:Value→Shared→Prop}{s:Shared}
theorem uQ{head:Value}(C:A.frames=some (env::O))(J:s.heap.FunFrames {} (env::O))(f:env.frame=some L)
 (H:s.heap.get? e=some g)(hd:g.data=.fields v)(z:1<v.size)
 (h:∀h' t D ts,h'.get? e=some (g.mapFields (·.setIfInBounds 1 (.ref t)))→s.heap.get? t=none→t≠e→h'.get? t=some D→D.data=.fields ts→ts[3]? =some (rawInt L)→
  (∀b o,s.heap.get? b=some o→b≠e→b∉(env::O).filterMap (·.frame)→h'.get? b=some o)→(∀b m,s.heap.Ns b m→h'.Ns b m)→Q () {s with heap:=h'}):
 wpAny M A (do let a←frameOf env;let p←entryPlaceOf L u;let b←EntryCells.newEntry head a .none (rawInt L) .none p;setField (.ref e) 1 b) Q E s:=by
 have R:e∉(env::O).filterMap (·.frame):=λj=>by
  obtain⟨_,o,B,F⟩:=J.mem j;rw[H]at B;injection B with B;subst B;exact F v hd
 refine wpAny_bind (wpAny_frameOf_fun C J f λU X=> ?_);refine wpAny_bind (wpAny_entryPlaceOf λp W=> ?_);unfold EntryCells.newEntry newFields;refine wpAny_bind (wpAny_newObj_type ?_ (W.sizeOk5 ..));have Y:=(X.2.1 e R).trans H;generalize Z:({cls:=.type "traceback",dict:=none,data:=.fields ([head,.ref L,.none,rawInt L,.none]++(if p.isEmpty then replicate 6 Value.none else p)).toArray}:Obj)=ob;have d:ob.data=.fields ([head,.ref L,.none,rawInt L,.none]++(if p.isEmpty then replicate 6 Value.none else p)).toArray:=by rw[←Z]
 have G:=get?_push_of_some ob Y;refine wpAny_setField G hd z ?_;have S:=Nat.ne_of_gt (lt_size Y);have I:=Obj.data_mapFields hd (·.setIfInBounds 1 (Value.ref U.objs.size));have y:=get?_update_self (Obj.mapFields (·.setIfInBounds 1 (Value.ref U.objs.size))) G (Obj.isFreed_of_fields I);have N:=(Heap.get?_update_other (U.push ob) (Obj.mapFields (·.setIfInBounds 1 (Value.ref U.objs.size))) (Ne.symm S)).trans (Heap.get?_push_size U (Obj.isFreed_of_fields d));have P:∀b o,b≠e→U.get? b=some o→((U.push ob).update e (Obj.mapFields (·.setIfInBounds 1 (Value.ref U.objs.size)))).get? b=some o:=λb o K hb=>by
  rw[Heap.get?_update_other _ _ (Ne.symm K)];exact Heap.get?_push_of_some _ hb
 have V:∀b o,s.heap.get? b=some o→(∀v,o.data≠.fields v)→b≠e:=λb o hb F q=>by
  rw[q,H]at hb;injection hb with hb;subst hb;exact F v hd
 refine h _ U.objs.size ob _ y ?_ S N d ?_ (λb o hb K F=>P b o K ((X.2.1 b F).trans hb)) λb m n=>J3 (λb o hb F=> ?_) n
 ·rw[X.1];exact bw _
 ·rcases W with rfl|⟨_,_,_,_,_,_,_,rfl⟩<;>simp
 ·obtain⟨sl,T⟩:=X.2.2 b o hb
  exact⟨sl,P b _ (V b o hb F) T⟩
theorem uv{h h':Heap}{O o:Obj}{hd x:Value}(C:O.cls=.ref 291)(c2:O.dict=some d)(c3:O.data=.fields v)(y:v[1]? =some hd)(D:h.Ns d J)(U:J (Str.ofString "message")=some (.str m t))
 (fr:∀env∈f,env.scope.kind≠.module∧∃L m',env.frame=some L∧h.Ns L m')(Q:h'.get? a=some (O.mapFields (·.setIfInBounds 1 (.ref g))))(j:g≠a)(I:h'.get? g=some o)(u:o.data=.fields ts)(Y:ts[3]? =some x)(n:∀b m,h.Ns b m→h'.Ns b m):DE f h' a (some g) m:=
 .mk Q ((Obj.cls_mapFields ..).trans C) (by obtain⟨c,d,dd,sl⟩:=O;cases dd<;>exact c2) (Obj.data_mapFields c3 _) (by simp[(Array.getElem?_eq_some_iff.mp y).1]) ⟨rfl,j,o,ts,_,I,u,Y⟩ (n _ _ D) U λenv H=>(fr env H).imp id λq=>q.imp λL q=>q.imp λm q=>⟨q.1,n _ _ q.2⟩
theorem Qp{f:List Env}{h h':Heap}(fr:∀env∈f,env.scope.kind≠.module∧∃L m',env.frame=some L∧h.Ns L m')(n:∀b m,h.Ns b m→h'.Ns b m):∀env∈f,env.scope.kind≠.module∧∃L m',env.frame=some L∧h'.Ns L m':=λenv H=>(fr env H).imp id λq=>q.imp λL q=>q.imp λm q=>⟨q.1,n _ _ q.2⟩
theorem Dx{h:Heap}(g:h.get? t=some O)(dT:O.data=.fields ts):∀b m,h.Ns b m→(h.update t f).Ns b m:=λb m n=>cj n λo e=>(get?_update_other _ _ (by
 rintro rfl;obtain⟨C,es,p,H,d,_⟩:=n;cases g.symm.trans H;cases dT.symm.trans d)).trans e
theorem DK{T:Option Addr}(C:A.frames=some (env::O))(H:env.frame=some L)(j:DE (env::O) s.heap a T m)
 (h:∀h' Y,DE (env::O) h' a (some Y) m→LV (env::O) a T s.heap h' Y→Q () {s with heap:=h'}):wpAny M A (noteFrame (.ref a) env) Q E s:=by
 cases j with
 |mk g u c2 c3 c y N U fr=>
 unfold noteFrame;simp only[H];refine wpAny_bind (wpAny_field g c3 c ?_);cases T with
 |none=>
  cases y;rw[if_neg (by decide)];exact uQ C (yr fr) H g c3 (Array.getElem?_eq_some_iff.mp c).1 λh' Y K ts F V J D B R W Z=>h h' Y (uv u c2 c3 c N U fr F J D B R Z) ⟨.inr V,λb o d S _ P=>W b o d S P,Z⟩
 |some t=>
  obtain⟨rfl,I,K,ts,i,G,dT,h3⟩:=y;rw[if_pos (by simp:(Value.ref t !=Value.none)=true)];refine wpAny_bind (wpAny_field G dT h3 ?_);split
  ·exact wpAny_pure (h s.heap t (.mk g u c2 c3 c ⟨rfl,I,K,ts,_,G,dT,h3⟩ N U fr) ⟨.inl rfl,λ_ _ e _ _ _=>e,λ_ _ n=>n⟩)
  ·refine wpAny_bind (wpAny_setField G dT (Array.getElem?_eq_some_iff.mp h3).1 ?_)
   have r:∀b,b≠t→(s.heap.update t (Obj.mapFields (·.setIfInBounds 3 Value.none))).get? b=s.heap.get? b:=λb hb=>get?_update_other _ _ (Ne.symm hb);have X:=Dx (f:=Obj.mapFields (·.setIfInBounds 3 Value.none)) G dT;have v:=Qp fr X;refine uQ C (yr v) H ((r a (Ne.symm I)).trans g) c3 (Array.getElem?_eq_some_iff.mp c).1 λh' Y w l F V J D B R W Z=>h h' Y (uv u c2 c3 c (X _ _ N) U v F J D B R Z)
    ⟨.inr ?_,λb o d S k P=>W b o ((r b (λz=>k (by rw[z]))).trans d) S P,λb m n=>Z _ _ (X b m n)⟩
   by_cases q:Y=t
   ·subst q
    cases(get?_update_self _ G (Obj.isFreed_of_fields (Obj.data_mapFields dT _))).symm.trans V
   ·exact(r Y q).symm.trans V
theorem jh(H:DE j s.heap a (some t) m)
 (h:∀h',DE j h' a (some t) m→(∀b,b≠t→h'.get? b=s.heap.get? b)→(∀b m,s.heap.Ns b m→h'.Ns b m)→Q () {s with heap:=h'}):wpAny M A (setFlight (.ref a) fr) Q E s:=by
 cases H with
 |mk g c c2 c3 C Z d U F=>
 obtain⟨rfl,n,T,ts,P,G,dT,h3⟩:=Z;have W:=(Array.getElem?_eq_some_iff.mp h3).1;unfold setFlight;refine wpAny_bind (wpAny_field g c3 C ?_);rw[if_pos (by simp:(Value.ref t !=Value.none)=true)];apply wpAny_setField G dT W;generalize X:(fr.elim Value.none λf=>rawInt f)=x;have O:∀b,b≠t→(s.heap.update t (Obj.mapFields (·.setIfInBounds 3 x))).get? b=s.heap.get? b:=λb hb=>get?_update_other _ _ (Ne.symm hb);have N:=Dx (f:=Obj.mapFields (·.setIfInBounds 3 x)) G dT;exact h _ (.mk ((O a (Ne.symm n)).trans g) c c2 c3 C ⟨rfl,n,_,_,x,get?_update_self _ G (Obj.isFreed_of_fields (Obj.data_mapFields dT _)),Obj.data_mapFields dT _,by simp[W]⟩ (N _ _ d) U (Qp F N)) O N
end
inductive XT(os:OsState)(fs:List Env)(h:Heap)(W:cw)(a:Addr)(m:Str)(s':Shared):Prop where
 |mk {T} (gens:s'.gens= #[]) (os:s'.os=os) (keep:KT h W s'.heap W) (fly:DE fs s'.heap a T m)
  (nn:∀b o,h.get? b=some o→(yg (W b).1∨EU (W b).1)→b≠a∧T≠some b) (tb:(W 910).1=4→∀vs,h.get? 910=some (cD vs)→910≠a∧T≠some 910)
theorem XS.fi{os fs h W a m s'}:XS os fs h W a m s'→XT os fs h W a m s'
|.mk g o e f n tb=>.mk g o e.fi f (λb o eb l=>n b o eb (l.imp (λl=>l.elim .inl λl=>.inr (.inr l)) .inr)) tb
theorem KT.self(k:KT h W h' W'):KT h W h' W:=
 ⟨λa o e l=>⟨(k.ex a o e l).1,rfl⟩,λa o e l=>⟨(k.sl a o e l).1,rfl⟩,k.there,λV l e=>⟨rfl,(k.jd V l e).2⟩⟩
theorem XT.pre{os fs h W RC RD a m s'}(k:KT h W RC RD):XT os fs RC RD a m s'→XT os fs h W a m s'
|.mk g o e f n tb=>.mk g o (KT.self (k.trans e)) f (λb o e' l=>l.elim (λl=>have z:=k.ex b o e' l;n b o z.1 (.inl (z.2▸l))) λl=>(k.there b o e' l).elim λo' z=>n b o' z (.inr ((k.sl b o e' l).2▸l)))
 λl vs e=>have z:=k.jd vs l e;z.2.elim λmore e'=>tb (z.1▸l) _ e'
section
variable{w:World}{os:OsState}{fn:hM}{c:vh fn}
noncomputable def Ao(z:dw w os c)(X:Str→Prop)(E:Value→Shared→Prop):Prop:=∀m a S,X m→XT os c.fs z.s.heap z.W a m S→E (.ref a) S
variable{z z₁:dw w os c}{X:Str→Prop}{E:Value→Shared→Prop}{M:Model}{A:Around}
theorem Ao.after(K:Ao z X E)(e:q8 z z₁):Ao z₁ X E:=λm a S h x=>K m a S h (x.pre e)
theorem Ao.x(K:Ao z X E):KX z.toZt X E:=λm a S h x=>K m a S h x.fi
theorem Qu(C:aH w j L ρ h W)(hb:b∈j.filterMap (·.frame)):(W b).1=1∨(W b).1=3:=
 (mem_filterMap.mp hb).elim λenv q=>by
  obtain⟨_,I,m,f,_,l⟩:=C.frames env q.1;cases f.symm.trans q.2;exact l
theorem OT(l:yg n)(k:n=1∨n=3):False:=by
 unfold yg at l;exact zl 0x20b2d9eab85fb5b3d3d17a3 rfl l k
theorem Ds(C:aH w j p ρ h W)(H:j=env::O)(U:A.frames=some j)(J:env.frame=some L)(x:XT os j h W a m d)
 (next:∀h' t,DE j h' a (some t) m→(∀h2,DE j h2 a (some t) m→(∀b,b≠t→h2.get? b=h'.get? b)→(∀b m,h'.Ns b m→h2.Ns b m)→XT os j h W a m {d with heap:=h2})→Q () {d with heap:=h'}):wpAny M A (noteFrame (.ref a) env) Q E d:=by
 subst H;cases x with
 |mk g o k f n tb=>
 refine DK U J f λh' t Z N=>next h' t Z λh2 B F G=> ?_;have S:∀b o,h.get? b=some o→(yg (W b).1∨EU (W b).1)→b≠t:=λb o e l q=>N.new.elim (λy=>(n b o e l).2 (q▸y)) λy=>by
  subst q;rcases l with l|l
  ·cases y.symm.trans (k.ex b o e l).1
  ·exact(k.there b o e l).elim λR u=>nomatch y.symm.trans u
 have T:∀V,(W 910).1=4→h.get? 910=some (cD V)→910≠t:=λV l e q=>N.new.elim (λy=>(tb l V e).2 (q▸y)) λy=>by
  subst q;exact(k.jd V l e).2.elim λmore u=>nomatch y.symm.trans u
 refine .mk g o ⟨λb o e l=> ?_,λb o e l=>⟨λm q=>G b m (N.ns b m ((k.sl b o e l).1 m q)),rfl⟩,λb o e l=> ?_,λV l e=>⟨rfl,(k.jd V l e).2.imp λmore u=> ?_⟩⟩ B (λb o e l=>⟨(n b o e l).1,λq=>S b o e l (Option.some.inj q).symm⟩) λl V e=>⟨(tb l V e).1,λq=>T V l e (Option.some.inj q).symm⟩
 ·have z:=n b o e (.inl l)
  exact⟨(F b (S b o e (.inl l))).trans (N.keep b o (k.ex b o e l).1 z.1 z.2 λhb=>OT l (Qu C hb)),rfl⟩
 ·obtain⟨R,u⟩:=k.there b o e l
  have z:=n b o e (.inr l);have P:=F b (S b o e (.inr l))
  by_cases q:b∈(env::O).filterMap (·.frame)
  ·obtain⟨env,K,Y⟩:=mem_filterMap.mp q
   cases Z with
   |mk _ _ _ _ _ _ _ _ fr=>
   obtain⟨_,L,m',I,D,es,s,v,_⟩:=fr env K;cases I.symm.trans Y;exact⟨D,P.trans v⟩
  ·exact⟨R,P.trans (N.keep b R u z.1 z.2 q)⟩
 ·have z:=tb l V e
  exact(F 910 (T V l e)).trans (N.keep _ _ u z.1 z.2 λhb=>(Qu C hb).elim (λy=>nomatch l.symm.trans y) λy=>nomatch l.symm.trans y)
theorem uP(K:Ao z X E):Ao z X (notedBy M c.A c.env λe t=>cameBackBy M c.A c.env E e t):=λm a t H x=>
 Ds z.S.H c.hd c.hA.frames c.fr x λh' T F k=>by
  have f:=F;cases F with
  |mk g u c2 c3 C Z d U fr=>
  obtain⟨rfl,_⟩:=Z;refine wpAny_bind (wpAny_field g c3 C ?_);rw[if_neg (by simp)];exact jh f λh2 N O n=>K m a _ H (k h2 N O n)
theorem vg{s:Shared}(C:aH w f p ρ s.heap W)(H:f=env::O)(Q:A.frames=some f)(d:env.frame=some L)(I:X m)(x:XT os f s.heap W a m t)(K:∀m a t,X m→XT os f s.heap W a m t→E (.ref a) t):wpAny M A (leaving env (.ref a)) (λ_ y=>E (.ref a) y) J t:=by
 unfold leaving;exact wpAny_bind (Ds C H Q d x λh' T F k=>jh F λh2 N o n=>K m a _ I (k h2 N o n))
end
set_option backward.match.sparseCases false in
noncomputable def jY:T→Nat
|.cons a b=>max (jY a) (jY b)|.ex e=>br e|.C _ e=>br e|.jo _ e=>br e|.F0 _ _ a b=>max (br a) (br b)|.vH _ _ e=>br e
|.dx _ a b=>max (br a) (br b)|.lh _ _ e=>br e|.lK _ e=>br e|.ins _ a b=>max (br a) (br b)|.iff c a b=>max (br c) (max (jY a) (jY b))
|.tT c b=>max (br c) (jY b)|.bU _ I b=>max (br I) (jY b)|.ret e=>br e|.gv e=>br e
|_=>0
section
variable{w:World}{os:OsState}{F:Nat→Spec}{fn:hM}{c:vh fn}
structure KF(z:dw w os c)(nx ct:R→Prop)(rt:Rv→R→Prop)(Q:Flow→Shared→Prop):Prop where
 nx:∀z':dw w os c,nx z'.ρ→q8 z z'→Q .next z'.s
 ct:∀z':dw w os c,ct z'.ρ→q8 z z'→Q .cont z'.s
 rt:∀r(z':dw w os c)v,rt r z'.ρ→q8 z z'→a5 w z'.s.heap z'.W 2 r.s v→Q (.ret v) z'.s
theorem KF.after{nx ct rt Q}(K:KF z nx ct rt Q)(e:q8 z z₁):KF z₁ nx ct rt Q:=
 ⟨λZ h k=>K.nx Z h (e.trans k),λZ h k=>K.ct Z h (e.trans k),λr Z v h k o=>K.rt r Z v h (e.trans k) o⟩
end
section
variable(w:World)(os:OsState)(F:Nat→Spec)(fn:hM)
noncomputable def bZ(b:T):Prop:=∀(c:vh fn)(z:dw w os c)x N C R X Q E,
 Ow fn.g b c.cf x=true→jY b≤c.u→ex F b z.ρ N C R X→KF z N C R Q→Ao z X E→wpAny (model PP w) c.A (exec (QD fn.g b x) c.env) Q E z.s
noncomputable def gw(b:T):Prop:=∀(c:vh fn)(z:dw w os c)xs N C R X Q E,
 An fn.g b c.cf xs=true→jY b≤c.u→ex F b z.ρ N C R X→KF z N C R Q→Ao z X E→wpAny (model PP w) c.A (execs (uH fn.g b xs) c.env) Q E z.s
end
section
variable{w:World}{os:OsState}{F:Nat→Spec}{fn:hM}{c:vh fn}{z:dw w os c}{x:Expr}{X:Str→Prop}{R:Value→Shared→Prop}
theorem tJ(H:au w os F fn e)(o:bT fn.g e c.cf x=true)(u:br e≤c.u)(h:ev F e z.ρ k X)(K:Ao z X R)
 (next:∀r(d:dw w os c)v,k r d.ρ→Le z.toZt d.toZt→VR w d.s.heap d.W r.v v→Ao d X R→Q v d.s):wpAny (model PP w) c.A (eval (aO fn.g e x) c.env) Q R z.s:=
 fW H o u h K.x λr y v h' E Z=>next r (z.ke y E) v h' E Z (K.after E.fi)
theorem I1(H:au w os F fn e)(o:bT fn.g e c.cf x=true)(u:br e≤c.u)(h:ev F e z.ρ k X)(K:Ao z X R)
 (next:∀r(d:dw w os c)v,k r d.ρ→Le z.toZt d.toZt→a5 w d.s.heap d.W 2 r.s v→Q v d.s):wpAny (model PP w) c.A (eval (aO fn.g e x) c.env) Q R z.s:=
 H c.toFr z.toZt x k X Q R o u h (λr y v h' E=>next r (z.ke y E) v h' E) K.x
theorem Cc{r:Rv}(o:Br c.cf i x=true)(h:bH z.ρ i r.s k)(O:a5 w z.s.heap z.W 2 r.s v)
 (next:∀d:dw w os c,k d.ρ→q8 z d→(∃h' t,d.s={z.s with heap:=h',toks:=t})→Q () d.s):wpAny (model PP w) c.A (storeName c.env (fg x) v) Q R z.s:=
 have K:=KE.bo
 vk (z:=z.ke ⟨z.ρ,z.s,_,z.S.gens,z.S.os,z.S.H.bo⟩ K) o h (O.cY K.kp Mv.to) λd H l=>next d H (K.fi.trans l)
theorem Lp:gw w os F fn .nil:=λc z xs N C t X Q R o H h K KX=>wpAny_execs_nil (K.nx z h .refl)
theorem Iq(H:bZ w os F fn a)(hb:gw w os F fn b):gw w os F fn (.cons a b):=λc z xs N C t X Q R o u h K KX=>
 wpAny_execs_cons (H c z _ _ C t X _ R (aL o) (mL u) h ⟨λZ h' k=>hb c Z _ N C t X Q R (aR o) (mR u) h' (K.after k) (KX.after k),K.ct,K.rt⟩ KX)
theorem Fi:gw w os F fn .K:=λc z xs N C t X Q R o H h=>h.elim
theorem Ce:bZ w os F fn .K:=λc z xs N C t X Q R o H h=>h.elim
theorem bY(h:dY v=true):swapsWith v t l env=pure false:=by
 cases v<;>first|rfl|cases h
theorem L5(H:au w os F fn e):bZ w os F fn (.ex e):=λc z x N C t X Q R o u h K KX=>
 wpAny_Expr_any (tJ H (aR o) u h KX λr Z v h' E _ _=>K.nx Z h' E.fi) (yO c.O) (bY (aL o))
theorem FW:bZ w os F fn .cont:=λc z x N C t X Q R o H h K KX=>wpAny_Continue (K.ct z h .refl)
theorem LJ{e:E}(h:Jv e=true):e=.X:=xN h
theorem HF(H:au w os F fn e):bZ w os F fn (.ret e):=λc z x N C t X Q R o u h K KX=>by
 have o:(match Bo x with|true=>Jv e|false=>bT fn.g e c.cf (sv x))=true:=o;show wpAny _ _ (exec (.Return (match Bo x with|true=>none|false=>some (aO fn.g e (sv x))) x.pos) _) _ _ _;generalize Bo x=b at o;cases b with
 |true=>
  cases LJ o;exact wpAny_Return_none (K.rt _ z .none h .refl .none)
 |false=>exact wpAny_Return_some (I1 H o u h KX λr Z v h' E O=>K.rt r Z v h' E.fi O)
theorem Hg{c a b}(H:gQ w os F fn c)(j:gw w os F fn a)(hb:gw w os F fn b):bZ w os F fn (.iff c a b):=λc z x N C T X Q R o u h K KX=>
 wpAny_If (H c.toFr z.toZt _ _ X _ R (aL o) (mL u) h (λt y h' E=>by
  have k:=KX.after (z₁:=z.ke y E) E.fi;have Y:=K.after (z₁:=z.ke y E) E.fi;cases t with
  |true=>exact j c (z.ke y E) _ N C T X Q R (aL (aR o)) (mL (mR u)) h' Y k
  |false=>exact hb c (z.ke y E) _ N C T X Q R (aR (aR o)) (mR (mR u)) h' Y k) KX.x)
theorem JO:∀{x},Al e=true→∃t g sc p,aO fn.g e x=.ListComp t g sc p:=by
 induction e with
 |Y e I=>exactλh=>I h
 |comp j T c e _ _ _=>exactλ_=>⟨_,_,_,_,rfl⟩
 |_=>exact ff
theorem dw.drop(z:dw w os c){C:Prop}(sb:Heap.SameBut RC z.s.heap h')(ht:900≤t)(wD:t≤(z.W RC).1)(next:∀z':dw w os c,z'.s={z.s with heap:=h'}→z'.ρ=z.ρ→KS t z.s.heap z.W z'.s.heap z'.W→C):C:=
 have K:KS t z.s.heap z.W h' z.W:=λb o l e=>⟨(sb.2 b (λq=>absurd l (Nat.not_lt.mpr (q▸wD)))).trans e,rfl⟩;have P:∀i,i<z.ρ.length→(z.W (c.pl i).I).1<t:=λi H=>(z.cz H).elim (λe=>xy e (by decide) ht) λe=>xy e (by decide) ht
 next ⟨⟨z.ρ,{z.s with heap:=h'},z.W,z.S.gens,z.S.os,z.S.H.qX ht (λi H o e=>K _ o (P i H) e) K⟩,z.cel,λv e=>have q:=z.zero v e;⟨q.1,eR q.2 λo E=>(K _ o (P 0 q.1) E).1⟩,z.lm⟩ rfl rfl K
theorem H2(H:∀f v,MV fn.g e f v=((dY (aO fn.g e v)||Al e)&&bT fn.g e f v))(D:∀v,K3 fn.g e v=aO fn.g e v)(O:au w os F fn e)(U:Al e=true→vW w os F fn e):bZ w os F fn (.C i e):=λc z x n a rt X Q R o u h K KX=>by
 have W:=aR o;rw[H]at W;show wpAny _ _ (exec (.Assign [.Name (fg (st x)) (st x).pos] (K3 fn.g e (sv x)) x.pos) _) _ _ _;rw[D];have plain:wpAny (model PP w) c.A (eval (aO fn.g e (sv x)) c.env) (λv S=>wpAny (model PP w) c.A (storeName c.env (fg (st x)) v) (λ_=>Q .next) R S) R z.s:=
  I1 O (aR W) u h KX λr z' v h' E g=>Cc (aL o) h' g λZ d Y _=>K.nx Z d (E.fi.trans Y)
 cases P:dY (aO fn.g e (sv x))with
 |true=>exact wpAny_Assign_Name plain (bY P)
 |false=>
  have ic:Al e=true:=by rw[P]at W;exact aL W
  obtain⟨RC,RD,sc,V,ex⟩:=JO ic;have hb:swapsWith (aO fn.g e (sv x)) (some (.Name (fg (st x)) (st x).pos)) x.pos.line c.env=pure (c.env.blockKind==.function&&c.env.kindOf (fg (st x))==some .local&&(st x).pos.line==V.line&& !(sc.names.any λ(m,k)=>m==fg (st x)&&(k==.local||k==.cell))):=by rw[ex];rfl
  generalize(c.env.blockKind==.function&&c.env.kindOf (fg (st x))==some .local&&(st x).pos.line==V.line&& !(sc.names.any λ(m,k)=>m==fg (st x)&&(k==.local||k==.cell)))=b at hb;cases b with
  |false=>exact wpAny_Assign_Name plain hb
  |true=>
   rw[exec_Assign_Name_used _ _ _ _ hb];refine wpAny_bind (wpAny_standAt (wpAny_bind ?_));refine U ic c.toFr z.toZt _ _ X _ R _ (aR W) u h (λr y A C tt t j d E g N L pL=> ?_) KX.x;refine wpAny_assign_Name (Cc (z:=z.ke y E) (aL o) d g λZ G Y es=> ?_);refine N.elim λm q=>q.elim λB q=>q.elim λes q=>q.elim λp q=> ?_;have J:=Y.ex C B q.1 (.inr (.inr (Nat.le_trans (by decide) (Nat.le_trans t L))));exact⟨m,⟨B,es,p,J.1,q.2⟩,λh' s=>wpAny_pure (Z.drop s (Nat.le_trans (by decide) t) (J.2.symm▸L) λT M I l=>M▸K.nx T (I.symm▸G) ((E.fi.trans Y).gE j l))⟩
end
section
variable{w:World}{os:OsState}{F:Nat→Spec}{fn:hM}{c:vh fn}{z:dw w os c}
theorem dw.KH(z:dw w os c)(t){C:Prop}(k:∀b o,z.s.heap.get? b=some o→h'.get? b=some o)(next:∀z':dw w os c,z'.s={z.s with heap:=h',toks:=t}→z'.ρ=z.ρ→Le z.toZt z'.toZt→C):C:=
 have g:Gr c.env.locals z.s.heap h':=.fZ k;have K:=g.ke z.own.2 λ_ _ _=>rfl
 next (z.ke ⟨z.ρ,{z.s with heap:=h',toks:=t},z.W,g.st z.own.2 (λ_ _ _=>rfl) z.S⟩ K) rfl rfl K
theorem yV(h:dY v=true):swapsWithSole [t] v l env=pure false:=bY h
theorem lL(o:Br c.cf i x=true)(h:bH z.ρ i (.j v) k)(r:VR w z.s.heap z.W v y)
 (next:∀d:dw w os c,k d.ρ→q8 z d→Q () d.s):wpAny (model PP w) c.A (storeName c.env (fg x) y) Q C z.s:=vk o h r λd H l _=>next d H l
theorem gF:∀{xs},(assignEach (vx is xs) env).findIdx? (·.1)=none∧(assignEach (vx is xs) env).length=is.length:=by
 induction is with
 |nil=>exact⟨rfl,rfl⟩
 |cons i is I=>
  intro xs;show((false,assign (vX (hd xs)) env)::assignEach (vx is xs.tail) env).findIdx? (·.1)=none∧(_::assignEach (vx is xs.tail) env).length=_;rw[findIdx?_cons,I.1,length_cons,I.2];exact⟨rfl,rfl⟩
theorem rg{C:Prop}(h:jT (i::is) l ρ k)(f:∀v l',l=v::l'→bH ρ i (.j v) (λρ=>jT is l' ρ k)→C):C:=by
 cases l with
 |nil=>exact h.elim
 |cons v l'=>exact f v l' rfl h
theorem BR:∀{l}{ρ}{k},jT is l ρ k→is.length=l.length:=by
 induction is with
 |nil=>
  intro l ρ k h;cases l with
  |nil=>rfl
  |cons v l'=>exact h.elim
 |cons i is I=>exactλh=>rg h λv l' e h'=>e▸congrArg (·+1) (I (gJ h').1)
theorem sV:∀{xs}{l}{items}{z}{k}{Q},
 IX c.cf is xs=true→jT is l z.ρ k→cW w z.s.heap z.W l items→(∀d:dw w os c,k d.ρ→q8 z d→Q () d.s)→wpAny (model PP w) c.A (assignInOrder ((assignEach (vx is xs) c.env).map (·.2)) items) Q C z.s:=by
 induction is with
 |nil=>
  intro xs l items z k Q o h r next;cases l with
  |nil=>cases r;exact wpAny_pure (next z h .refl)
  |cons v l'=>exact h.elim
 |cons i is I=>
  intro xs l items z k Q o h r next;refine rg h λv l' e h'=> ?_;subst e;cases r with
  |cons r R=>
  exact wpAny_bind (wpAny_holding (wpAny_assign_Name (lL (aL o) h' r λd H k'=>I (aR o) H (R.step k'.kp) λZ W K=>next Z W (k'.trans K))))
theorem Ac(H:t≠I)(n):∀i s Q,s.heap.IsListIter I t i→s.heap.IsList t items→i+n≤items.size→
 (∀h',h'.IsListIter I t (i+n)→SameBut I s.heap h'→Q ((items.toList.drop i).take n) {s with heap:=h'})→wpAny (model PP w) A (draw (.ref I) n) Q C s:=by
 induction n with
 |zero=>exactλi s Q T _ _ E=>wpAny_pure (take_zero▸E s.heap T (SameBut.refl ..))
 |succ n S=>
  intro i s Q T D g E;have R:=Nat.lt_of_lt_of_le (Nat.lt_add_of_pos_right (succ_pos n)) g;refine wpAny_bind (wpAny_pyNext_list_item T D (Array.getElem?_eq_getElem R) λY U u=> ?_);refine wpAny_bind (wpAny_holding (S (i+1) _ _ U (D.extBut u.extBut H) (Nat.add_right_comm i n 1▸g) λW N f=>wpAny_pure ?_));have:=E W ((Nat.add_right_comm i n 1).symm▸N) (u.trans f);rw[drop_eq_getElem_cons R,take_succ_cons]at this;exact this
theorem rO(Y:A.handled=none)(H:s.heap.IsList t items)
 (f:(assignEach O env).length=items.size)(g:(assignEach O env).findIdx? (·.1)=none)
 (h:∀h',Heap.ExtBut s.heap.objs.size s.heap h'→wpAny (model PP w) A (assignInOrder ((assignEach O env).map (·.2)) items.toList) Q C {s with heap:=h'}):
 wpAny (model PP w) A (assign (.Tuple O x p) env (.ref t)) Q C s:=by
 have T:=H.elim λo q=>kS q.1;rw[arm_assign_Tuple];refine wpAny_bind (wpAny_standAt ?_);delta unpack;rw[f,g];refine wpAny_bind (wpAny_holding (wpAny_bind (wpAny_bind (wpAny_specialOf H.typeIs F.slot_list_iter.lookup (wpAny_pure ?_)))));rw[if_neg (by simp)];refine wpAny_bind (wpAny_holding (wpAny_pyIter_list H (wpAny_bind (wpAny_holding (Ac T items.size 0 _ _ ⟨_,get?_push_size _ rfl,rfl,rfl⟩ (H.push _) (Nat.le_of_eq (Nat.zero_add _)) λU R u=> ?_)))));rw[drop_zero,take_of_length_le (Nat.le_refl items.size),if_neg (by simp)];refine wpAny_bind (wpAny_holding (wpAny_pyNext_list_end Y R ((H.push _).extBut u.extBut T) (by simp) λW B=> ?_));exact wpAny_pure (h W λb o hb e=>B b o hb (u.extBut b o hb (get?_push_of_some _ e)))
theorem Bv(h:Cq v=true):swappedStores [.Tuple ns k p] v env=pure none:=by
 cases v<;>first|rfl|cases h
theorem Ea(H:au w os F fn e):bZ w os F fn (.jo is e):=λc z x Y C T X Q y o u h K KX=>
 Assign_Tuple (tJ H (aR (aR (aR o))) u h KX λr Z v h' J O G=>
  have t:=λl s U hb R ext d=>
   Z.KH Z.s.toks (λb o e=>ext b o (kS e) e) λz₁ E j L=>E▸sV (aL o) (j▸hb) (R.step L.kp) λI W k=>d I W ((J.fi.trans L.fi).trans k)
  have N:∀(l:List V)(s:Array Value),jT is l Z.ρ Y→cW w Z.s.heap Z.W l s.toList→(assignEach (vx is (bP (st x))) c.env).length=s.size:=λl s hb R=>gF.2.trans ((BR hb).trans R.length)
  BL h' O (λl a s n hb ev E P R=>ev▸rO c.hA.handled ⟨_,E,rfl,n,rfl⟩ (N l s.toArray hb R) gF.1 λU ext=>t l s U hb R ext λI W k=>K.nx I W k)
   λl a s n hb ev E P R=>ev▸wpAny_assign_Tuple c.hA.handled ⟨_,E,rfl,n,rfl⟩ (N l s.toArray hb R) gF.1 λU ext=>t l s U hb R ext λI W k=>K.nx I W k)
  (yV (aL (aR o))) (Bv (aL (aR (aR o))))
@[elab_as_elim] theorem y5{C:Value→Prop}(r:VR w h W (.int i) x)(f:∀t,C (.int i t)):C x:=by
 cases r;exact f _
theorem zL{C:B2→V→V→Prop}(h:match o,x,y with
 |.add,.int a,.int b=>bH ρ i (.j (.int (a+b))) k
 |.sub,.int a,.int b=>bH ρ i (.j (.int (a-b))) k
 |_,_,_=>False)(h1:∀a b,bH ρ i (.j (.int (a+b))) k→C .add (.int a) (.int b))(h2:∀a b,bH ρ i (.j (.int (a-b))) k→C .sub (.int a) (.int b)):C o x y:=by
 cases o<;>first|exact h.elim|(cases x<;>first|exact h.elim|(cases y<;>first|exact h.elim|exact h1 _ _ h|exact h2 _ _ h))
theorem dw.tk(z)(t){C:Prop}(next:∀z':dw w os c,z'.s={z.s with toks:=t}→z'.ρ=z.ρ→q8 z z'→C):C:=next (z.ke (z.toZt.tk t) .refl) rfl rfl .refl
theorem Jf(H:au w os F fn e):bZ w os F fn (.vH i o e):=λc z x N L f X Q E ok U h K KX=>
 CV z.toZt h λy g V W S A T d M=>
  wpAny_AugAssign_Name (AK c.O (pT (aL ok)).1 A (tJ (z:=z.ke ⟨V,z.s,W,S⟩ d) H (aR ok) U T (KX.after d.fi) λr Z v h' J O l=>
   have a9:∀t I,bH Z.ρ i (.j (.int I)) N→wpAny (model PP w) c.A (storeName c.env (fg (st x)) (.int I t)) (λ_=>Q .next) E {Z.s with toks:=Z.s.toks+1}:=λt I k=>Z.tk (Z.s.toks+1) λz₁ Y j m=>Y▸lL (aL ok) (j▸k) (.int ..) λB D G=>K.nx B D (((d.fi.trans J.fi).trans m).trans G)
   zL (C:=λo a b=>VR w Z.s.heap Z.W a g→VR w Z.s.heap Z.W b v→wpAny (model PP w) c.A (inplaceOp (yX o) g v) (λv s=>wpAny (model PP w) c.A (storeName c.env (fg (st x)) v) (λ_=>Q .next) E s) E Z.s) h'
    (λa b k R P=>y5 R λt=>y5 P λu=>PyProof.Rows.iadd_int (a9 _ _ k)) (λa b k R P=>y5 R λt=>y5 P λu=>PyProof.Rows.isub_int (a9 _ _ k)) (M.step J.kp) O))
end
theorem Ri{x y:Expr}{a b:Str}(h1:f x=some a)(h2:f y=some b):filterMap f [x,y]=[a,b]:=by
 rw[filterMap_cons_some h1,filterMap_cons_some h2,filterMap_nil]
theorem Rn{Y:Type}{x y:Expr}{k:Y}{g:List Str→Y}(h1:f x=some a)(h2:f y=some b)(ne:¬b=a):(if((filterMap f [x,y]).length !=[x,y].length||(filterMap f [x,y]).eraseDups.length !=(filterMap f [x,y]).length)=true then k else g (filterMap f [x,y]))=g [a,b]:=by
 rw[Ri h1 h2,show[a,b].eraseDups=[a,b]by simp[List.eraseDups_cons,ne]];exact if_neg Bool.false_ne_true
theorem Hn(H:aB a=true)(z:aB b=true)(h:Qi x y a b=true)(env)(hb:env.blockKind=.function)(k1:env.kindOf (fg x)=some .local)(k2:env.kindOf (fg y)=some .local):
 swappedStores [.Tuple [vX x,vX y] k p] (.Tuple [a,b] k' v) env=pure (some [fg x,fg y]):=by
 have h3:=nE (aL (aR (aR h)));have h4:=nE (aR (aR (aR h)));have C:(env.kindOf (fg x)==some NameKind.local&&x.pos.line==x.pos.line)=true:=by rw[k1,beq_self_eq_true,beq_self_eq_true];rfl
 have c2:(env.kindOf (fg y)==some NameKind.local&&y.pos.line==x.pos.line)=true:=by rw[k2,beq_self_eq_true];exact aL h
 delta swappedStores;refine(if_neg (λq=> ?_)).trans ?_
 ·have q:(env.blockKind !=.function)=true:=q
  rw[hb]at q;cases q
 refine(if_neg (λq=>(oE q).elim (λq=> ?_) λq=>(oE q).elim (λq=> ?_) ff)).trans ?_
 ·revert H q;clear h h3 h4;cases a<;>first|exactλ_=>ff|exact ff
 ·revert z q;clear h h3 h4;cases b<;>first|exactλ_=>ff|exact ff
 refine(Rn (g:=λl=>ite _ _ (ite _ _ (pure (some l):Sem (Option (List Str))))) ?_ ?_ (bB (nE (aL (aR h))))).trans ?_
 ·exact if_pos C
 ·exact if_pos c2
 exact(if_neg (λq=>by rw[h3]at q;cases q)).trans (if_neg (λq=>by rw[h4]at q;cases q))
section
variable{w:World}{os:OsState}{F:Nat→Spec}{fn:hM}{c:vh fn}{z:dw w os c}
theorem IS(H:au w os F fn a)(hb:au w os F fn b):bZ w os F fn (.F0 i j a b):=λc z x n T r X Q L o u h K KX=>
 have kd:∀{y i},Br c.cf i y=true→(!bR (fg y) c.cf.cl)=true→c.env.kindOf (fg y)=some .local:=λo l=>(c.kd _ _ (pT o).1).elim (λq=>q.1) λq=>absurd q.1 (rh (nE l));have B:c.env.blockKind=.function:=by unfold Env.blockKind;rw[c.O.kind];rfl
 have P:=aL (aL (aL (aR (aR o))));have Z:=aR (aL (aL (aR (aR o))))
 Assign_Tuple_swapped (names:=[fg (Mine.Internal.kd (st x) 0),fg (Mine.Internal.kd (st x) 1)]) (wpAny_Tuple_spliced (PyProof.Rows.spliced_more (tJ H (aL (aR (aR (aR o)))) (mL u) h KX λg z₁ V U m E D=>PyProof.Rows.spliced_more
  (tJ hb (aR (aR (aR (aR o)))) (mR u) U D λW I v C S t J=>PyProof.Rows.spliced_none ⟨by unfold sizeLine;simp,wpAny_unpackItems_tuple (items:= #[V,v]) c.hA.handled ⟨_,Heap.get?_push_size _ rfl,rfl,0,rfl⟩ λM ext=>
   I.KH I.s.toks (λb o e=>ext b o (by rw[Heap.size_push];exact Nat.ne_of_lt (Nat.lt_succ_of_lt (Heap.lt_size e))) (Heap.get?_push_of_some _ e)) λG N R k=>by
    refine N▸wpAny_bind (wpAny_holding (wpAny_bindName (lL (aR (aL o)) (R▸C) (t.step k.kp) λp Y d=> ?_)));exact wpAny_bind (wpAny_holding (wpAny_bindName (lL (aL (aL o)) Y ((E.step (KE.kp (S.trans k))).step d.kp) λO A f=>wpAny_pure (K.nx O A ((((m.fi.trans S.fi).trans k.fi).trans d).trans f)))))⟩) (aE Z)) (aE P)))
  (yV rfl) (Hn P Z (aR (aL (aR (aR o)))) c.env B (kd (aL (aL o)) (aL (aL (aR o)))) (kd (aR (aL o)) (aR (aL (aR o)))))
theorem Zt.o(z){C:Prop}(h:gW z.ρ i f k)(g:∀l l' a vs n,f l=some l'→(pl i).At z.s.heap (some (.ref a))→z.s.heap.get? a=some (dk vs n)→vs.length≤aA→cW w z.s.heap z.W l vs→
 (∀{RC:Prop}h' RD n' tk,Heap.SameBut a z.s.heap h'→h'.get? a=some (dk RD n')→RD.length≤aA→cW w z.s.heap z.W l' RD→(∀z':Zt w os fs pl,z'.s={z.s with heap:=h',toks:=tk}→k z'.ρ→Le z z'→RC)→RC)→C):C:=
 (zK h).elim λT q=>(C7 q.2).elim λl' R=>(Option.bind_eq_some_iff.mp R.1).elim λl Q=>z.S.xV q.1 Q.1 λa vs n' p1 h1 h2 h3 h4=>
  g l l' a vs n' Q.2 p1 h1 h3 h4 λh' RD N tk S E y r next=>z.S.xW q.1 Q.1 p1 h2 S E y r λs K=>next ⟨_,_,z.W,s⟩ rfl R.2 K
theorem Zt.Gq(z:Zt w os fs pl){P C:Prop}(h:match(z.ρ[i]?).bind df with|some _=>P|.none=>False)(g:∀a vs n,i<z.ρ.length→(pl i).At z.s.heap (some (.ref a))→z.s.heap.get? a=some (dk vs n)→P→C):C:=
 (C7 h).elim λl q=>(Option.bind_eq_some_iff.mp q.1).elim λT Q=>z.S.xV Q.1 Q.2 λa vs N p1 h1 _ _ _=>g a vs N (List.getElem?_eq_some_iff.mp Q.1).1 p1 h1 q.2
theorem uN{z d:Zt w os f L}(K:Le z d)(H:i<z.ρ.length)(p:(L i).At z.s.heap (some (.ref a)))(Y:(L i).At d.s.heap (some (.ref M))):M=a:=by
 cases(K.cz (z.S.H.bG i H) p).qE Y;rfl
theorem HC:bZ w os F fn (.Hp i):=λc z x t C R X Q r o u h K KX=>z.toZt.o h λl l' a V n e p1 h1 h3 h4 T=>
 wpAny_Expr (gU gB (aL o) PK (by decide) PySem.F.plainAttrs_list PySem.F.slot_list_reverse PySem.F.type_list_reverse (bz c.O (bO (aR o)) p1 ⟨⟨_,h1,rfl⟩,yp h1 rfl,
  PyProof.Rows.spliced_none (wg h1 h3 λh' N J S=>T h' _ N z.s.toks S J (Nat.le_trans (Nat.le_of_eq length_reverse) h3) (Option.some.inj e▸h4.reverse) λy Y H E=>Y▸K.nx (z.ke y E) H E.fi)⟩)) (yO c.O) (bY rfl)
theorem Hz(H:au w os F fn e):bZ w os F fn (.lK i e):=λc z x t U f X Q V o u h K KX=>z.toZt.Gq h λa L m I P R h=>
 have p:=aL (aR o)
 wpAny_Expr (gU gB (aL (aL o)) (JE p) (by decide:1<20) PySem.F.plainAttrs_list PySem.F.slot_list_append PySem.F.type_list_append (bz c.O (bO (aR (aL o))) P ⟨⟨_,R,rfl⟩,yp R rfl,
  PyProof.Rows.spliced_more (tJ H (aR (aR o)) u h KX λr Z v h' k Y G=>PyProof.Rows.spliced_none (Z.toZt.o h' λl l' A s n e p1 h1 h3 h4 T=>by
   cases uN k I P p1;revert e;cases d:decide (l.length<aA)with
   |false=>exactλq=>nomatch q
   |true=>
    intro e;have lt:=h4.length▸of_decide_eq_true d;exact qL h1 lt λC N J S=>T C _ N Z.s.toks S J (Nat.le_trans (Nat.le_of_eq List.length_append) lt) (Option.some.inj e▸h4.append (.cons Y .nil)) λy W B E=>W▸K.nx (Z.ke y E) B (k.fi.trans E.fi))) (aE p)⟩)) (yO c.O) (bY rfl)
theorem IZ(H:au w os F fn a)(hb:au w os F fn b):bZ w os F fn (.ins i a b):=λc z x O L r X Q g o u h K KX=>z.toZt.Gq h λd v f I P R h=>
 have p:=aL (aL (aR o));have Y:=aR (aL (aR o))
 wpAny_Expr (gU gB (aL (aL o)) (Qa p Y) (by decide:2<20) PySem.F.plainAttrs_list PySem.F.slot_list_insert PySem.F.type_list_insert (bz c.O (bO (aR (aL o))) P ⟨⟨_,R,rfl⟩,yp R rfl,
  PyProof.Rows.spliced_more (tJ H (aL (aR (aR o))) (mL u) h KX λs z₁ RC U m D B=>PyProof.Rows.spliced_more (tJ hb (aR (aR (aR o))) (mR u) U B λRD Z RE C k A RF=>PyProof.Rows.spliced_none
   (QC C (D.step k.kp) λj t C=>Z.toZt.o C λl l' a' V n e p1 h1 h3 h4 T=>by
    cases uN (m.trans k) I P p1;revert e;cases d1:decide (0≤j)with
    |false=>exactλq=>nomatch q
    |true=>
    cases d2:decide (j≤l.length)with
    |false=>exactλq=>nomatch q
    |true=>
    cases d3:decide (l.length<aA)with
    |false=>exactλq=>nomatch q
    |true=>
    intro e;have lt:V.length<aA:=h4.length▸of_decide_eq_true d3;exact y6 h1 h3 (of_decide_eq_true d1) (h4.length▸of_decide_eq_true d2) λM N J S=>T M _ N Z.s.toks S J (by simp;exact zl 0x7409e0f4c558036742 rfl lt) (Option.some.inj e▸(h4.take _).append (.cons A (h4.drop _))) λy W G E=>W▸K.nx (Z.ke y E) G ((m.fi.trans k.fi).trans E.fi))) (aE Y)) (aE p)⟩)) (yO c.O) (bY rfl)
end
theorem t5{C:Prop}(h:eZ l j v=some l')(f:0≤bX l.length j→bX l.length j<l.length→l'=l.set (bX l.length j).toNat v→C):C:=by
 delta eZ at h;cases d1:decide (0≤bX l.length j)with
 |false=>rw[d1]at h;cases h
 |true=>
  cases d2:decide (bX l.length j<l.length)with
  |false=>rw[d1,d2]at h;cases h
  |true=>rw[d1,d2]at h;exact f (of_decide_eq_true d1) (of_decide_eq_true d2) (Option.some.inj h).symm
theorem Ro{o:Option FK}{I:V}{A:List V→Int→Prop}{B:List (Str×V)→Str→Prop}{C:Prop}(h:match o,I with
 |some (.U l),.int j=>A l j
 |some (.od l),.str x=>B l x
 |_,_=>False)(f1:∀l j,o=some (.U l)→I=.int j→A l j→C)(f:∀l x,o=some (.od l)→I=.str x→B l x→C):C:=by
 cases o with
 |none=>exact h.elim
 |some k=>cases k<;>first|exact h.elim|(cases I<;>first|exact f1 _ _ rfl rfl h|exact f _ _ rfl rfl h|exact h.elim)
theorem MA{P:List (Nat×FK)→Prop}(h:match o with|some a=>P a|.none=>False):∃a,o=some a∧P a:=by
 cases o with
 |some a=>exact⟨a,rfl,h⟩
 |none=>exact h.elim
@[elab_as_elim] theorem PD{C:Value→Prop}(r:VR w h W (.str i) x)(f:∀t,C (.str i t)):C x:=by
 cases r;exact f _
theorem mf(h:∀x,p x=true→q x=true)(l:List Nat):(l.filter p).length≤(l.filter q).length:=by
 induction l with
 |nil=>exact Nat.le_refl _
 |cons x l I=>
  rw[filter_cons,filter_cons];cases e:p x with
  |true=>rw[h x e];exact succ_le_succ I
  |false=>cases q x with
   |true=>exact le_succ_of_le I
   |false=>exact I
theorem t8(h:∀x,p x=true→q x=true)(H:p n=false)(Q:q n=true)(l:List Nat):n∈l→(l.filter p).length+1≤(l.filter q).length:=by
 induction l with
 |nil=>exactλm=>nomatch m
 |cons x l I=>
  intro m;rw[filter_cons,filter_cons];rcases mem_cons.mp m with rfl|m
  ·rw[H,Q];exact succ_le_succ (mf h l)
  ·cases e:p x with
   |true=>rw[h x e];exact succ_le_succ (I m)
   |false=>cases q x with
    |true=>exact le_succ_of_le (I m)
    |false=>exact I m
theorem Bq(H:n<9)(f:∀y,nsFind u.toArray y=if y=an n then some x else nsFind es.toArray y)(l:u.length≤es.length∨u.length=es.length+1∧nsFind es.toArray (an n)=none)(h:es.length≤E9 es):u.length≤E9 u:=by
 have M:∀k,(nsFind es.toArray (an k)).isSome=true→(nsFind u.toArray (an k)).isSome=true:=λk e=>by
  rw[f]
  by_cases q:an k=an n
  ·rw[if_pos q];rfl
  ·rw[if_neg q];exact e
 rcases l with l|⟨l,e⟩
 ·exact Nat.le_trans l (Nat.le_trans h (mf M _))
 ·rw[l]
  exact Nat.le_trans (Nat.add_le_add_right h 1) (t8 M (by rw[e];rfl) (by rw[f,if_pos rfl];rfl) _ (mem_range.mpr H))
section
variable{w:World}{os:OsState}{F:Nat→Spec}{fn:hM}
theorem yD{z:dw w os c}{T:Mine.Internal.S}{R E:Value→Shared→Prop}(o:qp (fg y) c.cf.nm i=true)(e:z.ρ[i]? =some T)(u:d5 T=some L)(J:d6 n L=some k)
 (next:∀x tk,FR w z.s.heap z.W (10+i) n k x→(∀{D:Prop}b k' h' t,x=.ref b→z.W b=(10+i,n+1)→Heap.SameBut b z.s.heap h'→(Kp z.s.heap z.W h' z.W→FR w h' z.W (10+i) n k' (.ref b))→
  (∀y:Zt w os c.fs c.pl,y.s={z.s with heap:=h',toks:=t}→y.ρ=z.ρ.set i (dQ T (gI n k' L))→Le z.toZt y→D)→D)→R x {z.s with toks:=tk}):wpAny (model PP w) c.A (eval (.Attribute (vX y) (an n) p) c.env) R E z.s:=
 yI z.S.H e u λG v Y p1 oi h8=>by
  cases oi with
  |mk A M m P X d g I U=>
   obtain⟨x,m1,r⟩:=U _ (gc J);refine Attribute_Name_ (bz c.O (bO o) p1 (n6 z.S.H A ⟨_,_,_,m,rfl,X,λ_=>rfl⟩ m1 (n4 r).2 (next _ _ r λb k' h' t ex wb S fr D=> ?_)));have K:=wA wb (cg h8) ck uL S;have C:∀{f:Nat}(_:f≠n+1)x o,z.W x=(10+i,f)→z.s.heap.get? x=some o→h'.get? x=some o:=λN x o q e=>(S.2 x (by rintro rfl;exact N (Prod.mk.inj (q.symm.trans wb)).2)).trans e;have Z:0≠n+1:=nofun;exact D ⟨_,{z.s with heap:=h',toks:=t},z.W,z.S.gens,z.S.os,z.S.H.mM K (λj H _=>xd wb S (AO H)) λ_ W O=>⟨_,(p1.qE O).symm,AD Y (.mk (A.same λo e=>C Z _ o M e) M (C Z _ _ P m) P X d g (tB I (I.2 _ (gc J)))
    (sQ (ex▸m1) (fr K.kp) U I.1 (λ_ _ _=>rfl) λp V ne x r=>FR.Ip K.kp (λa o e q=>⟨C (λy=>ne (succ.inj y)) a o q e,q⟩) r))⟩⟩ rfl rfl K
theorem vZ(hd:jC w s.heap a k)(H:k.length<aA)
 (K:∀h',jC w h' a (stored k x v)→Heap.SameBut a s.heap h'→Q () {s with heap:=h',toks:=s.toks+1}):wpAny (model PP w) A (setItem (.ref a) (.str x t) v) Q C s:=
 wpAny_setItem_pairs (strKind_is PP w x t) hd.1 (λh' e=>K h' ⟨e,hd.2⟩) (fb (Nat.le_of_lt H))
theorem Lm(r:cW w h W l m)(q:VR w h W v x):cW w h W (l.set (bX l.length j).toNat v) (m.set (bX m.length j).toNat x):=r.length▸cM.set q r _
theorem Ep(H:au w os F fn e):bZ w os F fn (.dx p I e):=λc z x A s b X Q Er o u h K KX=>
 wpAny_Assign_Subscript (tJ H (aR (aR (aR o))) (mR u) h KX λg z₁ RC U k Z RD=>(tM U).elim λj q=>by
  obtain⟨M,U⟩:=q;have oi:=aL (aR (aR o));have op:=aL (aR o);cases p with
  |v i=>
   cases j<;>first|exact U.elim|skip
   rename_i j;exact z₁.toZt.o U λl l' a vs n e p1 g1 g3 g4 N=>t5 e λd1 d2 L=>bz c.O (bO op) p1 (kO oi M λy tk R=>y5 R λt=>
    o5 g1 g3 (g4.length▸d1) (g4.length▸d2) λh' D J S=>N h' _ D tk S J (by rw[List.length_set];exact g3) (L▸Lm g4 Z) λy Y W E=>Y▸K.nx (z₁.ke y E) W (k.fi.trans E.fi))
  |f i n=>
   exact(zK U).elim λT q=>(MA q.2).elim λfl B=>Ro B.2
    (λl j V G U=>(C7 U).elim λl' O=>t5 O.1 λd1 d2 L=>yD op q.1 B.1 V λx tk r N=>by
     cases r with
     |mk g1 g2 g3 g4=>
     refine kO (z:=z₁.toZt.tk tk) oi (G▸M) λy tk R=>y5 R λt=>o5 g1 g3 (g4.length▸d1) (g4.length▸d2) λh' D J S=> ?_;exact N _ (.U l') h' tk rfl g2 S (λP=>.mk J g2 (by rw[List.length_set];exact g3) (L▸(Lm g4 Z).step P)) λy Y C E=>Y▸K.nx (z₁.ke y E) (C▸O.2) (k.fi.trans E.fi))
    λl j V G U=>yD op q.1 B.1 V λx tk r N=>by
     cases r with
     |mk g1 g2 g3=>
     revert U;cases d:decide (l.length<aA)with
     |false=>exact False.elim
     |true=>
     intro U;refine kO (z:=z₁.toZt.tk tk) oi (G▸M) λy tk R=>PD R λt=>vZ g1 (((List.length_map (f:=Prod.fst)).symm.trans ((congrArg List.length g3.JK).trans (List.length_map (f:=Prod.fst))))▸of_decide_eq_true d) λh' J S=> ?_;obtain⟨_,_,_,_,_,_,_,_,m⟩:=id g1.1;exact N _ (.od (fJ j g.v l)) h' (tk+1) rfl g2 S (λP=>.mk J g2 ((gS.stored Z g3 m).step P)) λy Y C E=>Y▸K.nx (z₁.ke y E) (C▸U) (k.fi.trans E.fi))
  (bY (aL (aL o)))
end
theorem Bu{C:Prop}(h:rA ρ i n x k)(f:∀T L,ρ[i]? =some T→n<9→d5 T=some L→k (ρ.set i (dQ T (gI n x L)))→C):C:=by
 delta rA at h;generalize e:ρ[i]? =o at h;generalize b:blt n 9=d at h;cases o with
 |none=>exact h.elim
 |some T=>cases d with
  |false=>exact h.elim
  |true=>exact(MA h).elim λL q=>f T L e (le_of_ble_eq_true b) q.1 q.2
section
variable{w:World}{os:OsState}{F:Nat→Spec}{fn:hM}
theorem mH{c:vh fn}{z:dw w os c}(o:qp (fg y) c.cf.nm i=true)(h:rA z.ρ i n k' t)(r:FR w z.s.heap z.W (10+i) n k' v)
 (next:∀I:dw w os c,t I.ρ→Le z.toZt I.toZt→Q () I.s):wpAny (model PP w) c.A (eval (vX y) c.env) (λO f=>wpAny (model PP w) c.A (setAttr O (an n) v) Q C f) C z.s:=
 Bu h λT fl e N E k=>yI z.S.H e E λc' x Y p1 oi h8=>by
  cases oi with
  | @mk a d es n' W G J A V U g X u=>
  refine bz c.O (bO o) p1 (vQ z.S.H W J V (Nat.le_trans U (Nat.le_trans DZ (by decide))) λh' RC n2 tk g2 S k2 L M=> ?_);have K:=wA A (cg h8) ck uL S;have D:a≠d:=by
   rintro rfl;obtain⟨o,B,_,_,R⟩:=W;cases J.symm.trans B;cases R
  have s:∀m x o,z.W x=(10+i,m+1)→z.s.heap.get? x=some o→h'.get? x=some o:=λm x o q e=>(S.2 x (by rintro rfl;exact nomatch(Prod.mk.inj (A.symm.trans q)).2)).trans e;refine next (z.ke ⟨_,{z.s with heap:=h',toks:=tk},z.W,z.S.gens,z.S.os,z.S.H.mM K (λj Z _=>xd A S (AO Z)) λ_ x' l=>⟨_,(p1.qE l).symm,AD Y (.mk (W.same λo e=>(S.2 a D).trans e) G g2 A k2 (Bq N M L U) (λy H=>(M y).trans ((if_neg (H n)).trans (g y H))) (tB X N) ?_)⟩⟩ K) k K;exact sQ ((M _).trans (if_pos rfl)) (FR.Ip K.kp (λb o e q=>⟨s n b o q e,q⟩) r) u X.1 (λp P ne=>(M _).trans (if_neg λq=>ne (H9 (X.2 p P) N q))) λp P ne x r=>FR.Ip K.kp (λb o e q=>⟨s p.1 b o q e,q⟩) r
theorem EO(H:au w os F fn e):bZ w os F fn (.lh i n e):=λc z x N T Y X Q R o u h K KX=>
 plainObj_wpAny_Assign_Attribute (I1 H (aR (aR o)) u h KX λr Z v h' J O=>by
  have done:∀(k':FK)(I:dw w os c),I.s=Z.s→I.ρ=Z.ρ→Le Z.toZt I.toZt→rA Z.ρ i n k' N→FR w I.s.heap I.W (10+i) n k' v→wpAny (model PP w) c.A (eval (vX (kd (st x) 0)) c.env) (λV S=>wpAny (model PP w) c.A (setAttr V (an n) v) (λ_=>Q .next) R S) R Z.s:=λk' I g f k2 h fr=>
   g▸mH (aL (aR o)) (f.symm▸h) fr λA k G=>K.nx A k ((J.fi.trans k2.fi).trans G.fi)
  cases r with
  |j M=>exact done (.j M) Z rfl rfl .refl h' O
  |U l=>
   have E:KE Z.s.heap Z.W Z.s.heap (λb=>yd (2,0) (10+i,n+1) (Z.W b)):=KE.yd q6 qV (by decide);refine done (.U l) (Z.ke ⟨Z.ρ,Z.s,_,Z.S.gens,Z.S.os,Z.S.H.BO E λj _ b o e l=>⟨e,?_⟩⟩ E) rfl rfl E h' ?_
   ·exact(oR λq=>absurd ((congrArg Prod.fst q).symm.trans l) (ne_of_lt (Nat.lt_of_lt_of_le (by decide) (le_add_right 10 j)))).trans (Prod.ext l rfl)
   ·cases O with
    |mk t B C y=>exact .mk t (by rw[B,BE]:yd _ _ (Z.W _)=_) C (y.step E.kp)
  |oi c L=>exact done (.j (.dn c (Il L))) (Z.ke Z.toZt.Y KE.bo) rfl rfl KE.bo h' (a5.cC KE.bo.kp Fz.v8 O)) (bY (aL o))
theorem Fs:bZ w os F fn (.wN i n):=λc z x N C R X Q r o u h K KX=>
 plainObj_wpAny_Assign_Attribute (wpAny_Dict_empty (z.toZt.push {cls:=.type "dict",data:=.dict #[]} (10+i,n+1) λS E=>
  have B:=lt_size (z.S.H.obj (a:=913) (by decide) (by decide) (o:=Hd.ob 913 w.params) (by kernel_rfl) (by kernel_rfl))
  mH (z:=z.ke ⟨z.ρ,_,_,S⟩ E) o h (.mk ⟨DictOf.new _,beq_false_of_ne λq=>absurd B (by rw[q];decide)⟩ aJ .nil) λZ H k=>K.nx Z H (E.fi.trans k.fi))) (bY rfl)
end
section
variable{w:World}{os:OsState}{F:Nat→Spec}{fn:hM}
theorem dw.fY(z:dw w os c){t tk:Nat}{C:Prop}(ht:900≤t)(ks:KS t z.s.heap z.W h' z.W)(next:∀z':dw w os c,z'.s={z.s with heap:=h',toks:=tk}→z'.ρ=z.ρ→z'.W=z.W→C):C:=
 have P:=λi H=>(z.cz H).elim (λe=>xy e (by decide) ht) λe=>xy e (by decide) ht
 next ⟨⟨z.ρ,{z.s with heap:=h',toks:=tk},z.W,z.S.gens,z.S.os,z.S.H.qX ht (λi H o=>ks _ o (P i H)) ks⟩,z.cel,λv e=>have q:=z.zero v e;⟨q.1,eR q.2 λo E=>(ks _ o (P 0 q.1) E).1⟩,z.lm⟩ rfl rfl rfl
theorem HS(H:gQ w os F fn c)(hb:gw w os F fn b):bZ w os F fn (.tT c b):=λfr z x W T R X Q L o u h K KX=>
 h.elim λn N=>by
  generalize d:(λi ρ=>tr F c ρ (λt ρ=>match t with|true=>ex F b ρ i i R X|false=>W ρ) X)=f at N;refine wpAny_While (codeAny_whileLoop (λk s=>∃Z,Z.s=s∧q8 z Z∧iter f k Z.ρ) (λk s q=>q.elim λZ q=> ?_) n ⟨z,rfl,.refl,N⟩);obtain⟨e,k',I⟩:=q;subst e;cases k with
  |zero=>exact I.elim
  |succ k=>
   have B:=uP (M:=model PP w) (KX.after k');have I:=I;rw[←d]at I;refine H fr.toFr Z.toZt _ _ X _ _ (aL o) (mL u) I (λt y C S=> ?_) B.x;have Y:=k'.trans S.fi;cases t with
   |false=>exact wpAny_execs_nil (K.nx (Z.ke y S) C Y)
   |true=>
    have G:∀V:dw w os fr,iter f k V.ρ→KT y.s.heap y.W V.s.heap V.W→∃m,m<k+1∧∃Z:dw w os fr,Z.s=V.s∧q8 z Z∧iter f m Z.ρ:=λV j E=>⟨k,lt_succ_self _,V,rfl,Y.trans E,j⟩;rw[d]at C;exact hb fr (Z.ke y S) _ _ _ R X _ _ (aR o) (mR u) C ⟨G,G,λr V v j E O=>K.rt r V v j (Y.trans E) O⟩ (B.after S.fi)
theorem EC(h:aB y=true):foldedSetIterable y env v=pure v:=by
 cases y<;>first|rfl|cases h
inductive Mb{c:vh fn}(z:dw w os c)(I:Addr)(fp:List Addr)(Pp:Nat→Value→Prop)(Qs:Nat→Heap→Prop)(items:List V)(step:V→(R→Prop)→R→Prop)(nx:R→Prop)(tt kk:Nat)(s':Shared):Prop where
 |mk (j:Nat) (hj:j≤items.length) (ek:kk=items.length+1-j) (z':dw w os c) (e:z'.s=s') (le:q8 z z') (q:Qs j s'.heap) (wI:z'.W I=(tt,0)) (hfp:∀b∈fp,b=I∨(∃o,s'.heap.get? b=some o)∧(z'.W b).1=0)
  (hv:∀i x v,items[i]? =some x→Pp i v→VR w s'.heap z'.W x v) (fold:((items.drop j).foldr step nx) z'.ρ)
theorem EN(H:sU w os F fn I)(hb:gw w os F fn b):bZ w os F fn (.bU i I b):=λc z x N ct T X Q Er o C h K KX=>(lO z.s.heap z.W).elim λtt q=>by
 obtain⟨ht,n⟩:=q;have h9:900≤tt:=Nat.le_trans (by decide) ht;refine wpAny_For (H c.toFr z.toZt _ _ X _ Er tt (aL (aR (aR o))) (mL C) h (λitems y S a RC wI f RO=> ?_) KX.x) λx=>EC (aL (aR o));generalize RD:(λv RE ρ=>bH ρ i (.j v) λρ=>ex F b ρ RE RE T X)=step at a;cases RO with
 | @mk p Pp t Y RF q0 RP hv=>
 refine codeAny_forLoop_any (Mb z S p Pp t items step N tt) (λkk s' RQ=> ?_) (items.length+1) (.mk 0 (zero_le _) rfl (z.ke y RC) rfl RC.fi q0 wI RP hv a);cases RQ with
 |mk j hj ek Z e k' q' RG RH RI g=>
 subst e ek;have s:∀(U:Heap),(∀b o,b∉[S]→Z.s.heap.get? b=some o→U.get? b=some o)→KS tt Z.s.heap Z.W U Z.W:=λU kp b o l e=>⟨kp b o (λq=>absurd l (by rw[mem_singleton.mp q,RG];exact Nat.lt_irrefl _)) e,rfl⟩;rcases Nat.lt_or_ge j items.length with lt|ge
 ·rw[drop_eq_getElem_cons lt,foldr_cons,←RD]at g
  refine Y.item j Z.s _ _ lt q' λv U tk P A D=>Z.fY (tk:=tk) h9 (s U D) λz₁ E R W=>wpAny_pure (wpAny_assign_Name ?_);have s:=s U D;have RR:q8 z z₁:=by
   show KT _ _ z₁.s.heap z₁.W;rw[E,W];exact k'.gE n s
  have RJ:Kp Z.s.heap Z.W z₁.s.heap z₁.W:=by rw[E,W];exact s.kp h9
  refine E▸lL (aL o) (R.symm▸g) ((RI j _ v (List.getElem?_eq_getElem lt) P).step RJ) λB RK d=> ?_;rw[RD]at RK;have J:=RR.trans d;have L:∀{RL:dw w os c}{b},b=S→RL.W S=(tt,0)→yg (RL.W b).1:=λq e=>.inr (.inr (by rw[q,e];exact h9));have G:z₁.W S=(tt,0):=W▸RG;have A:t (j+1) z₁.s.heap:=E▸A;have RM:=Y.frame _ _ _ A λb hb o e=>(d.ex b o e ((RH b hb).elim (λy=>L y G) λy=>.inl (W▸y.2))).1;have u:=(RF _ _ A).elim λO f=>(d.ex S O f (L rfl G)).2.trans G;have RN:=RJ.trans d.kp;have z2:∀b∈p,b=S∨(∃o,B.s.heap.get? b=some o)∧(B.W b).1=0:=λb hb=>(RH b hb).imp id λy=>y.1.elim λo e=>have q:=RN b o e y.2;⟨⟨o,q.1⟩,q.2⟩;have next:∀V:dw w os c,((items.drop (j+1)).foldr step N) V.ρ→q8 B V→∃m,m<items.length+1-j∧Mb z S p Pp t items step N tt m V.s:=λV M k=>
   ⟨items.length+1-(j+1),Nat.sub_lt_sub_left (lt_succ_of_lt lt) (lt_succ_self j),.mk (j+1) lt rfl V rfl (J.trans k) (Y.frame _ _ _ RM λb hb o e=>(k.ex b o e ((z2 b hb).elim (λy=>L y u) λy=>.inl y.2)).1)
    ((RF _ _ RM).elim λO f=>(k.ex S O f (L rfl u)).2.trans u) (λb hb=>(z2 b hb).imp id λy=>y.1.elim λo e=>have q:=k.kp b o e y.2;⟨⟨o,q.1⟩,q.2⟩) (λi x v ei P=>(RI i x v ei P).step (RN.trans k.kp)) M⟩
  exact hb c B _ _ _ T X _ _ (aR (aR (aR o))) (mR C) RK ⟨next,next,λr V v M k RS=>K.rt r V v M (J.trans k) RS⟩ (uP (KX.after J))
 ·cases Nat.le_antisymm hj ge
  rw[drop_length,foldr_nil]at g;exact Y.done Z.s _ _ q' λU tk D=>Z.fY h9 (s U D) λz₁ E R W=>wpAny_execs_nil (E▸K.nx z₁ (R.symm▸g) (by
   show KT _ _ z₁.s.heap z₁.W;rw[E,W];exact k'.gE n (s U D)))
end
noncomputable def zM(t:Nat)(p:Nat×Nat):Nat×Nat:=if p.1=t then(10,p.2)else if p.1=0 then p else if p.1=1∨p.1=3 then(3,p.2)else(5,p.2)
noncomputable def ig(t L:Nat)(W:cw):cw:=λa=>if a<L then zM t (W a)else if a=L then(1,0)else(4,0)
noncomputable def GR(t:Nat)(p:Nat×Nat):Nat×Nat:=if p.1=10 then(t,p.2)else if p.1=2 then p else(0,0)
noncomputable def Gm(t:Nat)(h:Heap)(W W':cw):cw:=λa=>if(h.get? a).isSome=true∧(W a).1≠t then W a else GR t (W' a)
section
variable{t L:Nat}{W W':cw}{a:Addr}
theorem pF{C:Nat×Nat→Prop}(H:p.1≠t)(f:p.1=0→C p)(f1:p.1=1∨p.1=3→C (3,p.2))(O:p.1≠0→¬(p.1=1∨p.1=3)→C (5,p.2)):C (zM t p):=by
 delta zM;rw[if_neg H]
 by_cases F:p.1=0
 ·rw[if_pos F];exact f F
 ·rw[if_neg F]
  by_cases h1:p.1=1∨p.1=3
  ·rw[if_pos h1];exact f1 h1
  ·rw[if_neg h1];exact O F h1
theorem KZ(h:p.1=t):zM t p=(10,p.2):=if_pos h
theorem gP(h:a<L):ig t L W a=zM t (W a):=if_pos h
theorem pw:ig t L W L=(1,0):=(if_neg (Nat.lt_irrefl L)).trans (if_pos rfl)
theorem xH(h:L<a):ig t L W a=(4,0):=(if_neg (Nat.not_lt.mpr (Nat.le_of_lt h))).trans (if_neg (Nat.ne_of_gt h))
theorem HR(h:p.1=10):GR t p=(t,p.2):=if_pos h
theorem Li(h:p.1=2):GR t p=p:=by
 delta GR;rw[if_neg (by rw[h];decide),if_pos h]
theorem Ll(h:p.1=0):(GR t p).1=0:=by
 delta GR;rw[if_neg (by rw[h];decide),if_neg (by rw[h];decide)]
theorem nR(e:h.get? a=some o)(n:(W a).1≠t):Gm t h W W' a=W a:=if_pos ⟨by rw[e];rfl,n⟩
noncomputable def Call(t:Nat):Prop:=t=7∨10≤t∧t<810
theorem fv(H:Call t)(h:n<7∨900≤n):n≠t:=by
 unfold Call at H;exact zl 0x9a3fa10ee65f50e1a0769b0111828b123 rfl H h
end
section
variable{w:World}{os:OsState}{F:List Env}{h H h':Heap}{W W':cw}{t L:Nat}
theorem Cs(d:h.objs.size=L)(J:∀b o,h.get? b=some o→H.get? b=some o)(K:KT H (ig t L W) h' W'){C:Prop}(e:h.get? b=some o)(D:(W b).1≠t)
 (f:(W b).1=0→h'.get? b=some o→(W' b).1=0→C)(f1:(W b).1=1∨(W b).1=3→(∀m,h.Ns b m→h'.Ns b m)→(∃O,h'.get? b=some O)→(W' b).1=3→C)(g:(W b).1≠0→¬((W b).1=1∨(W b).1=3)→h'.get? b=some o→(W' b).1=5→C):C:=
 have k:=J b o e
 pF (C:=λp=>ig t L W b=p→C) D (λz q=>have y:=K.ex b o k (.inl ((congrArg Prod.fst q).trans z));f z y.1 ((congrArg Prod.fst (y.2.trans q)).trans z))
  (λz q=>have l:=congrArg Prod.fst q;have y:=K.sl b o k l;f1 z (λm q=>y.1 m (q.keeps J)) (K.there b o k l) (congrArg Prod.fst (y.2.trans q)))
  (λz Z q=>have y:=K.ex b o k (.inr (.inl (congrArg Prod.fst q)));g z Z y.1 (congrArg Prod.fst (y.2.trans q))) (gP (d▸Heap.lt_size e))
theorem gN(B:bA w F h W)(d:h.objs.size=L)(C:Call t)(p:∀b o,h.get? b=some o→H.get? b=some o)(K:KT H (ig t L W) h' W'):
 KC t h W h' (Gm t h W W')∧Kp h' W' h' (Gm t h W W')∧Mv h' W' 2 h' (Gm t h W W') 2∧Mv h' W' 10 h' (Gm t h W W') t:=by
 have new:∀b,(∀o,h.get? b=some o→(W b).1=t)→Gm t h W W' b=GR t (W' b):=λb n=>if_neg λq=>by
  obtain⟨o,e⟩:=Option.isSome_iff_exists.mp q.1;exact q.2 (n o e)
 have R:∀b n,(W' b).1=n→n≠0→n≠3→n≠5→Gm t h W W' b=GR t (W' b):=λb n l Y G Z=>new b λo e=>Classical.byContradiction λN=>
  Cs d p K e N (λ_ _ z=>Y (l.symm.trans z)) (λ_ _ _ z=>G (l.symm.trans z)) λ_ _ _ z=>Z (l.symm.trans z)
 have ex:∀b o,h.get? b=some o→(W b).1≠t→¬((W b).1=1∨(W b).1=3)→h'.get? b=some o∧Gm t h W W' b=W b:=λb o e N S=>Cs d p K e N (λ_ g _=>⟨g,nR e N⟩) (λl _ _ _=>absurd l S) λ_ _ g _=>⟨g,nR e N⟩;have c:∀{n},qC n→n≠t∧¬(n=1∨n=3):=λ{n}l=>⟨fv C (by unfold qC at l;exact zl 0x126f07f8d4e48081e03f27d7267a3 rfl l),by unfold qC at l;exact zl 0xf7488fff1253ce1ff27d7267a3 rfl l⟩;have s:∀{n},ve n→n≠t:=λ{n}l=>fv C (by unfold ve at l;exact zl 0x14a0d4074b94a50ecd3 rfl l);refine⟨⟨⟨λb o e l=>ex b o e (c l).1 (c l).2,λb o e l=>⟨?_,nR e (s l)⟩,λb o e l=> ?_,λV l e=> ?_⟩,λb o e X U=>ex b o e U λq=>q.elim (λq=>absurd (q▸X) (by decide)) λq=>absurd (q▸X) (by decide)⟩,λb o e l=>⟨e,?_⟩,λb o e l=>⟨e,?_⟩,λb o e l=>⟨e,?_⟩⟩
 ·exact Cs d p K e (s l) (λz=>absurd (z▸l) (by unfold ve;decide)) (λ_ n _ _=>n) λ_ S=>absurd l S
 ·exact Cs d p K e (s l) (λz=>absurd (z▸l) (by unfold ve;decide)) (λ_ _ n _=>n) λ_ S=>absurd l S
 ·have q:=ex 910 _ e (fv C (.inl (l▸by decide))) (l▸by decide)
  exact⟨q.2,#[],by simpa using q.1⟩
 ·by_cases q:∃O,h.get? b=some O∧(W b).1≠t
  ·obtain⟨O,E,n⟩:=q
   rw[nR E n];exact Cs d p K E n (λz _ _=>z) (λ_ _ _ z=>nomatch l.symm.trans z) λ_ _ _ z=>nomatch l.symm.trans z
  ·rw[new b λO E=>Classical.byContradiction λn=>q ⟨O,E,n⟩];exact Ll l
 ·exact(R b 2 l (by decide) (by decide) (by decide)).trans ((Li l).trans (Prod.ext l rfl))
 ·exact(R b 10 l (by decide) (by decide) (by decide)).trans (HR l)
theorem XT.Qy{s RD RE:Shared}{a:Addr}{m:Str}(B:bA w F s.heap W)(hL:s.heap.objs.size=L)(ht:Call t)(RC:∀b o,s.heap.get? b=some o→RD.heap.get? b=some o):XT os (env::F) RD.heap (ig t L W) a m RE→XS os F s.heap W a m RE
|.mk g o k f n tb=>.mk g o (KE.self (gN B hL ht RC k).1.1) (by cases f with|mk g1 g2 g3 g4 c4 g5 g6 g7 g8=>exact .mk g1 g2 g3 g4 c4 g5 g6 g7 λe he=>g8 e (.tail _ he))
 (λb ob e l=>n b ob (RC b ob e) (by
  rw[gP (hL▸lt_size e)];exact pF (C:=λp=>yg p.1∨EU p.1) (fv ht (by unfold qC ve at l;exact zl 0x41e4006ee0804809e4d4ffc44f6b63ea741d rfl l)) (λz=>.inl (.inl z)) (λ_=>.inr rfl) λ_ _=>.inl (.inr (.inl rfl))))
 λl vs e=>n 910 _ (RC _ _ e) (by
  rw[gP (hL▸lt_size e)];exact pF (C:=λp=>yg p.1∨EU p.1) (fv ht (.inl (l▸by decide))) (λz=>.inl (.inl z)) (λ_=>.inr rfl) λ_ _=>.inl (.inr (.inl rfl)))
end
noncomputable def nc(env:Env)(sl:List Str)(i:Nat):fQ:=(sl[i]?).elim (.cell 910) λn=>if env.kindOf n=some .cell then .cell ((env.cells.lookup n).getD 910)else .ns env.locals n
structure Kj(cf:Cf)(sl:List Str)(sc:Scope):Prop where
 kind:sc.kind=.function
 Cb:sl.Nodup
 len:sl.length≤800
 d:∀n i,aQ n cf.nm=some i→sl[i]? =some n∧(n==("__debug__":Str))=false∧(n==("__classdict__":Str))=false∧(sc.names.lookup n=some .local∨(sc.names.lookup n=some .cell∧n∈cf.cl))
 cl:∀n∈cf.cl,sc.names.lookup n=some .cell
 gl:∀n∈cf.gs,sc.names.lookup n=some .globalImplicit∧(n==("__debug__":Str))=false
theorem y9{l:List Str}:∀{i j:Nat},l.Nodup→l[i]? =some x→l[j]? =some x→i=j:=by
 induction l with
 |nil=>exactλ_ h=>nomatch h
 |cons y l I=>
  intro i j N h1 h2;have N:=nodup_cons.mp N;cases i with
  |zero=>cases j with
   |zero=>rfl
   |succ j=>exact absurd (mem_of_getElem? (i:=j) h2) (Option.some.inj h1▸N.1)
  |succ i=>cases j with
   |zero=>exact absurd (mem_of_getElem? (i:=i) h1) (Option.some.inj h2▸N.1)
   |succ j=>exact congrArg _ (I N.2 h1 h2)
structure At(fd:FuncData)(L:Addr):Prop where
 DO:910<L
 apart:(cellsFrom (L+1) fd.scope.names []).Pairwise λx y=>x.2≠y.2
 above:∀n c,(n,c)∈cellsFrom (L+1) fd.scope.names []→L<c
theorem iY{sc:Scope}(h:sc.names.lookup n=some .cell):∃c,(cellsFrom k sc.names []).lookup n=some c:=
 (jF (mem_of_lookup h)).elim λ_ H=>Option.isSome_iff_exists.mp (oq H)
theorem fH(H:At d L)(h:sl[i]? =some n){C:Prop}(f:∀c,d.scope.names.lookup n=some .cell→(callEnvC d L a).cells.lookup n=some c→(n,c)∈cellsFrom (L+1) d.scope.names []→nc (callEnvC d L a) sl i=.cell c→L<c→C)
 (fn:d.scope.names.lookup n≠some .cell→nc (callEnvC d L a) sl i=.ns L n→C):C:=by
 have e:nc (callEnvC d L a) sl i=if d.scope.names.lookup n=some .cell then .cell (((callEnvC d L a).cells.lookup n).getD 910)else .ns L n:=by
  delta nc;rw[h];rfl
 by_cases q:d.scope.names.lookup n=some .cell
 ·exact(iY q).elim λc O=>f c q O (mem_of_lookup O) (e.trans ((if_pos q).trans (congrArg (λo=>fQ.cell (Option.getD o 910)) O))) (H.above n c (mem_of_lookup O))
 ·exact fn q (e.trans (if_neg q))
theorem iW(h:sl[i]? =none):nc env sl i=.cell 910:=by
 delta nc;rw[h];rfl
theorem Gn(H:At d L)(h:sl[i]? =some n):nc (callEnvC d L a) sl i≠.cell 910:=fH H h (λc _ _ _ e l q=>absurd (fQ.cell.inj (e.symm.trans q)▸l) (Nat.not_lt.mpr (Nat.le_of_lt H.DO))) λ_ e q=>nomatch e.symm.trans q
theorem Jt(H:At d L)(S:Kj C sl d.scope)(g:d.globals=mainGlobals)(hb:d.builtins=builtinsNs):jw C (callEnvC d L a) (nc (callEnvC d L a) sl):=
 ⟨S.kind,g,hb,λn i h=>have v:=S.d n i h;⟨v.2.1,v.2.2.1,fH H v.1 (λc k O _ e _=>.inr ⟨.inl k,c,O,e⟩) λk e=>.inl ⟨v.2.2.2.elim id λq=>absurd q.1 k,e⟩⟩,
  λn N=>have k:=S.cl n N;(iY k).imp λc O=>⟨O,.inl k,λi I=>fH H (S.d n i I).1 (λX _ D _ e _=>e.trans (congrArg _ (Option.some.inj (D.symm.trans O)))) λk' _=>absurd k k'⟩,S.gl⟩
theorem Hh(H:At d L)(S:Kj C sl d.scope):∀n i,aQ n C.nm=some i→((callEnvC d L a).kindOf n=some .local∧nc (callEnvC d L a) sl i=.ns (callEnvC d L a).locals n)∨(n∈C.cl∧(callEnvC d L a).kindOf n=some .cell∧∃c,(callEnvC d L a).cells.lookup n=some c∧nc (callEnvC d L a) sl i=.cell c):=λn i h=>
 have v:=S.d n i h
 fH H v.1 (λc k O _ e _=>.inr ⟨v.2.2.2.elim (λq=>nomatch k.symm.trans q) λq=>q.2,k,c,O,e⟩) λk e=>.inl ⟨v.2.2.2.elim id λq=>absurd q.1 k,e⟩
theorem Ef(H:At d L):∀i,nc (callEnvC d L a) sl i≠.cell 910→(∃n,nc (callEnvC d L a) sl i=.ns (callEnvC d L a).locals n)∨∃c,nc (callEnvC d L a) sl i=.cell c:=λi h=>by
 cases e:sl[i]? with
 |none=>exact absurd (iW e) h
 |some n=>exact fH H e (λc _ _ _ e _=>.inr ⟨c,e⟩) λ_ e=>.inl ⟨n,e⟩
theorem FG(H:At d L)(D:sl.Nodup):∀i j,nc (callEnvC d L a) sl i=nc (callEnvC d L a) sl j→nc (callEnvC d L a) sl i≠.cell 910→i=j:=λi j h N=>by
 cases e:sl[i]? with
 |none=>exact absurd (iW e) N
 |some n=>
  cases E:sl[j]? with
  |none=>exact absurd (h.trans (iW E)) N
  |some Y=>
   have:=fH H e
    (λc k O m q _=>fH H E (λC k' S m' Q _=>name_of_addr H.apart m (fQ.cell.inj (q.symm.trans (h.trans Q))▸m')) λ_ Q=>nomatch q.symm.trans (h.trans Q))
    λk q=>fH H E (λC k' S m' Q _=>nomatch q.symm.trans (h.trans Q)) λ_ Q=>(fQ.ns.inj (q.symm.trans (h.trans Q))).2
   exact y9 D e (this▸E)
theorem CY{n i:Nat}{S:Mine.Internal.S}(e:(MP m n)[i]? =some S):∃v,S=.j v∧(m++replicate n V.none)[i]? =some v:=by
 delta MP at e;rw[getElem?_map]at e;exact(Option.map_eq_some_iff.mp e).imp λv q=>⟨q.2.symm,q.1⟩
theorem Bw(r:cW w h W v xs)(n):cW w h W (v++replicate n V.none) (xs++replicate n Value.none):=
 cM.append r (Nat.rec .nil (λ_=>.cons .none) n)
theorem Ah(r:qx w h W t args xs){C:Prop}(f:∀n,(xs++List.replicate n Value.none).length=args.length→
 (∀(i:Nat)S,args[i]? =some S→∃v,(xs++List.replicate n Value.none)[i]? =some v∧a5 w h W t S v∧(i=0∨∃j,S=.j j))→C):C:=by
 cases r with
 | @all V xs n rv=>
  have R:=Bw rv n;exact f n (R.length.symm.trans (length_map (f:=Mine.Internal.S.j)).symm) λi S e=>(CY e).elim λv q=>(R.get q.2).imp λx y=>⟨y.1,q.1▸y.2,.inr ⟨v,q.1⟩⟩
 | @hd a x V xs n na o rv=>
  have R:=Bw rv n;refine f n (congrArg (·+1) (R.length.symm.trans (length_map (f:=Mine.Internal.S.j)).symm)) λi S e=> ?_;cases i with
  |zero=>cases e;exact⟨x,rfl,o,.inl rfl⟩
  |succ i=>exact(CY e).elim λv q=>(R.get q.2).imp λx y=>⟨y.1,q.1▸y.2,.inr ⟨v,q.1⟩⟩
theorem uf(h:pQ args xs=some x):0<args.length∧∃Y,xs=x::Y:=by
 cases args with
 |nil=>exact fN h
 |cons a as=>
  cases xs with
  |nil=>cases a<;>exact fN h
  |cons y Y=>cases a<;>first|exact⟨succ_pos _,Y,congrArg (·::Y) (Option.some.inj h)⟩|exact fN h
noncomputable abbrev Az{C}{d}{L a}{sl}(H:At d L)(S:Kj C sl d.scope)(g:d.globals=mainGlobals)(hb:d.builtins=builtinsNs)(f)(A)(u)(O:DH A (callEnvC d L a::f) C.lv u)(p:C.lv≤fn.top)(z:Option Value)(D:z=none∨C.F2=true)
 (lm:C.lm=true→d.code=.ref 912∧(d.qualname++(".<locals>.":Str))++("<lambda>":Str)=kj):vh fn:=
 ⟨⟨C,callEnvC d L a,callEnvC d L a::f,nc (callEnvC d L a) sl,A,u,Jt H S g hb,O,p⟩,z,f,D,rfl,rfl,Hh H S,Ef H,FG H S.Cb,lm⟩
theorem Mi(H:Call t)(l:p.1=0):(zM t p).1=0:=pF (C:=λp=>p.1=0) (fv H (.inl (l▸by decide))) id (λq=>absurd (l▸q) (by decide)) λq=>absurd l q
theorem JJ(H:Call t)(l:p.1=1∨p.1=3):(zM t p).1=3:=pF (C:=λp=>p.1=3) (fv H (.inl (l.elim (λq=>q▸by decide) λq=>q▸by decide))) (λq=>absurd l (q▸by decide)) (λ_=>rfl) λ_ q=>absurd l q
theorem yA(H:Call t)(l:p.1=0∨p.1=4∨p.1=5):(zM t p).1=0∨(zM t p).1=5:=pF (C:=λp=>p.1=0∨p.1=5) (fv H (.inl (l.elim (λq=>q▸by decide) λq=>q.elim (λq=>q▸by decide) λq=>q▸by decide))) .inl (λq=>absurd q (l.elim (λq=>q▸by decide) λq=>q.elim (λq=>q▸by decide) λq=>q▸by decide)) λ_ _=>.inr rfl
theorem Nn{t L:Nat}{p:fQ}(h:(∃c,p=.cell c∧L<c)∨p=.ns L n):qA p (ig t L W p.I).1:=h.elim (λh=>h.elim λc q=>by
 rw[q.1];show qA _ (ig t L W c).1;rw[xH q.2];exact .inl (.inr (.inl rfl))) λq=>by
 rw[q];show qA _ (ig t L W L).1;rw[pw];exact .inr ⟨rfl,L,n,rfl⟩
theorem GP{os:OsState}{L:Addr}{sl:List Str}{s j:Shared}{args:List Mine.Internal.S}{vals:List Value}{mL:Str→Option Value}(B:bA w f s.heap W)(g:s.gens= #[])(o:s.os=os)(Q:s.heap.objs.size=L)(H:Call t)(X:InCall s L mL j)(k:env.scope.kind≠.module)(d:env.frame=some L)
 (u:args.length≤sl.length)(h8:sl.length≤800)(M:∀(i:Nat)S,args[i]? =some S→∃v,vals[i]? =some v∧a5 w s.heap W t S v∧(i=0∨∃J,S=.j J))
 (C:∀i,sl[i]? =none→p i=.cell 910)(D:∀(i:Nat)n,sl[i]? =some n→p i≠.cell 910∧((∃c,p i=.cell c∧L<c)∨p i=.ns L n)∧∃x,(p i).At j.heap x∧∀v,vals[i]? =some v→x=some v):
 St w os (env::f) p (args++List.replicate (sl.length-args.length) .y) j (ig t L W):=by
 have E:∀{b o},s.heap.get? b=some o→ig t L W b=zM t (W b):=λe=>gP (Q▸Heap.lt_size e);have K:Kp s.heap W j.heap (ig t L W):=λb o e l=>⟨X.keep b o e,E e▸Mi H l⟩;have P:Mv s.heap W t j.heap (ig t L W) 10:=λb o e l=>⟨X.keep b o e,(E e).trans (KZ l)⟩;have len:(args++List.replicate (sl.length-args.length) Mine.Internal.S.y).length=sl.length:=by rw[List.length_append,List.length_replicate];exact Nat.add_sub_cancel' u
 have V:=X.same.elim λh q=>q.elim λtk es=>(⟨es▸g,es▸o⟩:j.gens= #[]∧j.os=os);refine⟨V.1,V.2,λb ob e n=>have z:=B.base b ob e n;K b ob z.1 z.2,.inl ⟨B.jd.2.elim λY e=>E e▸yA H B.jd.1,B.jd.2.imp λY e=>X.keep _ _ e⟩,len.symm▸h8,
  λi=>len.symm▸⟨λI=>(D i _ (List.getElem?_eq_getElem I)).1,λq=>Nat.lt_of_not_le λI=>q (C i (List.getElem?_eq_none I))⟩,λi T e=> ?_,λi I=>Nn (D i _ (List.getElem?_eq_getElem (len▸I))).2.1,λF Z=> ?_,_,f,L,mL,rfl,d,X.ns,congrArg Prod.fst pw⟩
 ·refine(D i _ (List.getElem?_eq_getElem (len▸(List.getElem?_eq_some_iff.mp e).1))).2.2.imp λx q=>⟨q.1,?_⟩
  rcases Nat.lt_or_ge i args.length with I|I
  ·rw[List.getElem?_append_left I]at e
   exact(M i T e).elim λv y=>.inr ⟨v,q.2 v y.1,y.2.2.elim (λz=>by subst z;exact y.2.1.cY K P) λz=>z.elim λJ z=>by
    have r:=y.2.1;subst z;exact VR.step K r⟩
  ·rw[List.getElem?_append_right I]at e
   exact .inl (List.eq_of_mem_replicate (List.mem_of_getElem? e))
 ·rcases List.mem_cons.mp Z with rfl|Z
  ·exact⟨k,L,mL,d,X.ns,.inl (congrArg Prod.fst pw)⟩
  ·have y:=B.frames F Z
   exact⟨y.1,y.2.imp λN y=>y.imp λm y=>⟨y.1,y.2.1.keeps X.keep,.inr (y.2.1.elim λob q=>q.elim λ_ q=>q.elim λ_ q=>E q.1▸JJ H y.2.2)⟩⟩
noncomputable def MW(P:Params):List DictEntry:=Dv ((Hd.bD P).get 2)
noncomputable def Rz(P:Params):Obj:=((Hd.bD P).get 2).getD default
theorem IW(P):(Hd.bD P).get 2=some {Rz P with data:=.dict (MW P).toArray (Hx ((Hd.bD P).get 2))}:=by kernel_rfl
theorem xR(P):u7 (MW P)=true:=by kernel_rfl
theorem HI(P):aY (ofString "sys.recursionlimit") (MW P)=none:=by kernel_rfl
structure AM(w:World)(fn:hM)(f:Nat)(ps sl:List Str)(cf:Cf)(fd:FuncData)(body:List Stmt):Prop where
 obj:∃o,(Hd.bD w.params).get (fn.g f).I=some o∧alive o=some o∧(fn.g f).I<914∧(fn.g f).I≠910∧o.data=.func fd
 body:fd.body=.stmts body
 Ij:fd.closure=[]
 LP:fd.code≠.ref 912
 lm:cf.lm=false
 QR:fd.globals=mainGlobals
 blt:fd.builtins=builtinsNs
 co:fd.scope.isCoroutine=false
 KG:fd.scope.isGenerator=false
 sc:Kj cf sl fd.scope
 code:∃c oc vs tk,fd.code=.ref c∧(Hd.bD w.params).get c=some oc∧alive oc=some oc∧c<914∧c≠910∧oc.data=.fields vs∧vs[1]? =some (.str fd.qualname tk)
 Rx:ps.Nodup
 pre:∀(i:Nat)n,ps[i]? =some n→sl[i]? =some n
 len:ps.length≤sl.length
 HV:∀n∈ps,fd.scope.names.lookup n=some .local∨fd.scope.names.lookup n=some .cell
 bind:∀(s:Shared)(fs:List Env)(W:cw)(xs:List Value)(n:Nat),bA w fs s.heap W→(fn.g f).sf≤xs.length→xs.length+n=ps.length→BindsTo s fd ⟨xs,[]⟩ (ps.zip (xs++List.replicate n .none))
section
variable{w:World}{os:OsState}{F:Nat→Spec}{fn G:hM}
theorem bA.obj(B:bA w fs h W){a:Addr}(ha:a<914)(n:a≠910)(g:(Hd.bD w.params).get a=some o)(al:alive o=some o):h.get? a=some o:=(B.base a o (l8 ha g al) n).1
theorem bA.lG(B:bA w fs h W):h.NoLimit:=
 ⟨λn=>aY n (MW w.params),⟨_,_,_,B.obj (by decide) (by decide) (IW w.params) rfl,rfl,cG (xR _),λn=>iT (cG (xR _))⟩,HI _⟩
theorem rn:∀{m},(∀v,(n,v)∉l)→bindL k l m n=m n∧bindC k l m n=m n:=by
 induction l with
 |nil=>exactλ_=>⟨rfl,rfl⟩
 |cons p l I=>
  intro m h;have ne:n≠p.1:=λe=>h p.2 (e▸.head _);have H:=λv V=>h v (.tail _ V);show bindL k l (if k p.1=some .local thenλy=>if y=p.1 then some p.2 else m y else m) n=_∧bindC k l (if k p.1=some .local then m elseλy=>if y=p.1 then some p.2 else m y) n=_
  by_cases q:k p.1=some .local
  ·rw[if_pos q,if_pos q];exact⟨(I H).1.trans (if_neg ne),(I H).2⟩
  ·rw[if_neg q,if_neg q];exact⟨(I H).1,(I H).2.trans (if_neg ne)⟩
theorem iZ:∀{m m'},(l.map (·.1)).Nodup→(n,v)∈l→(k n=some .local→bindL k l m n=some v)∧(k n≠some .local→bindC k l m' n=some v):=by
 induction l with
 |nil=>exactλ_ h=>nomatch h
 |cons p l I=>
  intro m m' N h;have N:=nodup_cons.mp N;rcases mem_cons.mp h with e|h
  ·have E:=congrArg Prod.fst e
   have H:∀v,(n,v)∉l:=λv V=>N.1 (mem_map.mpr ⟨_,V,E⟩);have ev:=congrArg (λp=>some p.2) e;exact⟨λq=>(rn H).1.trans ((congrFun (if_pos (E▸q)) n).trans ((if_pos E).trans ev.symm)),λq=>(rn H).2.trans ((congrFun (if_neg (E▸q)) n).trans ((if_pos E).trans ev.symm))⟩
  ·exact⟨λq=>(I (m':=m') N.2 h).1 q,λq=>(I (m:=m) N.2 h).2 q⟩
theorem ER{Y U:Type}{a:Y}{b:U}{l:List Y}:∀{m}{i:Nat},l[i]? =some a→m[i]? =some b→(a,b)∈l.zip m:=by
 induction l with
 |nil=>exactλh=>nomatch h
 |cons x l I=>
  intro m i h1 h2;cases m with
  |nil=>cases h2
  |cons y m=>cases i with
   |zero=>cases h1;cases h2;exact .head _
   |succ i=>exact .tail _ (I h1 h2)
theorem pA{as:List V}:∀{ρ},bf (as.map Mine.Internal.S.j) ρ=[]:=by
 induction as with
 |nil=>intro ρ;cases ρ<;>rfl
 |cons v as I=>intro ρ;cases ρ with
  |nil=>rfl
  |cons S ρ=>exact I
theorem EY(r:qx w h W t args xs)(z:∀x,pQ args xs=some x→∀S,ρ'[0]? =some S→S=.y∨a5 w h' W' 10 S x)(p:Kp h' W' h' C)(M:Mv h' W' 10 h' C t):ly w h' C t (bf args ρ') xs:=by
 have wd:∀{S T x xs},S=.y∨a5 w h' W' 10 S x→T=[]→ly w h' C t (S::T) (x::xs):=λr e=>e▸.wd (r.elim (λe=>e▸trivial) λr=>r.cY p M);cases r with
 |all _=>exact pA▸.no
 | @hd a x V xs n na R rv=>
  cases ρ' with
  |nil=>cases a<;>exact .no
  |cons S ρ=>cases a<;>first|exact wd (z x rfl S rfl) pA|exact(pA)▸ly.no
theorem Cg(C:gw w os O fn b){c:vh fn}{z:dw w os c}(U:An fn.g b c.cf body=true)(L:jY b≤c.u){s:Shared}{K:Rv→List Mine.Internal.S→Prop}{R:Result→Shared→Prop}
 (B:bA w j s.heap W)(H:Call t)(p:∀b o,s.heap.get? b=some o→z.s.heap.get? b=some o)(D:z.W=ig t s.heap.objs.size W)(J:c.fs=c.env::j)(M:c.z=pQ args xs)(Y:qx w s.heap W t args xs)
 (g:ex O b z.ρ (λρ=>K (.j .none) (bf args ρ)) (λ_=>False) (λr ρ=>K r (bf args ρ)) X)(I:∀r ss d W' v,K r ss→d.gens= #[]→d.os=os→KC t s.heap W d.heap W'→a5 w d.heap W' 2 r.s v→ly w d.heap W' t ss xs→R (.ok (.ret v)) d)
 (KX:∀m a d,X m→XS os j s.heap W a m d→R (.error (.ref a)) d):wpAny (model PP w) c.A (execs (uH fn.g b body) c.env) (λf d=>R (.ok (.ret (match f with|.ret v=>v|_=>.none))) d) (λe d=>wpAny (model PP w) c.A (leaving c.env e) (λ_ Q=>R (.error e) Q) (λi Q=>R (.error i) Q) d) z.s:=
 have a9:∀r(Z:dw w os c)v,K r (bf args Z.ρ)→q8 z Z→a5 w Z.s.heap Z.W 2 r.s v→R (.ok (.ret v)) Z.s:=λr Z v h k o=>
  have q:=gN B rfl H p (D▸k:KT z.s.heap (ig t s.heap.objs.size W) Z.s.heap Z.W)
  I r _ Z.s _ v h Z.S.gens Z.S.os q.1 (o.cY q.2.1 q.2.2.1) (EY Y (λx e S T=>(Z.S.H.slots 0 S T).elim λy P=>P.2.imp id λu=>u.elim λN u=>Option.some.inj (((Z.zero x (M.trans e)).2.qE P.1).trans u.1)▸u.2) q.2.1 q.2.2.2)
 C c z body _ _ _ X _ _ U L g ⟨λZ h k=>a9 _ Z _ h k .none,λ_ h=>h.elim,a9⟩ λm a l V A=>vg (E:=λe s=>R (.error e) s) z.S.H c.hd c.hA.frames c.fr V A λm a d V x=>KX m a d V (XT.Qy (env:=c.env) B rfl H p (by rw[←J,←D];exact x))
theorem Bf{p:Nat→fQ}{sl:List Str}{L:Addr}{P:Nat→Prop}(j:∀(i:Nat)n,sl[i]? =some n→p i≠.cell 910∧((∃c,p i=.cell c∧L<c)∨p i=.ns L n)∧P i){i:Nat}{c:Addr}(H:i<sl.length)(e:p i=.cell c):(ig t L W c).1=4:=
 (j i _ (getElem?_eq_getElem H)).2.1.elim (λh=>h.elim λC q=>fQ.cell.inj (q.1.symm.trans e)▸congrArg Prod.fst (xH q.2)) λq=>nomatch q.symm.trans e
theorem vq(Y:AM w fn f ps sl C d (uH G.g b body))(O:An G.g b C body=true)(H:C.lv=f)(p:C.lv≤G.top)(U:jY b≤u)(I:u≤40)
 (M:∀args K X,F f args K X→args.length=ps.length∧(C.F2=false→∀xs,pQ args xs=none)∧wb Q sl.length b args K X)(j:gw w os Q G b):xc w os F fn f:=λS A s W t args xs K X R Z RD T g o B a RE KR KX=>Ah a λn L V=>by
 obtain⟨N,RF,hw⟩:=M args K X RE;obtain⟨ob,g1,g2,g3,g4,g5⟩:=Y.obj;obtain⟨c,oc,RG,tk,c1,c2,c3,c4,c5,c6,c7⟩:=Y.code;refine codeAny_call_function (Nat.lt_trans (Nat.lt_of_le_of_lt (Nat.le_trans (Nat.le_add_right _ _) (Nat.le_add_right _ 2)) Z.depth) (by decide)) (B.obj g3 g4 g1 g2) g5 Y.co Y.KG Y.body ⟨c,oc,RG,tk,c1,B.obj c4 c5 c2 c3,c6,c7⟩ (Y.bind s S W xs n B RD (by rw[←N,←L,List.length_append,length_replicate]) _ _ _ _ ?_);rw[Y.Ij];have r:∀x,pQ args xs=some x→(xs++List.replicate n Value.none)[0]? =some x:=λx e=>(uf e).2.elim λys q=>by rw[q];rfl
 generalize xs++replicate n Value.none=vals at L V r;refine wpAny_newFunctionEnv_cells Y.sc.kind (λx hx=>(Y.HV x.1 (of_mem_zip hx).1).imp id λq=>⟨q,(iY q).elim λc P=>by rw[P];rfl⟩) λenv he RC x=> ?_;subst he;refine⟨B.lG.keeps x.toInCall.keep,codeAny_func ?_⟩;have D:At d s.heap.objs.size:=⟨B.jd.2.elim λvs e=>Heap.lt_size e,x.apart,x.above⟩;have nd:=(map_fst_zip (Nat.le_of_eq (N.symm.trans L.symm))).symm▸Y.Rx;have E:∀{i:Nat}{n v},sl[i]? =some n→vals[i]? =some v→(n,v)∈ps.zip vals:=λ{i n v}h1 h2=>by
  have e:=getElem?_eq_getElem (N▸L▸(List.getElem?_eq_some_iff.mp h2).1);exact ER (e.trans ((Y.pre i _ e).symm.trans h1)) h2
 have J:∀(i:Nat)n,sl[i]? =some n→nc (callEnvC d s.heap.objs.size (fn.g f).I) sl i≠.cell 910∧((∃c,nc (callEnvC d s.heap.objs.size (fn.g f).I) sl i=.cell c∧s.heap.objs.size<c)∨nc (callEnvC d s.heap.objs.size (fn.g f).I) sl i=.ns s.heap.objs.size n)∧∃x,(nc (callEnvC d s.heap.objs.size (fn.g f).I) sl i).At RC.heap x∧∀v,vals[i]? =some v→x=some v:=λi n h=>
  ⟨Gn D h,fH D h (λc k P _ e l=>⟨.inl ⟨c,e,l⟩,_,by rw[e];exact x.cell n c P,λv V=>(iZ (m:=λ_=>none) nd (E h V)).2 λq=>nomatch k.symm.trans (q:d.scope.names.lookup n=some .local)⟩)
   λk e=>⟨.inr e,_,by rw[e];exact⟨_,x.toInCall.ns,rfl⟩,λv V=>(iZ (m':=λ_=>none) nd (E h V)).1 ((Y.HV n (of_mem_zip (E h V)).1).resolve_right k)⟩⟩
 have le:=N▸Y.len;have ln:(args++replicate (sl.length-args.length) Mine.Internal.S.y).length=sl.length:=by rw[List.length_append,length_replicate];exact Nat.add_sub_cancel' le
 have RH:=GP B g o rfl T x.toInCall (by rw[show(callEnvC d s.heap.objs.size (fn.g f).I).scope=d.scope from rfl,Y.sc.kind];decide) rfl le Y.sc.len V (λi=>iW) J;have RI:DH (A.deeper (callEnvC d s.heap.objs.size (fn.g f).I)) (callEnvC d s.heap.objs.size (fn.g f).I::S) C.lv u:=
  ⟨by show A.frames.map _=_;rw[Z.frames];rfl,Z.handled,by have:=Z.depth;rw[H];exact zl 0x194505187624377c5ff10c7afcb rfl this,by have:=Z.units;rw[H];exact zl 0x216e84084a54a0fe240ffce502f38030957f3d45d2e7d01d5f rfl I this⟩
 exact Cg j (c:=Az D Y.sc Y.QR Y.blt S _ u RI p (pQ args xs) (by cases q:C.F2 with|true=>exact .inr rfl|false=>exact .inl (RF q xs)) λq=>nomatch Y.lm.symm.trans q)
  (z:=⟨⟨_,RC,_,RH⟩,λi c hi e=>Bf J (ln▸hi) e,λv e=>have h0:=Nat.lt_of_lt_of_le (uf e).1 le;⟨ln.symm▸h0,(J 0 _ (List.getElem?_eq_getElem h0)).2.2.elim λy q=>q.2 v (r v e)▸q.1⟩,λq=>absurd q Y.LP⟩) O U B T x.toInCall.keep rfl rfl rfl a hw KR KX
end
section
variable{w:World}{A:Around}{R:Result→Shared→Prop}{h:Heap}{g:Array GenState}{d:Drawn}{t:Nat}{os:OsState}{M:Model}{E:Value→Shared→Prop}
variable{nm q:Str}{C N:Addr}{bs bm P:List Value}{hdct:Bool}{sn:List Str}{sub:List Value}{ab:Bool}{col:Option Bool}{dd:Option Addr}{k0 k1 k2 k3 k5:Option Value}{B newId I:String}
theorem Ki(F:ExcBaseFacts B newId I P)(T:OwnTail h P bm)(H:h.get? C=some (excClassObj nm q C N bs bm hdct sn sub ab col dd k0 k1 k2 k3 k5 newId))
 (Q:∀h' e,Heap.MadeExcOf h h' e (.ref C) m→R (.ok (.ret (.ref e))) ⟨h',g,d,t,os⟩)(D:m.length≤sizeLine):
 codeAny (model PP w) A (.builtin newId ⟨.ref C::m,[]⟩) R ⟨h,g,d,t,os⟩:=
 codeAny_exc_new_subT F T H (Q _ _ ⟨λb o e=>get?_push_of_some _ (get?_push_of_some _ e),get?_none_of_le (le_succ _),h.objs.size,get?_push_at (size_push ..).symm rfl,get?_none_of_le (Nat.le_refl _),get?_push_of_some _ (get?_push_at rfl rfl)⟩) D
theorem IQ(F:ExcBaseFacts B newId I P)(T:OwnTail h P bm){K:Frag}(X:K.In h)
 (H:h.get? C=some (excClassObj nm q C N bs bm hdct sn sub ab col dd k0 k1 k2 k3 k5 newId))(i:findIn K (.ref C) "__init__"=some (some (.ref f)))(j:typeIn K (.ref f)=some (.type "function"))
 (O:∀h' e,Heap.MadeExcOf h h' e (.ref C) m→
  wpAny (model PP w) (A.under (.builtin "type.__call__" ⟨.ref C::m,[]⟩)) (call (.ref f) (.ref e::m)) (λr Y=>r=.none∧Q (.ref e) Y) E ⟨h',g,d,t,os⟩)(D:m.length≤sizeLine):
 codeAny (model PP w) A (.call (.ref C) ⟨m,[]⟩) (CP Q E) ⟨h,g,d,t,os⟩:=by
 have f1:=tc_lookup;have p:=tc_bind (.ref C);have z:(⟨h,g,d,t,os⟩:Shared).TypeIs (.ref C) "type":=⟨_,H,rfl⟩;apply codeAny_of_tree;repeat(any_goals(first|assumption|with_reducible refine wpAny_loadPart_at H ?_|wp_step))
 refine⟨rfl,?_⟩;refine codeAny_call_builtin_at (Code.quiet_builtin _ (by decide+kernel)) entry_typeCall (wpAny_check_type_call_sub H ?_);repeat(first|with_reducible refine wpAny_loadPart_at H ?_|with_reducible refine wpAny_madeBy_exc H ?_|wp_step)
 refine codeAny_call_builtin_code (Code.quiet_builtin _ F.quiet) (wpAny_check_new_subT F T H ?_);refine Ki F T H (λW e S=> ?_) D;obtain⟨_,Z,_⟩:=id S.there;have k2:=S.keeps;have L:(Value.ref C::bm).contains (.ref C)=true:=by simp
 have u:Looks (model PP w) W (typeOf (.ref e)) (.ref C):=(Looks.ld Z).andThen .now;have V:Looks (model PP w) W (isSubtype (.ref C) (.ref C)) true:=λA Q E s k q=>by
  obtain⟨l,g,d,tk,os⟩:=s;apply wpAny_isSubtype_exc (k _ _ (k2 _ _ H));rw[L];exact q
 have G:=(looks_findIn (M:=model PP w) X i).keeps k2;have b1:=(bind_fn (M:=model PP w) X (.ref e) j).keeps k2;have J:Looks (model PP w) W (isInstance (.ref e) (.ref C)) true:=u.andThen V;refine wpAny_bind (J.at ?_);rw[if_neg (by decide)];delta callSpecial? specialOf;refine wpAny_bind (wpAny_holding (wpAny_bind (wpAny_bind (u.at (G.at (wpAny_holding (wpAny_bind (b1.at ?_))))))));refine(wpAny_bind (wpAny_mono (O _ e S) (λr Y y=> ?_) λ_ _ x=>x));obtain⟨rfl,U⟩:=y
 wp_walk
 exact U
end
noncomputable def vG(P:Params):Frag:=[(291,Hd.AP P),(290,Hd.LQ P),(271,Hd.Je [.ref 291] P),(270,Hd.EA P),(288,Hd.ob 288 P)]
theorem Hj(P):lX P (vG P):=⟨⟨rfl,rfl⟩,⟨by kernel_rfl,by kernel_rfl⟩,⟨rfl,rfl⟩,⟨by kernel_rfl,by kernel_rfl⟩,⟨rfl,rfl⟩,⟨by kernel_rfl,by kernel_rfl⟩,⟨rfl,rfl⟩,⟨by kernel_rfl,by kernel_rfl⟩,⟨rfl,rfl⟩,⟨by kernel_rfl,by kernel_rfl⟩,trivial⟩
theorem vc(P):findIn (vG P) (.ref 291) "__init__"=some (some (.ref 288))∧typeIn (vG P) (.ref 288)=some (.type "function"):=⟨by kernel_rfl,by kernel_rfl⟩
theorem HG(P):findIn (vG P) (.ref 291) "__setattr__"=some (some (.builtin "object.__setattr__"))∧takerIn (vG P) 291 (ofString "message")=some none:=⟨by kernel_rfl,by kernel_rfl⟩
theorem Ey(P):∃C,clsIn (vG P) 291=some C∧C.hasDict=true∧C.mro=[.ref 291,.ref 271,.type "Exception",.type "BaseException",.type "object"]:=⟨_,rfl,rfl,rfl⟩
theorem uM(P):findIn (vG P) (.ref 291) (ofString "message")=some none:=by kernel_rfl
theorem zD{E:Value→Shared→Prop}(X:(vG w.params).In s.heap)(I:InstAt s.heap a O 291 none)(hd:O.dict=none)(H:O.data=.fields Y)
 (h:∀h' tk,h'.get? a=some {O with dict:=some s.heap.objs.size}→(∃m t,h'.Ns s.heap.objs.size m∧m (Str.ofString "message")=some v∧t=())→(∀b o,b≠a→s.heap.get? b=some o→h'.get? b=some o)→Q () {s with heap:=h',toks:=tk}):
 wpAny (model PP w) A (setAttr (.ref a) (ofString "message") v) Q E s:=by
 apply set_plain X I (HG _).1;obtain⟨C,c,P,M⟩:=Ey w.params;have W:Looks (model PP w) s.heap (mroOf (.ref 291)) C.mro:=(looks_clsIn X c).andThen .now;have S:=PySem.F.store_object;refine codeAny_call_builtin S.slot.plain S.entry (@check_slot (model PP w) _ _ _ "object.__setattr__" "object" "__setattr__" (.ref a) [.str (ofString "message") s.toks,v] [] _ S.kind S.split (I.type.andThen (looks_mroIn X (by unfold mroIn;rw[c,Option.bind_some,if_neg (by rw[M];decide),M];rfl))) (S.args (.ref a) (.str (ofString "message") s.toks) v) ?_);rw[osa_eq,refuse_eq];refine wpAny_bind (wpAny_bind (I.type.at (wpAny_bind (W.at ?_))));rw[M,refuseLoop_ref,refuseLoop_ref,PySem.F.store_Exception.passes];refine wpAny_pure (wpAny_bind (I.type.at (wpAny_bind ((looks_findIn X (uM _)).at (wpAny_bind (wpAny_pure ?_))))));dsimp only;obtain⟨x,L,f,-⟩:=I;obtain⟨V,i,Z,J⟩:=O;dsimp only at L hd H;subst L hd H;refine wpAny_bind (wpAny_pure (wpAny_bind (wpAny_bind (wpAny_loadPart x (wpAny_bind ((looks_clsIn X c).at ?_))))));rw[P];have g:=get?_push_of_some {cls:=.type "dict",data:=.dict #[]} x;have d:(s.heap.push {cls:=.type "dict",data:=.dict #[]}).get? s.heap.objs.size=some (tA [] 0):=get?_push_size _ rfl;have ne:a≠s.heap.objs.size:=λz=>by rw[z,bw]at x;cases x
 refine wpAny_bind (wpAny_alloc (wpAny_bind (wpAny_update g ?_)));have G:=(get?_update_other (s.heap.push {cls:=.type "dict",data:=.dict #[]}) (λo=>{o with dict:=some s.heap.objs.size}) ne).trans d;have U:=get?_update_self (λo=>{o with dict:=some s.heap.objs.size}) g rfl;have k:∀b o,b≠a→s.heap.get? b=some o→((s.heap.push {cls:=.type "dict",data:=.dict #[]}).update a λo=>{o with dict:=some s.heap.objs.size}).get? b=some o:=λb o N e=>(get?_update_other _ _ (Ne.symm N)).trans (get?_push_of_some _ e);have fr:∀b o,s.heap.get? b=some o→s.heap.objs.size≠b:=λb o e z=>by rw[←z,bw]at e;cases e
 generalize((s.heap.push {cls:=.type "dict",data:=.dict #[]}).update a λo=>{o with dict:=some s.heap.objs.size})=h1 at G U k⊢;refine wpAny_pure ?_;refine wpAny_bind (wpAny_pure (wpAny_bind ?_));unfold nsSet;obtain⟨y,n,p1,p2,p3,p4⟩:=oS mz;refine wpAny_bind (wpAny_bind (wpAny_askSetting (wpAny_pure (wpAny_bind (wpAny_mkText (wpAny_bind (wpAny_loadPart G ?_)))))));dsimp only;have r:(!(#[]:Array DictEntry).any (·.key.isStr (ofString "message"))&&(#[]:Array DictEntry).any (·.refKey))=false:=by simp
 rw[aRefKeyMayBeTheName_at,r];have u:=get?_update_self (Obj.putName (ofString "message") (PyData.keyHash w.params (ofString "message")) (.str (ofString "message") (s.toks+1)) v) G (by rw[p1];rfl);rw[p1]at u;apply wpAny_updatePart G;refine wpAny_bind (wpAny_lookBehind u (pastItsLine_dict (by rw[size_toArray,sizeLine_eq];rcases p3 with p3|p3<;>simp at p3<;>(try exact zl 0x1015c80010cbec4385 rfl p3.1)<;>(try(rw[p3.1];lia))<;>simp[p3])) ?_);refine wpAny_pure (h _ _ ((get?_update_other _ _ (Ne.symm ne)).trans U) ⟨nsFind y.toArray,(),⟨_,_,n,u,rfl,p2,λ_=>rfl⟩,by rw[p4,if_pos rfl],rfl⟩ λb o N e=> ?_);exact(get?_update_other _ _ (fr b o e)).trans (k b o N e)
theorem Eo{E:Value→Shared→Prop}{sub:List Value}(H:bm.contains (.type "BaseException")=true)(Y:A.handled=none)
 (h:wpAny M A x (λv j=>∃e t d,v=.ref e∧j.heap.get? C=some (excClassObj nm q C N bs bm hdct sn sub ab col dd k0 k1 k2 k3 k5 newId)∧
  j.heap.get? e=some {cls:=.ref C,dict:=some d,data:=.fields #[.ref t,.none,.none,.none,.bool false,.none]}∧E (.ref e) j) E s):
 wpAny M A (raiseStmt env (some x) none) Q E s:=by
 have B:(Value.ref C::bm).contains (.type "BaseException")=true:=by rw[contains_cons,H,Bool.or_true]
 unfold raiseStmt;refine wpAny_bind (wpAny_mono h (λv j U=> ?_) λ_ _ x=>x);obtain⟨e,t,D,rfl,W,Z,m⟩:=U;obtain⟨p,g,d,tk,os⟩:=j;repeat(first|with_reducible refine wpAny_loadPart_at Z ?_|with_reducible refine wpAny_loadPart_at W ?_|(with_reducible refine wpAny_isSubtype_exc W ?_;rw[B])|wp_step)
 exact wpAny_raiseNew_none Y m
noncomputable def kR:Option Obj→FuncData
|some ⟨_,_,.func d,_⟩=>d
|_=>default
noncomputable def qK(d:FuncData):List Stmt:=match d.body with
 |.stmts l=>l
 |_=>[]
theorem JN(P):(Hd.bD P).get 288=some ⟨.type "function",none,.func (kR ((Hd.bD P).get 288)),#[]⟩:=by kernel_rfl
theorem Dh(P):(kR ((Hd.bD P).get 288)).scope.names=[(ofString "self",.local),(ofString "message",.local)]:=by kernel_rfl
theorem LD(P)(a b):bindArgs (kR ((Hd.bD P).get 288)) ⟨[a,b],[]⟩=pure [(ofString "self",a),(ofString "message",b)]:=by kernel_rfl
theorem Eg(P):∃p1 p2 p3 p4,(kR ((Hd.bD P).get 288)).body=.stmts [.Assign [.Attribute (.Name (ofString "self") p1) (ofString "message") p2] (.Name (ofString "message") p3) p4]:=
 ⟨(kd (st (DM (qK (kR ((Hd.bD P).get 288))))) 0).pos,(st (DM (qK (kR ((Hd.bD P).get 288))))).pos,(sv (DM (qK (kR ((Hd.bD P).get 288))))).pos,(DM (qK (kR ((Hd.bD P).get 288)))).pos,by kernel_rfl⟩
theorem KL(P):(kR ((Hd.bD P).get 288)).scope.isCoroutine=false∧(kR ((Hd.bD P).get 288)).scope.isGenerator=false∧(kR ((Hd.bD P).get 288)).scope.kind=.function:=⟨by kernel_rfl,by kernel_rfl,by kernel_rfl⟩
noncomputable def jm:Option Obj→Array Value
|some ⟨_,_,.fields v,_⟩=>v
|_=> #[]
theorem J7(P):(kR ((Hd.bD P).get 288)).code=.ref 287:=by kernel_rfl
theorem Kr(P):(Hd.bD P).get 287=some ⟨.type "code",none,.fields (jm ((Hd.bD P).get 287)),#[]⟩:=by kernel_rfl
theorem rF(h:o.bind gG=some q):∃t,o=some (.str q t):=
 (Option.bind_eq_some_iff.mp h).elim λv e=>(q9 (by rw[e.2];rfl)).elim λn y=>y.elim λt y=>⟨t,by
  have E:=e.2;rw[y]at E;rw[e.1,y,Option.some.inj E]⟩
theorem Nl(P):∃t,(jm ((Hd.bD P).get 287))[1]? =some (.str (kR ((Hd.bD P).get 288)).qualname t):=rF (by kernel_rfl)
theorem u4(B:bA w f h W):∀a o,(vG w.params).lookup a=some o→h.get? a=some o∧(W a).1=0:=by
 have:∀{K},lX w.params K→∀a o,K.lookup a=some o→h.get? a=some o∧(W a).1=0:=by
  intro K;induction K with
  |nil=>exactλ_ a o e=>nomatch e
  |cons p K I=>
   intro q a o e;rw[lookup_cons]at e;cases b:a==p.1 with
   |true=>
    rw[b]at e;cases e;cases beq_iff_eq.mp b;exact B.base _ _ (l8 (le_of_ble_eq_true q.1.1) q.2.1.1 q.2.1.2) (λz=>by have h2:=q.1.2;rw[z]at h2;cases h2)
   |false=>rw[b]at e;exact I q.2.2 a o e
 exact this (Hj _)
theorem wU(B:bA w f h W):(vG w.params).In h:=λa o e=>(u4 B a o e).1
theorem Jp{E:Value→Shared→Prop}{a:Addr}{m:Value}(B:bA w f s.heap W)(H:A.depth<recursionLimit)(j:s.heap.get? a=some {cls:=.ref 291,data:=.fields v})
 (h:∀h' tk d,h'.get? a=some {cls:=.ref 291,dict:=some d,data:=.fields v}→s.heap.get? d=none→(∃M,h'.Ns d M∧M (Str.ofString "message")=some m)→(∀b o,b≠a→s.heap.get? b=some o→h'.get? b=some o)→Q .none {s with heap:=h',toks:=tk}):
 wpAny (model PP w) A (call (.ref 288) [.ref a,m]) Q E s:=by
 obtain⟨p1,p2,p3,p4,hb⟩:=Eg w.params;obtain⟨t,g⟩:=Nl w.params;obtain⟨C,c2,c3⟩:=KL w.params;have G:=B.obj (a:=288) (by decide) (by decide) (JN w.params) rfl;have J:=B.obj (a:=287) (by decide) (by decide) (Kr w.params) rfl;generalize D:kR ((Hd.bD w.params).get 288)=F at*;refine wpAny_call (codeAny_call_def H G rfl B.lG ⟨287,_,_,t,D▸J7 _,J,rfl,g⟩ hb (.of_eq (D▸LD _ _ _)) ?_ ?_ (λR n K=> ?_) C c2 c3)
 ·intro x X
  rw[←D,Dh]at X;simp only[mem_cons,List.not_mem_nil,or_false]at X;rcases X with rfl|rfl<;>(intro q;cases q)
 ·intro x X
  rw[←D,Dh];simp only[mem_cons,List.not_mem_nil,or_false]at X;rcases X with rfl|rfl
  ·show List.lookup (Str.ofString "self") [(Str.ofString "self",NameKind.local),(Str.ofString "message",NameKind.local)]=_;decide+kernel
  ·show List.lookup (Str.ofString "message") [(Str.ofString "self",NameKind.local),(Str.ofString "message",NameKind.local)]=_;decide+kernel
 ·have N:F.scope.names=[(ofString "self",.local),(ofString "message",.local)]:=D▸Dh _
  have k1:(callEnv F s.heap.objs.size 288).kindOf (ofString "message")=some .local:=by show F.scope.names.lookup _=_;rw[N];decide+kernel
  have k2:(callEnv F s.heap.objs.size 288).kindOf (ofString "self")=some .local:=by show F.scope.names.lookup _=_;rw[N];decide+kernel
  have Y:[(ofString "self",Value.ref a),(ofString "message",m)].reverse.lookup (ofString "message")=some m:=by
   show List.lookup (Str.ofString "message") [(Str.ofString "message",m),(Str.ofString "self",Value.ref a)]=_;rw[lookup_cons_self]
  have V:[(ofString "self",Value.ref a),(ofString "message",m)].reverse.lookup (ofString "self")=some (.ref a):=by
   show List.lookup (Str.ofString "self") [(Str.ofString "message",m),(Str.ofString "self",Value.ref a)]=_;rw[lookup_cons,show(ofString "self"==ofString "message")=false from by decide+kernel];dsimp only;rw[lookup_cons_self]
  refine wpAny_execs_cons (plainObj_wpAny_Assign_Attribute (wpAny_Name (wpAny_loadName_local c3 k1 n Y ?_) (by decide+kernel)) (bY rfl));refine wpAny_Name (wpAny_loadName_local c3 k2 n V ?_) (by decide+kernel);refine zD (λb o e=>K b o (wU B b o e)) ⟨K _ _ j,rfl,rfl,trivial⟩ rfl rfl λh' tk g1⟨M,_,g2,g3,_⟩g4=>wpAny_execs_nil ?_;refine h h' tk _ g1 ?_ ⟨M,g2,g3⟩ λb o Z e=>g4 b o Z (K b o e);cases e:s.heap.get? R.objs.size with
  |none=>rfl
  |some o=>have z:=K _ _ e;rw[bw]at z;cases z
theorem oB(P):∃k0 k1 k2 k3 k5,Hd.AP P=excClassObj "Refusal" "Refusal" 291 290 [.ref 271] [.ref 271,.type "Exception",.type "BaseException",.type "object"] true [] [] false none none k0 k1 k2 k3 k5 "Exception.__new__":=⟨_,_,_,_,_,rfl⟩
theorem G0(P):dy P (ofString "Refusal") (.ref 291):=.inl (by kernel_rfl)
theorem LC(P):u7 (Dv (some (Hd.EA P)))=true:=by kernel_rfl
theorem Pg(P):quietNames.all (λn=>(aY n (Dv (some (Hd.EA P)))).isNone)=true:=by kernel_rfl
theorem xM(X:(vG P).In h):OwnTailQ h [.type "Exception",.type "BaseException",.type "object"] [.ref 271,.type "Exception",.type "BaseException",.type "object"]:=
 .own (X 271 _ rfl) ⟨_,_,_,X 270 _ rfl,rfl,cG (LC P),λ_=>iT (cG (LC P))⟩ (λn q=>Option.isNone_iff_eq_none.mp (all_eq_true.mp (Pg P) n q)) .base
theorem KI(P):(Hd.bD P).get 291=some (Hd.AP P):=by kernel_rfl
theorem Kt{e:E}(h:K0 e=true):∃m,e=.M m:=xN h
theorem Du{os:OsState}:bZ w os F fn (.gv e):=λc z x W B R X Q r o u h K KX=>(Kt (aL o)).elim λm M=>by
 have g:=aL (aR o);subst M;obtain⟨k0,k1,k2,k3,k5,U⟩:=oB w.params;have g1:=z.S.H.b.obj (by decide) (by decide) (KI w.params) (by kernel_rfl);rw[U]at g1;show wpAny _ _ (exec (.Raise _ _ _) _) _ _ _;rw[arm_exec_Raise];refine wpAny_bind (wpAny_standAt ?_);refine Eo (C:=291) (nm:="Refusal") (q:="Refusal") (N:=290) (bs:=[.ref 271]) (bm:=[.ref 271,.type "Exception",.type "BaseException",.type "object"]) (hdct:=true) (sn:=[]) (sub:=[]) (ab:=false) (col:=none) (dd:=none) (k0:=k0) (k1:=k1) (k2:=k2) (k3:=k3) (k5:=k5) (newId:="Exception.__new__") (by decide+kernel) c.hA.handled ?_;refine wpAny_bind (wpAny_Call_Name_kw (dE c.O z.S.H g (G0 _) ?_));apply callAny (JE rfl);refine PyProof.Rows.spliced_more (wpAny_Constant_str (PyProof.Rows.spliced_none ⟨⟨.machine,.inr rfl,λP q=>wpAny_keeperOf_exc g1 q⟩,?_⟩)) (aE rfl);refine IQ PySem.F.excBase_Exception (xM (wU z.S.H.b)).tail (wU z.S.H.b) g1 (vc _).1 (vc _).2 (λh' e H=> ?_) (sizeLine_eq▸Nat.le_of_ble_eq_true rfl);obtain⟨t,Y,S,J⟩:=H.there;have B1:=(z.S.H.gr (.fZ H.keeps) z.own.2 λ_ _ _=>rfl).b;refine Jp B1 (Nat.lt_trans (Nat.succ_lt_succ (Nat.lt_of_le_of_lt (Nat.le_add_right _ _) c.hA.depth)) (by decide)) Y (λh2 tk d f1 y f j=>⟨rfl,?_⟩);have O:∀b o,z.s.heap.get? b=some o→b≠e:=λb o E q=>by rw[q,H.new]at E;cases E
 have k:=λb o E=>j b o (O b o E) (H.keeps b o E);refine wpAny_bind (wpAny_standAt (wpAny_pure ⟨e,t,d,rfl,k _ _ g1,f1,?_⟩));obtain⟨D,n,V⟩:=f;have G:Gr c.env.locals z.s.heap h2:=.fZ k;exact KX m e _ h (.mk (T:=none) z.S.gens z.S.os (G.ke z.own.2 λ_ _ _=>rfl).fi (.mk f1 rfl rfl rfl rfl rfl n V λenv Z=>(z.S.H.frames env Z).imp id λq=>q.imp λL q=>q.imp λm q=>⟨q.1,q.2.1.keeps k⟩) (λb o E _=>⟨O b o E,λq=>nomatch q⟩) λ_ s E=>⟨O _ _ E,λq=>nomatch q⟩)
theorem Hy(P):findIn (vG P) (.ref 291) "__getattribute__"=some (some (.builtin "BaseException.__getattribute__")):=by kernel_rfl
theorem FQ(P):findIn (vG P) (.ref 291) "__getattr__"=some none:=by kernel_rfl
theorem C9{E:Value→Shared→Prop}(X:(vG w.params).In s.heap)(H:s.heap.get? a=some O)(c:O.cls=.ref 291)(hd:O.dict=some d)(u:O.data=.fields C)
 (f:s.heap.Ns d D)(m:D (Str.ofString "message")=some v)(Y:handedIn v=true)(h:Q v {s with toks:=s.toks+1}):wpAny (model PP w) A (getAttr (.ref a) (ofString "message") J) Q E s:=by
 obtain⟨od,es,P,g2,d1,d2,d3⟩:=f;have I:InstAt s.heap a O 291 (some od):=⟨H,c,by unfold notCls;rw[u],hd▸g2⟩;have R:lookIn (ofString "message") od=some (some v):=by rw[qN d1 d2,d3,m]
 have F:findObj (vG w.params) 291 (some od) (ofString "message")=some (.value v):=findObj_own (by kernel_rfl) (uM _) rfl R;have L:=I.type (M:=model PP w);have y:=looks_findIn (M:=model PP w) X (Hy _);have W:=looks_findIn (M:=model PP w) X (FQ _);have V:=looks_find (M:=model PP w) X I F;have K:(J&&onTheHeap (Value.builtin "BaseException.__getattribute__"))=false:=by cases J<;>rfl
 have S:(Value.builtin "BaseException.__getattribute__"==Value.builtin "object.__getattribute__")=false:=by decide+kernel
 have j:(onTheHeap (Value.ref 291)&&Value.builtin "BaseException.__getattribute__"==Value.builtin "object.__getattribute__")=false:=by rw[S];rfl
 obtain⟨p,g,dd,tk,os⟩:=s;obtain⟨_,_,_,_,_,o⟩:=oB w.params;have g1:p.get? 291=some _:=o▸X 291 (Hd.AP _) rfl;have t:∀(A:Around)(T:Tok){Q:Fin→Shared→Prop}{E:Value→Shared→Prop},Q (.done (.ret v)) ⟨p,g,dd,tk+1,os⟩→wpAny (model PP w) A (Builtin.«object.__getattribute__» ⟨[.ref a,.str (Str.ofString "message") T],[]⟩) Q E ⟨p,g,dd,tk+1,os⟩:=λA T Q E q=>by
  unfold Builtin.«object.__getattribute__»;refine wpAny_bind (wpAny_pure (wpAny_bind (wpAny_pure (wpAny_bind (L.at (wpAny_bind (V.at ?_)))))));exact wpAny_pure q
 unfold getAttr getAttrBy;refine wpAny_bind (wpAny_mkText (wpAny_holding (wpAny_bind (L.at (wpAny_bind (y.at ?_))))));dsimp only;rw[j];unfold getAttrByItsOwn hookBefore;refine wpAny_bind (W.at (wpAny_bind ?_));refine wpAny_attempt (wpAny_holding ?_);unfold callGetattribute;rw[K];unfold boundAndCalled;rw[(PySem.F.attrBase_Exception.ga.bind (.ref a))];refine wpAny_bind (wpAny_pure ?_);refine wpAny_call (codeAny_call_builtin PySem.F.attrBase_Exception.ga.plain PySem.F.entry_bexc_ga (wpAny_check_ga_own PySem.F.attrBase_Exception g1 (xM X) H c (t _ _ ?_)));show wpAny _ _ (handedOut v) _ _ _;rw[handedOut_of Y];exact wpAny_pure h
theorem F9(P):(Hd.bD P).get 908=some ⟨.type "function",none,.func (kR ((Hd.bD P).get 908)),#[]⟩:=by kernel_rfl
theorem Kw(P):(kR ((Hd.bD P).get 908)).scope.names=[(ofString "ask",.local),(ofString "error",.local),(ofString "Refusal",.globalImplicit)]:=by kernel_rfl
theorem J6(P)(a):bindArgs (kR ((Hd.bD P).get 908)) ⟨[a],[]⟩=pure [(ofString "ask",a)]:=by kernel_rfl
noncomputable def Ay(P:Params):Stmt:=DM (qK (kR ((Hd.bD P).get 908)))
noncomputable def Ib(P:Params):Stmt:=DM (HQ (Ay P))
noncomputable def I4(P:Params):Stmt:=DM (PC (Ay P))
theorem FC(P):(kR ((Hd.bD P).get 908)).body=.stmts [.Try [.Return (some (.Call (.Name (ofString "ask") (kd (sv (Ib P)) 0).pos) [] [] (sv (Ib P)).pos)) (Ib P).pos] [.ExceptHandler (some (.Name (ofString "Refusal") (sv (Ay P)).pos)) (some (ofString "error")) [.Return (some (.Attribute (.Name (ofString "error") (kd (sv (I4 P)) 0).pos) (ofString "message") (sv (I4 P)).pos)) (I4 P).pos] (st (Ay P)).pos] [] [] (Ay P).pos]:=by kernel_rfl
theorem Kx(P):(kR ((Hd.bD P).get 908)).scope.isCoroutine=false∧(kR ((Hd.bD P).get 908)).scope.isGenerator=false∧(kR ((Hd.bD P).get 908)).scope.kind=.function:=⟨by kernel_rfl,by kernel_rfl,by kernel_rfl⟩
theorem K7(P):(kR ((Hd.bD P).get 908)).globals=mainGlobals∧(kR ((Hd.bD P).get 908)).builtins=builtinsNs:=⟨by kernel_rfl,by kernel_rfl⟩
theorem MF(P):∃n,(kR ((Hd.bD P).get 908)).code=.ref n∧n<914∧n≠910∧(Hd.bD P).get n=some ⟨.type "code",none,.fields (jm ((Hd.bD P).get n)),#[]⟩∧∃t,(jm ((Hd.bD P).get n))[1]? =some (.str (kR ((Hd.bD P).get 908)).qualname t):=
 ⟨907,by kernel_rfl,by decide,by decide,by kernel_rfl,rF (by kernel_rfl)⟩
theorem Gz(B:bA w f h W)(t:((W 910).1=0∨(W 910).1=5))(hd:∃env O L m,f=env::O∧env.frame=some L∧h.Ns L m∧(W L).1=1):aH w f (λ_=>.cell 910) [] h W:=
 ⟨B.base,.inl ⟨t,B.jd.2⟩,zero_le _,λi=>⟨λh=>absurd h (not_lt_zero _),λh=>absurd rfl h⟩,λi S e=>(by cases i<;>cases e),λi h=>absurd h (not_lt_zero _),B.frames,hd⟩
theorem XT.F3{os:OsState}{fs:List Env}{h:Heap}{W:cw}{a:Addr}{m:Str}{s':Shared}(B:bA w fs h W)(t:(W 910).1=0∨(W 910).1=5):XT os fs h W a m s'→bA w fs s'.heap W
|.mk g o k f n tb=>⟨λb ob e n=>have z:=B.base b ob e n;⟨(k.ex b ob z.1 (.inl z.2)).1,z.2⟩,⟨B.jd.1,B.jd.2.imp λvs e=>(k.ex 910 _ e (t.imp id .inl)).1⟩,λenv he=>by
 cases f with
 |mk _ _ _ _ _ _ _ _ fr=>
 have y:=B.frames env he;have q:=fr env he;exact⟨y.1,y.2.imp λRC y=>q.2.elim λL' q=>q.elim λm2 q=>by
  obtain⟨m',y1,_,l⟩:=y;cases y1.symm.trans q.1;exact⟨m2,y1,q.2,l⟩⟩⟩
theorem AG{L:Addr}(B:bA w f h W)(d:h.objs.size=L)(j:env.frame=some L)(k:env.scope.kind≠.module)(U:H.Ns L m)(p:∀b o,h.get? b=some o→H.get? b=some o):
 bA w (env::f) H (ig 7 L W)∧((ig 7 L W 910).1=0∨(ig 7 L W 910).1=5):=by
 have E:∀{b o},h.get? b=some o→ig 7 L W b=zM 7 (W b):=λe=>gP (d▸lt_size e);have T:=B.jd.2.elim λV e=>E e▸yA (.inl rfl) B.jd.1;refine⟨⟨λb ob e n=>have z:=B.base b ob e n;⟨p b ob z.1,E z.1▸Mi (.inl rfl) z.2⟩,⟨T.imp id .inr,B.jd.2.imp λV e=>p _ _ e⟩,λF Z=> ?_⟩,T⟩;rcases mem_cons.mp Z with rfl|Z
 ·exact⟨k,L,m,j,U,.inl (congrArg Prod.fst pw)⟩
 ·have y:=B.frames F Z
  exact⟨y.1,y.2.imp λN y=>y.imp λm y=>⟨y.1,y.2.1.keeps p,.inr (y.2.1.elim λob q=>q.elim λ_ q=>q.elim λ_ q=>E q.1▸JJ (.inl rfl) y.2.2)⟩⟩
section
variable{w:World}{os:OsState}
noncomputable def JU(os:OsState)(f:List Env)(H:Heap)(W:cw)(R:Result→Shared→Prop)(r:Result)(d:Shared):Prop:=match r with
 |.ok (.ret v)=>R (.ok (.ret v)) d
 |.ok _=>False
 |.error e=>∃a m,e=.ref a∧XS os f H W a m d∧∀S t,S.gens= #[]→S.os=os→KT H W S.heap W→R (.ok (.ret (.str m t))) S
structure C6(env:Env)(L:Addr):Prop where
 k1:env.kindOf (Str.ofString "ask")=some .local
 k2:env.kindOf (Str.ofString "error")=some .local
 kl:env.locals=L
 kf:env.frame=some L
 ks:env.scope.kind=.function
 O:jw ⟨[],[Str.ofString "Refusal"],[],0,false,false⟩ env (λ_=>.cell 910)
theorem XT.get:XT os fs h W a m s'→s'.gens= #[]∧s'.os=os∧KT h W s'.heap W
|.mk g o k _ _ _=>⟨g,o,k⟩
theorem LH(t:(W L).1=1)(D:(W 910).1=0∨(W 910).1=5)(k:KT h W h3 W)(I:∀b,b≠L→h6.get? b=h3.get? b):KT h W h6 W:=
 have nl:∀b,yg (W b).1∨EU (W b).1→b≠L:=λb l q=>Qx (.inl t) (q▸l)
 ⟨λb ob e l=>⟨(I b (nl b (.inl l))).trans (k.ex b ob e l).1,rfl⟩,λb ob e l=>⟨λm' q=>cj ((k.sl b ob e l).1 m' q) λO E=>(I b (nl b (.inr l))).trans E,rfl⟩,λb ob e l=>(k.there b ob e l).imp λO E=>(I b (nl b (.inr l))).trans E,
  λV l e=>D.elim (λq=>nomatch l.symm.trans q) λq=>nomatch l.symm.trans q⟩
theorem Bn(Y:C6 env L)(D:bA w (env::f) s.heap W)(J:(W L).1=1)(j:DE (env::f) s.heap a (some g) m)
 (a9:∀t tk h5 m5,h5.Ns L m5→(∀b,b≠L→h5.get? b=s.heap.get? b)→Q (.ret (.str m t)) {s with heap:=h5,toks:=tk}):wpAny (model PP w) A (storeName env (ofString "error") (.ref a)) (λ_ M=>wpAny (model PP w) A (execs [.Return (some (.Attribute (.Name (Str.ofString "error") p5) (Str.ofString "message") p6)) p7] env) Q u M) I s:=by
 cases j with
 | @mk o V d hd T tm G X R C h r n E fr=>
 obtain⟨_,l,mL,F,nL⟩:=fr env (.head _);cases Y.kf.symm.trans F;have aL:a≠L:=by
  rintro rfl;obtain⟨O,es,p,K,Z,_⟩:=nL;cases G.symm.trans K;cases C.symm.trans Z
 refine wpAny_storeName_local Y.k2 (Y.kl▸nL) (λh5 H S=> ?_) (by rw[Y.ks];rfl);rw[Y.kl]at H S;have N:∃P,h5.Ns d P∧P (ofString "message")=some (.str m tm):=by
  by_cases z:d=L
  ·subst z
   exact⟨_,H,(if_neg (by decide+kernel)).trans ((congrFun (nL.eq_nsMap.trans n.eq_nsMap.symm) _).trans E)⟩
  ·exact⟨_,cj n λO U=>(S.2 _ z).trans U,E⟩
 obtain⟨P,N,B⟩:=N;have x:(vG w.params).In h5:=λb ob e=>have y:=u4 D b ob e;(S.2 b λq=>absurd (J.symm.trans (q▸y.2)) (by decide)).trans y.1;exact wpAny_execs_cons (wpAny_Return_some (Attribute_Name_ (wpAny_Name (wpAny_loadName_local Y.ks Y.k2 (Y.kl▸H) (if_pos rfl) (C9 x ((S.2 a aL).trans G) X R C N B rfl (a9 _ _ h5 _ H S.2))) (by decide+kernel))))
theorem zB{R:Result→Shared→Prop}(Y:C6 env L)(Q:A.frames=some (env::j))(U:bA w (env::j) J.heap W)(D:(W 910).1=0∨(W 910).1=5)(y:(W L).1=1)
 (H:J.heap.Ns L M)(u:M (Str.ofString "ask")=some (.ref f))(o:∃ob d,J.heap.get? f=some ob∧ob.data=.func d)(c:codeAny (model PP w) A (.call (.ref f) ⟨[],[]⟩) (JU os (env::j) J.heap W R) J):
 wpAny (model PP w) A (execs [.Try [.Return (some (.Call (.Name (Str.ofString "ask") p1) [] [] p2)) p3] [.ExceptHandler (some (.Name (Str.ofString "Refusal") p4)) (some (Str.ofString "error")) [.Return (some (.Attribute (.Name (Str.ofString "error") p5) (Str.ofString "message") p6)) p7] p8] [] [] p9] env)
  (λO g=>R (.ok (.ret (match O with|.ret v=>v|_=>.none))) g) I J:=by
 have V:aH w (env::j) (λ_=>.cell 910) [] J.heap W:=Gz U D ⟨env,j,L,_,rfl,Y.kf,H,y⟩;refine wpAny_execs_cons (wpAny_Try_except ?_);refine wpAny_execs_cons (wpAny_Return_some (wpAny_Call_Name_kw (wpAny_Name (wpAny_loadName_local Y.ks Y.k1 (by rw[Y.kl];exact H) u ?_) (by decide+kernel))));refine callAny PK (PyProof.Rows.spliced_none ⟨vw o,codeAny_mono c λr S F=> ?_⟩);cases r with
 |ok O=>cases O<;>first|exact F.elim|exact F
 |error e=>
 obtain⟨a,m,rfl,xs,a9⟩:=F;refine Ds V rfl Q Y.kf xs.fi λh1 T' K k=>jh K λh2 T C N=> ?_;have x:=k h2 T C N;have B:=x.F3 U D;obtain⟨k0,RH,RI,RJ,RK,Z⟩:=oB w.params;have G:=B.obj (a:=291) (by decide) (by decide) (KI w.params) (by kernel_rfl);rw[Z]at G;have p:=T;cases p with
 |mk z l q2 q3 q4 q5 nd em i=>
 have h:=Gz B D ((i env (.head _)).2.elim λL' q=>q.elim λm' q=>by
  cases Y.kf.symm.trans q.1;exact⟨env,j,L,m',rfl,Y.kf,q.2,y⟩)
 refine wpAny_handleBy_cons (codeAny_handlers_test (dE Y.O h (by decide+kernel) (G0 _) ?_)) (by intro q;cases q);refine wpAny_excMatches_sub_self G z l (by decide+kernel) (codeAny_handlers_suite_as (jh (s:={S with heap:=h2}) T λh3 P RC RD=> ?_));have X:=k h3 P (λb n=>(RC b n).trans (C b n)) λb m q=>RD b m (N b m q);have B4:=X.F3 U D;have E:=X.get;refine Bn (s:={S with heap:=h3}) Y B4 y P ?_;intro t tk h5 m5 RE RF;refine wpAny_nameGoes (s:={S with heap:=h5,toks:=tk}) Y.k2 (by rw[Y.kl];exact RE) (by rw[Y.ks];rfl) λh6 m6 RL RG=> ?_;exact a9 _ _ E.1 E.2.1 (LH (h6:=h6) y D E.2.2 λb ne=>(RG.2 b (Y.kl.symm▸ne)).trans (RF b ne))
theorem Ad{s:Shared}{R:Result→Shared→Prop}(Q:A.frames=some j)(m:A.depth<recursionLimit)(B:bA w j s.heap W)(O:∃ob d,s.heap.get? f=some ob∧ob.data=.func d)
 (h:∀(env:Env)(L:Addr)(H:Heap)(tk:Tok),s.heap.objs.size=L→(∀b o,s.heap.get? b=some o→H.get? b=some o)→bA w (env::j) H (ig 7 L W)→
  codeAny (model PP w) (A.deeper env) (.call (.ref f) ⟨[],[]⟩) (JU os (env::j) H (ig 7 L W) R) {s with heap:=H,toks:=tk}):
 codeAny (model PP w) A (.call (.ref 908) ⟨[.ref f],[]⟩) R s:=by
 obtain⟨C,c,c2,c3,y,t,Z⟩:=MF w.params;have g:=B.obj (a:=908) (by decide) (by decide) (F9 w.params) rfl;have F:=B.obj c2 c3 y rfl;have hb:=FC w.params;have N:=Kw w.params;have D:=J6 w.params (.ref f);have sc:=Kx w.params;have G:=K7 w.params;generalize kR ((Hd.bD w.params).get 908)=d at*;refine codeAny_call_def m g rfl B.lG ⟨C,_,_,t,c,F,rfl,Z⟩ hb (.of_eq D) (λx X=> ?_) (λx X=> ?_) (λH U K=> ?_) sc.1 sc.2.1 sc.2.2
 ·rw[N]at X
  exactλq=>by
   rcases mem_cons.mp X with e|X
   ·rw[e]at q;cases q
   rcases mem_cons.mp X with e|X
   ·rw[e]at q;cases q
   ·rw[mem_singleton.mp X]at q;cases q
 ·rw[mem_singleton.mp X,N]
  show List.lookup (Str.ofString "ask") _=_;decide+kernel
 ·generalize S:s.heap.objs.size=L at*
  have e:=AG (env:=callEnv d L 908) B S rfl (by show d.scope.kind≠_;rw[sc.2.2];decide) U K;have I:=h (callEnv d L 908) L H (s.toks+[(Str.ofString "ask",Value.ref f)].length) rfl K e.1;have Y:C6 (callEnv d L 908) L:=⟨by show d.scope.names.lookup _=_;rw[N];decide+kernel,by show d.scope.names.lookup _=_;rw[N];decide+kernel,rfl,rfl,sc.2.2,⟨sc.2.2,G.1,G.2,λn i q=>(nomatch q),λn q=>(nomatch q),λn q=>(List.mem_singleton.mp q)▸⟨by show d.scope.names.lookup _=_;rw[N];decide+kernel,by decide+kernel⟩⟩⟩;exact zB Y (by show A.frames.map _=_;rw[Q];rfl) e.1 e.2 (congrArg Prod.fst pw) U (by show List.lookup _ [(ofString "ask",Value.ref f)]=_;rw[lookup_cons_self]) (O.imp λob q=>q.imp λd q=>⟨K _ _ q.1,q.2⟩) I
end
theorem wo(h:∀n,(n,NameKind.free)∈scope.names→∃c,env.cells.lookup n=some c):∃C,closureFor scope env=pure C∧∀n,(n,NameKind.free)∈scope.names→C.lookup n=env.cells.lookup n:=
 ⟨lW env.cells scope.names [],jy λn H=>(h n H).elim λc e=>by rw[e];rfl,λn H=>(h n H).elim λc e=>((mT e scope.names [] (.inl H) λ_ e=>(nomatch e)):(lW env.cells scope.names []).lookup n=some c).trans e.symm⟩
theorem Nj(P):aY (ofString "__builtins__") (dM P)=some (.ref 4):=by kernel_rfl
theorem o4(P):(Hd.bD P).get 4=some ⟨.type "module",some 0,.plain,(((Hd.bD P).get 4).getD default).slots⟩:=by kernel_rfl
theorem Jq(P):(Hd.bD P).get 912=some ⟨.type "code",none,.fields (jm ((Hd.bD P).get 912)),#[]⟩:=by kernel_rfl
theorem Lh(P):(jm ((Hd.bD P).get 912))[11]? =some (.ref 910)∧(jm ((Hd.bD P).get 912)).getD 11 .none=.ref 910∧(jm ((Hd.bD P).get 912)).getD 18 .none=.str (ofString "/claim/cut.py") 1411∧
 (jm ((Hd.bD P).get 912)).getD 7 .none=.int 3 0∧(jm ((Hd.bD P).get 912)).getD 9 .none=.bool true∧(jm ((Hd.bD P).get 912)).getD 10 .none=.int 181 0:=
 ⟨by kernel_rfl,by kernel_rfl,by kernel_rfl,by kernel_rfl,by kernel_rfl,by kernel_rfl⟩
theorem mP{P:List Value→Prop}(H:P [])(h1:∀i t j u d r,P r→P (.int i t::.int j u::d::r)):∀{n}{l},l.length≤n→TriplesOk l→P l:=by
 intro n;induction n with
 |zero=>intro l e _;rw[length_eq_zero_iff.mp (le_zero.mp e)];exact H
 |succ n I=>
  intro l e T;cases l with
  |nil=>exact H
  |cons x l=>
   cases l with
   |nil=>cases x<;>exact False.elim T
   |cons y l=>
    cases l with
    |nil=>cases x<;>first|exact False.elim T|(cases y<;>exact False.elim T)
    |cons d r=>cases x<;>first|exact False.elim T|(cases y<;>first|exact False.elim T|exact h1 _ _ _ _ d r (I (Nat.le_trans (le_add_right _ 2) (le_of_succ_le_succ e)) T))
theorem wJ(H:TriplesOk l):codeAmong p (l++[.int i t,.int j u,c])=some C→codeAmong p l=some C∨C=c:=by
 refine mP (P:=λl=>codeAmong p (l++[.int i t,.int j u,c])=some C→codeAmong p l=some C∨C=c) (λh=> ?_) (λI T J U d r Q h=> ?_) (Nat.le_refl _) H
 ·change(if(i==p.line&&j==p.col)=true then some c else none)=some C at h
  by_cases q:(i==p.line&&j==p.col)=true
  ·rw[if_pos q]at h;exact .inr (Option.some.inj h).symm
  ·rw[if_neg q]at h;cases h
 ·change(if(I==p.line&&J==p.col)=true then some d else codeAmong p (r++[.int i t,.int j u,c]))=some C at h
  show(if(I==p.line&&J==p.col)=true then some d else codeAmong p r)=some C∨_
  by_cases q:(I==p.line&&J==p.col)=true
  ·rw[if_pos q]at h⊢;exact .inl h
  ·rw[if_neg q]at h⊢;exact Q h
theorem rP{c:Value}(H:TriplesOk l):TriplesOk (l++[.int i t,.int j u,c]):=mP (P:=λl=>TriplesOk (l++[.int i t,.int j u,c])) trivial (λ_ _ _ _ _ _ h=>h) (Nat.le_refl _) H
noncomputable def jq(h:Heap)(W:cw):cw:=λa=>if a<h.objs.size then W a else(0,0)
theorem nN(l:a<h.objs.size):jq h W a=W a:=if_pos l
theorem D5{h:Heap}{a:Addr}(l:h.objs.size≤a):jq h W a=(0,0):=if_neg (Nat.not_lt.mpr l)
section
variable{w:World}{os:OsState}{F:Nat→Spec}{fn:hM}
theorem aH.xZ(C:aH w fs pl ρ h W)(l:(W 910).1=4)(e9:h.get? 910=some (cD vs))(k:∀b o,b≠910→h.get? b=some o→RC.get? b=some o)(t9:RC.get? 910=some (cD (vs++more)))(TO:oH RC (jq h W) (vs++more).toList):
 aH w fs pl ρ RC (jq h W)∧KT h W RC (jq h W):=by
 have O:∀{b o},h.get? b=some o→jq h W b=W b:=λe=>nN (lt_size e);have K:∀{b o n},n≠4→(W b).1=n→h.get? b=some o→RC.get? b=some o∧jq h W b=W b:=λ{b o n}u q e=>⟨k b o ((λb n q=>n (by rw[q];exact l)) b (q▸u)) e,O e⟩;have p:Kp h W RC (jq h W):=λb o e Q=>have z:=K (by decide) Q e;⟨z.1,z.2▸Q⟩;have M:∀j,Mv h W (10+j) RC (jq h W) (10+j):=λj b o e J=>have z:=K (Nat.ne_of_gt (Nat.lt_of_lt_of_le (by decide) (Nat.le_add_right 10 j))) J e;⟨z.1,z.2.trans (Prod.ext J rfl)⟩;have N:∀{L m n},n≠4→(W L).1=n→h.Ns L m→RC.Ns L m∧jq h W L=W L:=λu q e=>e.elim λo e=>e.elim λes e=>e.elim λP e=>have z:=K u q e.1;⟨⟨o,es,P,z.1,e.2⟩,z.2⟩;have X:∀{L m},(W L).1=1∨(W L).1=3→h.Ns L m→RC.Ns L m∧((jq h W L).1=1∨(jq h W L).1=3):=λq e=>q.elim (λy=>have z:=N (by decide) y e;⟨z.1,.inl (z.2▸y)⟩) λy=>have z:=N (by decide) y e;⟨z.1,.inr (z.2▸y)⟩;have pk:∀{i o},i<ρ.length→h.get? (pl i).I=some o→RC.get? (pl i).I=some o∧jq h W (pl i).I=W (pl i).I:=λH e=>⟨k _ _ (zP C H e9).symm e,O e⟩;have t:∀{n},yg n→n≠4:=λl q=>by subst q;unfold yg at l;revert l;decide
 refine⟨⟨λb o e n=>have z:=C.base b o e n;p b o z.1 z.2,.inr ⟨(O e9).symm▸l,_,t9,TO⟩,C.len,C.a9,λi S e=>(C.slots i S e).imp λx q=>⟨eR q.1 λo E=>(pk (List.getElem?_eq_some_iff.mp e).1 E).1,q.2.imp id λy=>y.imp λv y=>⟨y.1,y.2.cY p (M i)⟩⟩,
  λi H=>(C.cz H).elim λx a=>a.lt.elim λo E=>(pk H E).2▸C.bG i H,λenv Z=>have y:=C.frames env Z;⟨y.1,y.2.imp λL y=>y.imp λm y=>have z:=X y.2.2 y.2.1;⟨y.1,z.1,z.2⟩⟩,
  C.head.imp λenv y=>y.imp λr y=>y.imp λL y=>y.imp λm y=>have z:=N (by decide) y.2.2.2 y.2.2.1;⟨y.1,y.2.1,z.1,z.2▸y.2.2.2⟩⟩,
  λb o e lb=>K (t lb) rfl e,λb o e lb=>⟨λm q=>(N (by rw[(lb:(W b).1=3)];decide) rfl q).1,O e⟩,λb o e lb=>⟨o,(K (by rw[(lb:(W b).1=3)];decide) rfl e).1⟩,λV _ e=>⟨O e9,more,?_⟩⟩
 cases e9.symm.trans e;exact t9
variable{c:vh fn}
theorem dw.xZ(z)(tk)(l:(z.W 910).1=4)(e9:z.s.heap.get? 910=some (cD vs))(k:∀b o,b≠910→z.s.heap.get? b=some o→RC.get? b=some o)(t9:RC.get? 910=some (cD (vs++more)))(TO:oH RC (jq z.s.heap z.W) (vs++more).toList)
 {C:Prop}(next:∀z':dw w os c,z'.s={z.s with heap:=RC,toks:=tk}→z'.ρ=z.ρ→q8 z z'→C):C:=
 have q:=z.S.H.xZ l e9 k t9 TO
 next ⟨⟨z.ρ,{z.s with heap:=RC,toks:=tk},jq z.s.heap z.W,z.S.gens,z.S.os,q.1⟩,λi a H e=>(z.S.H.cz H).elim λx A=>A.lt.elim λo E=>by
  have y:=nN (W:=z.W) (lt_size E);rw[e]at y;exact(congrArg Prod.fst y).trans (z.cel i a H e),
  λv e=>have y:=z.zero v e;⟨y.1,eR y.2 λo E=>k _ o (zP z.S.H y.1 e9).symm E⟩,λe=>(congrArg Prod.fst (nN (lt_size e9))).trans l⟩ rfl rfl q.2
theorem AS{E:Value→Shared→Prop}(H:c.cf.lm=true)(free:∀n,(n,NameKind.free)∈sc.names→n∈c.cf.cl)
 (h:∀f u m U v(d:dw w os c),d.ρ=z.ρ→q8 z d→d.s.heap.get? f=some (kla_obj (Str.ofString "<lambda>") kj ⟨[],[],none,[],[],none,[]⟩ body sc u m U v)→d.s.heap.CodeRec (.ref U) kj→(∀n,(n,NameKind.free)∈sc.names→u.lookup n=c.env.cells.lookup n)→Q (.ref f) d.s):
 wpAny (model PP w) c.A (makeFunction "<lambda>" (c.env.qual++("<lambda>")) ⟨[],[],none,[],[],none,[]⟩ (.expr body) sc c.env [] [] [] Y Y.line) Q E z.s:=by
 obtain⟨J,r⟩:=c.Rh H;have l:=z.lm J;obtain⟨K,P,T⟩:=(z.S.H.jd.resolve_left λq=>q.1.elim (λy=>nomatch l.symm.trans y) λy=>nomatch l.symm.trans y).2;obtain⟨u,L,Z⟩:=wo λn x=>(c.O.Ij n (free n x)).imp λa q=>q.1;have B:=z.S.H.b;obtain⟨v1,v2,v3,v4,v5,v6⟩:=Lh w.params;have C:CodeHd z.s.heap 912 910:=⟨_,_,_,_,_,_,_,_,_,B.obj (by decide) (by decide) (Jq w.params) rfl,rfl,rfl,v1,v2,v3,v4,v5,v6,by decide⟩;have hb:z.s.heap.BuiltinsAt (λn=>aY n (dM w.params)) 910:=⟨4,_,Nj _,by decide,by decide,by decide,B.obj (by decide) (by decide) (o4 w.params) rfl,rfl,rfl,rfl⟩;rw[r];have W:∀{g:Heap}(k:∀b o,b≠910→z.s.heap.get? b=some o→g.get? b=some o){p V},codeAmong p K.toList=some V→∃c O X t,V=.ref c∧g.get? c=some O∧(jq z.s.heap z.W c).1=0∧O.data=.fields X∧X[1]? =some (.str kj t):=λ{g}k{p V}e=>by
  obtain⟨c3,RC,RD,t3,y1,R,A,y4⟩:=T.2 p V e;exact⟨c3,RC,RD,t3,y1,k c3 _ (λq=>by rw[q,l]at A;cases A) R,(congrArg Prod.fst (nN (lt_size R))).trans A,y4⟩
 cases among:codeAmong Y K.toList with
 |none=>
  refine kla_makeFunction L c.O.vn z.S.H.main J C P T.1 among (by decide) hb λU v h' tk hx RE RH RF RG=> ?_;generalize S:kla_obj (ofString "<lambda>") kj ⟨[],[],none,[],[],none,[]⟩ body sc u (((λn=>aY n (dM w.params)) "__name__").getD .none) U v=ob;have G:(h'.push ob).get? h'.objs.size=some ob:=get?_push_size _ (by rw[←S];rfl);have I:∀b o,h'.get? b=some o→(h'.push ob).get? b=some o:=λb o e=>get?_push_of_some _ e;generalize h'.push ob=g at G I;have k:=λb o n e=>I b o (hx b o n e);obtain⟨c2,O,s,t,q1,D,M,i⟩:=RF;cases q1;refine z.xZ tk l P k (I _ _ RG) (Array.toList_append▸⟨rP T.1,λp V e=>(wJ T.1 e).elim (λe=>W k e) λe=>⟨U,O,s,t,e,I _ _ D,congrArg Prod.fst (D5 RE),M,i⟩⟩) λd N j l'=> ?_;exact N▸h _ u _ U v d j l' (by rw[N,S];exact G) ⟨U,O,s,t,rfl,N▸I _ _ D,M,i⟩ Z
 |some V=>
  obtain⟨U,O,s,t,rfl,x2,x3,x4,x5⟩:=T.2 Y V among;refine kla_makeFunctionHit L c.O.vn z.S.H.main J C P T.1 among hb λv h' tk hk RI=> ?_;show Q _ {z.s with heap:=h'.push (kla_obj (Str.ofString "<lambda>") kj ⟨[],[],none,[],[],none,[]⟩ body sc u (((λn=>aY n (dM w.params)) "__name__").getD .none) U v),toks:=tk};generalize S:kla_obj (ofString "<lambda>") kj ⟨[],[],none,[],[],none,[]⟩ body sc u (((λn=>aY n (dM w.params)) "__name__").getD .none) U v=ob;have G:(h'.push ob).get? h'.objs.size=some ob:=get?_push_size _ (by rw[←S];rfl);have k:∀b o,z.s.heap.get? b=some o→(h'.push ob).get? b=some o:=λb o e=>get?_push_of_some _ (hk b o e);generalize h'.push ob=g at G k;refine z.xZ tk l P (λb o _=>k b o) (by rw[Array.append_empty];exact k _ _ P) (by
   rw[Array.append_empty];exact⟨T.1,λp V e=>W (λb o _=>k b o) e⟩) λd N j l'=> ?_
  exact N▸h _ u _ U v d j l' (by rw[N,S];exact G) ⟨U,O,s,t,rfl,N▸k _ _ x2,x4,x5⟩ Z
end
theorem IL(P):dy P (ofString "_law_kept") (.ref 908):=.inl (by kernel_rfl)
theorem A1:fK i l=true→i∈l:=by
 induction l with
 |nil=>exact ff
 |cons j l I=>
  show(match Nat.beq i j with|true=>true|false=>fK i l)=true→_;cases e:beq i j with
  |true=>exactλ_=>eq_of_beq_eq_true e▸.head _
  |false=>exactλh=>.tail _ (I h)
structure Ca(cf:Cf)(eA:List Nat)(sc:Scope):Prop where
 kind:sc.kind=.function
 co:sc.isCoroutine=false
 KG:sc.isGenerator=false
 only:∀x∈sc.names,x.2≠.cell
 free:∀n,(n,NameKind.free)∈sc.names→n∈cf.cl
 nm:∀n i,aQ n (iX cf.nm 0 sc.names)=some i→sc.names.lookup n=some .free∧aQ n cf.nm=some i∧n∈cf.cl∧fK i eA=true∧(n==("__debug__":Str))=false∧(n==("__classdict__":Str))=false
 gl:∀n∈uW sc.names,sc.names.lookup n=some .globalImplicit∧(n==("__debug__":Str))=false
 eA:∀i,fK i eA=true→∃n,n∈cf.cl∧aQ n cf.nm=some i
theorem wX:aQ n l=some i→(n,i)∈l:=by
 induction l with
 |nil=>exactλh=>nomatch h
 |cons p l I=>exactλh=>(dO h).elim (λq=>q.1▸q.2▸.head _) λh=>.tail _ (I h)
theorem nB(h:(!kB k k')=true):k'≠k:=of_decide_eq_false (nE h)
theorem EH(h:Mg C v sc=true):Ca C v sc:=by
 have d:=gi (aL (aR (aR (aR h))));have E:∀{n k},(n,k)∈sc.names→LZ C.cl (n,k)=true:=λM=>all_eq_true.mp (aL (aR (aR (aR (aR h))))) _ M;have V:=aR (aR (aR (aR (aR h))));have fr:∀{n},(n,NameKind.free)∈sc.names→n∈C.cl∧Ai n=true:=λM=>(oE (aL (aR (aR (E M))))).elim (λq=>absurd rfl (nB q)) λq=>⟨pV (aL q),aR q⟩;refine⟨of_decide_eq_true (aL h),nE (aL (aR h)),nE (aL (aR (aR h))),λx X=>nB (aL (E X)),λn N=>(fr N).1,λn i H=> ?_,λn N=> ?_,λi H=> ?_⟩
 ·obtain⟨k,m,K⟩:=uk H
  rcases K with⟨rfl,_⟩|⟨rfl,_⟩|⟨rfl,e⟩
  ·exact absurd rfl (nB (aL (aR (E m))))
  ·exact absurd rfl (nB (aL (E m)))
  ·exact⟨bL d m,e,(fr m).1,aR (all_eq_true.mp (aL V) _ (wX H)),gL (fr m).2⟩
 ·have m:=oF N
  exact⟨bL d m,(oE (aR (aR (aR (E m))))).elim (λq=>absurd rfl (nB q)) λq=>lP (bB (nE q))⟩
 ·exact(any_eq_true.mp (all_eq_true.mp (aR V) _ (A1 H))).imp λn q=>⟨q.1,bO q.2⟩
theorem B7:∀{j}{ρ'},mB g j ρ=some ρ'→ρ'.length=ρ.length∧∀i S,ρ'[i]? =some S→(fK (j+i) g=true∧∃v,S=.j v∧ρ[i]? =some (.j v))∨(fK (j+i) g=false∧S=.y):=by
 induction ρ with
 |nil=>exactλh=>Option.some.inj h▸⟨rfl,λi S e=>nomatch e⟩
 |cons s r I=>
  intro j ρ' h;have h:(match mB g (j+1) r with|.none=>.none|some R=>match fK j g with|false=>some (.y::R)|true=>match(generalizing:=false) s with|.j v=>some (.j v::R)|_=>.none)=some ρ':=h;cases e:mB g (j+1) r with
  |none=>rw[e]at h;cases h
  |some R=>
   rw[e]at h;have y:=I e;have next:∀{T:Mine.Internal.S},ρ'=T::R→((fK j g=true∧∃v,T=.j v∧s=.j v)∨(fK j g=false∧T=.y))→ρ'.length=(s::r).length∧∀(i:Nat)S,ρ'[i]? =some S→(fK (j+i) g=true∧∃v,S=.j v∧(s::r)[i]? =some (.j v))∨(fK (j+i) g=false∧S=.y):=λ{T}e q=>by
    subst e;refine⟨congrArg (·+1) y.1,λi S es=> ?_⟩;cases i with
    |zero=>cases es;exact q.imp (λq=>⟨q.1,q.2.imp λv q=>⟨q.1,congrArg some q.2⟩⟩) id
    |succ i=>have z:=y.2 i S es;rw[Nat.add_right_comm]at z;exact z
   cases H:fK j g with
   |false=>rw[H]at h;exact H▸next (Option.some.inj h).symm (.inr ⟨H,rfl⟩)
   |true=>
    rw[H]at h;cases s<;>first|exact fN h|exact H▸next (Option.some.inj h).symm (.inl ⟨H,_,rfl,rfl⟩)
noncomputable def Mr(v:List Nat)(p:Nat→fQ)(n:Nat)(L:Addr)(i:Nat):fQ:=if fK i v=true then p i else if i<n then .ns L (ofString "")else .cell 910
theorem nW(h:fK i v=true):Mr v p n L i=p i:=if_pos h
theorem xn(h:fK i v=false)(H:i<n):Mr v p n L i=.ns L (ofString ""):=(if_neg (by rw[h];decide)).trans (if_pos H)
theorem HZ(h:fK i v=false)(H:¬i<n):Mr v p n L i=.cell 910:=(if_neg (by rw[h];decide)).trans (if_neg H)
section
variable{w:World}{os:OsState}{F:Nat→Spec}{fn:hM}{c:vh fn}
theorem AW{z:dw w os c}{L H:Addr}(u:Ca c.cf g sc)(J:mB g 0 z.ρ=some ρ')(Q:z.s.heap.objs.size=L)(k:∀b o,z.s.heap.get? b=some o→O.get? b=some o)(t:bA w (M::c.fs) O (ig 7 L z.W))
 (D:O.objs.size=H)(Y:∀b o,O.get? b=some o→U.get? b=some o)(f:U.Ns H m)(d:envl.frame=some H)(j:envl.scope.kind≠.module):aH w (envl::M::c.fs) (Mr g c.pl z.ρ.length H) ρ' U (ig 7 H (ig 7 L z.W)):=by
 obtain⟨B1,T⟩:=AG t D d j f Y;obtain⟨K,s⟩:=B7 J;have N:∀{b o},z.s.heap.get? b=some o→ig 7 L z.W b=zM 7 (z.W b):=λe=>gP (Q▸lt_size e);have R:∀{b o},z.s.heap.get? b=some o→ig 7 H (ig 7 L z.W) b=zM 7 (ig 7 L z.W b):=λe=>gP (D▸lt_size (k _ _ e));refine⟨B1.base,.inl ⟨T,B1.jd.2⟩,K.symm▸z.S.H.len,λi=> ?_,λi S e=> ?_,λi I=> ?_,B1.frames,_,_,H,m,rfl,d,f,congrArg Prod.fst pw⟩
 ·rw[K]
  cases V:fK i g with
  |true=>rw[nW V];exact z.S.H.a9 i
  |false=>
   by_cases lt:i<z.ρ.length
   ·rw[xn V lt];exact⟨λ_ q=>(nomatch q),λ_=>lt⟩
   ·rw[HZ V lt];exact⟨λq=>absurd q lt,λq=>absurd rfl q⟩
 ·have q:=s i S e
  rw[Nat.zero_add]at q;rcases q with⟨V,v,rfl,W⟩|⟨V,rfl⟩
  ·rw[nW V]
   exact jO z.S.H W (λq=>nomatch q) λx a r _=>⟨_,eR a λo E=>Y _ _ (k _ _ E),.inr ⟨_,rfl,VR.step (λb o e l=>⟨Y b o (k b o e),R e▸Mi (.inl rfl) (N e▸Mi (.inl rfl) l)⟩) r⟩⟩
  ·rw[xn V (K▸(List.getElem?_eq_some_iff.mp e).1)]
   exact⟨_,⟨m,f,rfl⟩,.inl rfl⟩
 ·rw[K]at I
  cases V:fK i g with
  |true=>
   rw[nW V];obtain⟨a,A⟩:=(λi h=>(u.eA i h).elim λn q=>(c.O.Ij n q.1).imp λa y=>y.2.2 i q.2) i V;obtain⟨x,p⟩:=z.S.H.cz I;obtain⟨o,E⟩:=p.lt;rw[A]at E⊢;exact .inl (((λe l=>R e▸yA (.inl rfl) ((N e▸yA (.inl rfl) (.inr (.inl l))).imp id .inr)) E (z.cel i a I A)).imp id λq=>.inr (.inr q))
  |false=>
   rw[xn V I];exact .inr ⟨congrArg Prod.fst pw,H,_,rfl⟩
theorem Fd(O:Ca c.cf v sc)(H:∀n,(n,NameKind.free)∈sc.names→C.lookup n=c.env.cells.lookup n):jw (A9 c.cf sc) (envX kj sc L f d C) (Mr v c.pl n L):=
 ⟨O.kind,rfl,rfl,λx i h=>have q:=O.nm x i h;⟨q.2.2.2.2.1,q.2.2.2.2.2,.inr ((c.O.Ij x q.2.2.1).elim λa y=>⟨.inr q.1,a,(H x (mem_of_lookup q.1)).trans y.1,(nW q.2.2.2.1).trans (y.2.2 i q.2.1)⟩)⟩,λx h=>(nomatch h),λx h=>O.gl x h⟩
end
section
variable{w:World}{os:OsState}{F:Nat→Spec}{fn:hM}
theorem LX(h:DH A f lv u)(l:0<lv):DH ((A.deeper g).deeper j) (j::g::f) (lv-1) u:=
 ⟨by show(A.frames.map _).map _=_;rw[h.frames];rfl,h.handled,by have:=h.depth;exact zl 0x2fc6816474793f6fed9a721b739721a49 rfl l this,by have:=h.units;exact zl 0x85ba1021295752b406b8303de72640bce00c0f084bf72e9713afa49 rfl l this⟩
theorem BD(hb:au w os F fn b){c:Fr fn}{z:Zt w os c.fs c.pl}{s:Shared}{R:Result→Shared→Prop}(o:bT fn.g b c.cf y=true)(L:br b≤c.u)(h:ev F b z.ρ k X)(U:bA w f s.heap W)(p:∀b o,s.heap.get? b=some o→z.s.heap.get? b=some o)
 (D:z.W=ig 7 s.heap.objs.size W)(H:c.fs=c.env::f)(j:c.env.frame=some c.env.locals)(g:∀t W' O d ρ,t.gens= #[]→t.os=os→KT s.heap W t.heap W'→VR w t.heap W' O d→(∃r:Rv,r.v=O∧k r ρ)→R (.ok (.ret d)) t)
 (C:∀a m t,X m→XS os f s.heap W a m t→R (.error (.ref a)) t):wpAny (model PP w) c.A (eval (aO fn.g b y) c.env) (λv t=>R (.ok (.ret v)) t) (λJ t=>wpAny (model PP w) c.A (leaving c.env J) (λ_ Q=>R (.error J) Q) (λY Q=>R (.error Y) Q) t) z.s:=
 hb c z y k X _ _ o L h (λr Z v h' J I=>by
  have q:=gN U rfl (.inl rfl) p (D▸KE.fi (Kq.trans J (KE.bo)):KT z.s.heap (ig 7 s.heap.objs.size W) Z.s.heap λa=>lb 2 0 (Z.W a));exact g Z.s _ r.v v Z.ρ Z.S.gens Z.S.os q.1.1.fi (VR.step q.2.1 (a5.cC (KE.bo (u:=0) (h:=Z.s.heap) (W:=Z.W)).kp Fz.v8 I)) ⟨r,rfl,h'⟩)
  λm a S V x=>vg (E:=λe s=>R (.error e) s) z.S.H H c.hA.frames j V x.fi λm a t V x=>C a m t V (XT.Qy U rfl (.inl rfl) p (by rw[←H,←D];exact x))
theorem E6(hb:au w os F fn b):bZ w os F fn (.C i (.dj f v b)):=λc z x N ct rt X Q u o D h K KX=>by
 have W:=aR o;have O:=EH (aL (aR W));have P:=le_of_ble_eq_true (aL (aR (aR W)));have h1:(match mB v 0 z.ρ with
  |some ρ'=>ev F b ρ' (λr _=>bH z.ρ i (.j r.v) N) (λm=>bH z.ρ i (.j (.str m)) N)
  |.none=>False):=h
 cases k:mB v 0 z.ρ with
 |none=>rw[k]at h1;exact h1.elim
 |some ρ'=>
 rw[k]at h1;refine wpAny_Assign_Name (wpAny_Call_Name_kw (dE c.O z.S.H (aL W) (IL _) (callAny (JE rfl) (PyProof.Rows.spliced_more (kla_eval rfl (AS (aL (aR (aR (aR W)))) O.free λA C pm U RN z₁ M n R l RC=>PyProof.Rows.spliced_none ?_)) (aE rfl))))) (bY rfl);have B:=z₁.S.H.b;refine⟨vw ⟨_,_,B.obj (by decide) (by decide) (F9 w.params) rfl,rfl⟩,?_⟩;have j:∀{L:Addr}{H:Heap}(d:z₁.s.heap.objs.size=L)(p:∀b o,z₁.s.heap.get? b=some o→H.get? b=some o)(S:Shared)(W':cw)(g:V)(J:Value),S.gens= #[]→S.os=os→KT H (ig 7 L z₁.W) S.heap W'→VR w S.heap W' g J→bH z.ρ i (.j g) N→
  wpAny (model PP w) c.A (storeName c.env (fg (st x)) J) (λ_=>Q .next) u S:=λ{L}{H}d p S W' g J G E T r s=>
  have q:=gN B d (.inl rfl) p T
  lL (z:=z₁.ke ⟨z₁.ρ,S,_,G,E,z₁.S.H.AH q.1⟩ q.1.1) (aL o) (M▸s) (r.step q.2.1) λRD RE RF=>K.nx RD RE ((n.trans q.1.1.fi).trans RF)
 refine Ad (os:=os) c.hA.frames (Nat.lt_trans (Nat.lt_of_le_of_lt (le_add_right ..) c.hA.depth) (by decide)) B ⟨_,_,R,rfl⟩ λRG L H tk d p Z=> ?_;obtain⟨c2,oc,RH,RI,q1,q2,q3,q4⟩:=l;refine kla_callFunE (Nat.lt_trans (succ_lt_succ (Nat.lt_of_le_of_lt (le_add_right ..) c.hA.depth)) (by decide)) (p _ _ R) rfl O.co O.KG rfl ⟨c2,oc,RH,RI,q1,p _ _ q2,q3,q4⟩ ?_;refine wpAny_pure (a:=[]) (wpAny_newFunctionEnv O.only (λx I=>nomatch I) (λRJ RK RL=> ?_) O.kind);have Y:=λb o e=>RL.extBut b o (ne_of_lt (lt_size e)) (get?_push_of_some _ e);refine⟨Z.lG.keeps Y,kla_codeExpr ?_⟩;have CL:=AW (envl:=envX kj (qD (kd (sv x) 1)) H.objs.size A (.ref U) C) O (M.symm▸k) d p Z rfl Y RK rfl (by show(qD (kd (sv x) 1)).kind≠_;rw[O.kind];decide);exact BD hb (c:=⟨A9 c.cf (qD (kd (sv x) 1)),envX kj (qD (kd (sv x) 1)) H.objs.size A (.ref U) C,_,_,(c.A.deeper RG).deeper _,c.u,Fd O RC,LX c.hA P,Nat.le_trans (Nat.sub_le _ _) c.tp⟩)
  (z:=⟨ρ',{z₁.s with heap:=RJ,toks:=tk},_,z₁.S.gens,z₁.S.os,CL⟩) (aR (aR (aR (aR W)))) D h1 Z Y rfl rfl rfl (λS W' g J _ G E T r s=>s.elim λrr y=>j d p S W' g J G E T r (y.1▸y.2))
  λa m S I xs=>⟨a,m,rfl,xs,λRM t G E T=>j d p RM _ (.str m) (.str m t) G E T (.str m t) I⟩
end
section
variable{w:World}{os:OsState}{F:Nat→Spec}{fn:hM}
structure FE(w:World)(os:OsState)(F:Nat→Spec)(fn:hM)(b:T):Prop where
 s1:bZ w os F fn b
 bk:gw w os F fn b
noncomputable def nK(g:Nat→Fn)(e:E):=(MV g e,K3 g e)
noncomputable def Qw(g:Nat→Fn)(e:E):=((λC v=>(dY (aO g e v)||Al e)&&bT g e C v),aO g e)
noncomputable def Kd(g:Nat→Fn)(e:E):Prop:=(∃f V b,e=.dj f V b)∨nK g e=Qw g e
theorem Kd.i(h:nK g e=Qw g e):Kd g e:=.inr h
theorem Kd.k:Kd g (.dj f vs b):=.inl ⟨_,_,_,rfl⟩
theorem M1(g)(e):Kd g e:=by cases e<;>first|exact .k|exact .i rfl
theorem Nd(e){C:Prop}(h1:∀f m b,e=.dj f m b→C)(h2:(∀c v,MV fn.g e c v=((dY (aO fn.g e v)||Al e)&&bT fn.g e c v))→(∀v,K3 fn.g e v=aO fn.g e v)→C):C:=
 (M1 fn.g e).elim (λ⟨f,m,b,q⟩=>h1 f m b q) λq=>h2 (λc v=>congrFun (congrFun (congrArg (·.1) q) c) v) (λv=>congrFun (congrArg (·.2) q) v)
theorem EP(H:jk w os F fn e):bZ w os F fn (.C i e):=Nd e (λf V b q=>by
 have hb:=H.kp f V b q;subst q;exact E6 hb) λA D=>H2 A D H.ee H.u
theorem vB(h:bZ w os F fn b)(n:∀g C xs,An g b C xs=false):FE w os F fn b:=⟨h,λ_ _ _ _ _ _ _ _ _ o=>x9 (n ..) o⟩
theorem v1(h:gw w os F fn b)(n:∀g C x,Ow g b C x=false):FE w os F fn b:=⟨λ_ _ _ _ _ _ _ _ _ o=>x9 (n ..) o,h⟩
theorem Gd(G:fB w os F fn)(b):FE w os F fn b:=by
 have H:=λe=>Kf G e;induction b with
 |nil=>exact v1 Lp λ_ _ _=>rfl
 |cons a b A I=>exact v1 (Iq A.s1 I.bk) λ_ _ _=>rfl
 |ex e=>exact vB (L5 (H e).ee) λ_ _ _=>rfl
 |C i e=>exact vB (EP (H e)) λ_ _ _=>rfl
 |jo l e=>exact vB (Ea (H e).ee) λ_ _ _=>rfl
 |F0 i j a b=>exact vB (IS (H a).ee (H b).ee) λ_ _ _=>rfl
 |vH i o e=>exact vB (Jf (H e).ee) λ_ _ _=>rfl
 |dx p a b=>exact vB (Ep (H b).ee) λ_ _ _=>rfl
 |lh i n e=>exact vB (EO (H e).ee) λ_ _ _=>rfl
 |wN i n=>exact vB Fs λ_ _ _=>rfl
 |lK i e=>exact vB (Hz (H e).ee) λ_ _ _=>rfl
 |ins i a b=>exact vB (IZ (H a).ee (H b).ee) λ_ _ _=>rfl
 |Hp i=>exact vB HC λ_ _ _=>rfl
 |iff c a b A I=>exact vB (Hg (H c).t A.bk I.bk) λ_ _ _=>rfl
 |tT c b I=>exact vB (HS (H c).t I.bk) λ_ _ _=>rfl
 |bU i t b I=>exact vB (EN (H t).i I.bk) λ_ _ _=>rfl
 |ret e=>exact vB (HF (H e).ee) λ_ _ _=>rfl
 |gv e=>exact vB Du λ_ _ _=>rfl
 |cont=>exact vB FW λ_ _ _=>rfl
 |K=>exact⟨Ce,Fi⟩
end
noncomputable def Cr(t:FT):Fn:=⟨t.I,t.name,t.kd,t.sf⟩
noncomputable def Ap(k:Nat):Fn:=Cr (ft k)
noncomputable def sT(t:FT):List Str:=t.sl.map ofString
noncomputable def qI(t:FT):List Str:=(sT t).take t.ar
noncomputable def mW(P:Params)(t:FT):FuncData:=kR ((Hd.bD P).get t.I)
noncomputable def vy(P:Params)(t:FT):List Stmt:=qK (mW P t)
noncomputable def OS:Option Obj→Bool
|some ⟨_,_,.func _,_⟩=>true
|_=>false
theorem BU(h:OS o=true):∃O,o=some O∧alive O=some O∧O.data=.func (kR o):=by
 cases o with
 |none=>cases h
 |some o=>
  obtain⟨c,d,dd,sl⟩:=o;cases dd<;>first|cases h;done|exact⟨_,rfl,rfl,rfl⟩
noncomputable def P9:Option Obj→Bool
|some ⟨_,_,.fields _,_⟩=>true
|_=>false
theorem IV(h:P9 o=true):∃O,o=some O∧alive O=some O∧O.data=.fields (jm o):=by
 cases o with
 |none=>cases h
 |some o=>
  obtain⟨c,d,dd,sl⟩:=o;cases dd<;>first|cases h;done|exact⟨_,rfl,rfl,rfl⟩
noncomputable def nk:Value→Addr
|.ref a=>a
|_=>0
theorem yo(h:Nat.blt 0 (nk v)=true):v=.ref (nk v):=by cases v<;>first|rfl|cases h
noncomputable def PB(d:FuncData):Bool:=match d.body with
 |.stmts _=>true
 |_=>false
theorem CM(h:PB d=true):d.body=.stmts (qK d):=by
 delta PB at h;delta qK;generalize d.body=b at h;cases b<;>first|rfl|cases h
theorem B6{Y:Type}{l:List Y}(h:l.isEmpty=true):l=[]:=by cases l<;>first|rfl|cases h
noncomputable def xb(names:List (Str×NameKind)):Nat→List Str→List (Str×Nat)
|_,[]=>[]
|i,n::r=>match names.any (jG n)with
 |true=>(n,i)::xb names (i+1) r
 |false=>xb names (i+1) r
theorem EI{n:Str}{i:Nat}:∀{j},aQ n (xb names j l)=some i→∃m,i=j+m∧l[m]? =some n∧names.any (jG n)=true:=by
 induction l with
 |nil=>exactλh=>nomatch h
 |cons x l I=>
  intro j h;have U:aQ n (xb names (j+1) l)=some i→∃m,i=j+m∧(x::l)[m]? =some n∧names.any (jG n)=true:=λh=>(I h).elim λm e=>⟨m+1,e.1.trans (Nat.add_right_comm j 1 m),e.2⟩;have h':aQ n (match names.any (jG x)with|true=>(x,j)::xb names (j+1) l|false=>xb names (j+1) l)=some i:=h;cases e:names.any (jG x)with
  |false=>rw[e]at h';exact U h'
  |true=>
   rw[e]at h';exact(dO h').elim (λq=>⟨0,q.2.symm,congrArg some q.1.symm,q.1.symm▸e⟩) U
noncomputable def MT(t:FT)(k:Nat)(lm:Bool)(sc:Scope):Cf:=⟨xb sc.names 0 (sT t),uW sc.names,tZ sc.names,k,t.fx,lm⟩
noncomputable def PJ(x:Str×NameKind):Bool:= !kB .free x.2&&Ai x.1
noncomputable def Jj(t:FT)(sc:Scope):Bool:=tO sc&&(qZ (sT t)&&(ble (sT t).length 800&&(qZ (sc.names.map (·.1))&&sc.names.all PJ)))
theorem xQ{l:List (Str×NameKind)}(h:l.any (jG n)=true):(n,NameKind.local)∈l∨(n,NameKind.cell)∈l:=(any_eq_true.mp h).elim λp q=>by
 obtain⟨m,k⟩:=p;have e:=aD.mp (aR q.2);subst e;exact(oE (aL q.2)).imp (λy=>(of_decide_eq_true y:k=.local)▸q.1) λy=>(of_decide_eq_true y:k=.cell)▸q.1
theorem Iz:(n,NameKind.cell)∈l→n∈tZ l:=by
 induction l with
 |nil=>exactλh=>nomatch h
 |cons p l I=>
  obtain⟨m,k⟩:=p;intro h;rcases mem_cons.mp h with e|h2
  ·cases e;exact .head _
  ·cases k<;>first|exact .tail _ (I h2)|exact I h2
theorem xE(h:Jj t sc=true):Kj (MT t k lm sc) (sT t) sc:=by
 have N:=gi (aL (aR (aR (aR h))));have E:∀{n k},(n,k)∈sc.names→k≠.free∧Ai n=true:=λ{n k}M=>have q:=all_eq_true.mp (aR (aR (aR (aR h)))) (n,k) M;⟨nB (aL q),aR q⟩;refine⟨of_decide_eq_true (aL h),gi (aL (aR h)),le_of_ble_eq_true (aL (aR (aR h))),λn i I=> ?_,λn H=> ?_,λn H=> ?_⟩
 ·obtain⟨m,g,j,T⟩:=EI I
  rw[Nat.zero_add]at g;subst g;rcases xQ T with m|m
  ·exact⟨j,(gL (E m).2).1,(gL (E m).2).2,.inl (bL N m)⟩
  ·exact⟨j,(gL (E m).2).1,(gL (E m).2).2,.inr ⟨bL N m,Iz m⟩⟩
 ·obtain⟨k,m,K⟩:=uS H
  rcases K with rfl|rfl
  ·exact bL N m
  ·exact absurd rfl (E m).1
 ·have m:=oF H
  exact⟨bL N m,(gL (E m).2).1⟩
noncomputable def F7(g:Nat→Fn)(d:FuncData)(t:FT)(k:Nat)(lm:Bool):Bool:=PB d&&(d.closure.isEmpty&&(beq d.globals 3&&(beq d.builtins 0&&(!d.scope.isCoroutine&&(!d.scope.isGenerator&&(Jj t d.scope&&(ble t.ar (sT t).length&&((qI t).all (λn=>d.scope.names.any (jG n))&&An g t.code (MT t k lm d.scope) (qK d)))))))))
noncomputable def Ct(P:Params)(t:FT):Bool:=match aY t.name (dM P)with
 |some v=>blt 0 (nk v)&&beq (nk v) t.I
 |none=>false
noncomputable def Gi(P:Params)(d:FuncData):Bool:=blt 0 (nk d.code)&&(P9 ((Hd.bD P).get (nk d.code))&&(blt (nk d.code) 914&&(!beq (nk d.code) 910&&(!beq (nk d.code) 912&&(match((jm ((Hd.bD P).get (nk d.code)))[1]?).bind gG with|some q=>ax q d.qualname|none=>false)))))
noncomputable def wY(P:Params)(t:FT)(k:Nat)(g:Nat→Fn):Bool:=OS ((Hd.bD P).get t.I)&&(blt t.I 914&&(!beq t.I 910&&(Gi P (mW P t)&&((!beq t.kd 0||Ct P t)&&F7 g (mW P t) t k false))))
section
variable{w:World}{os:OsState}
structure pR(w:World)(t:FT)(fd:FuncData):Prop where
 h:∀(s:Shared)(fs:List Env)(W:cw)(xs:List Value)(n:Nat),bA w fs s.heap W→t.sf≤xs.length→xs.length+n=t.ar→BindsTo s fd ⟨xs,[]⟩ ((qI t).zip (xs++List.replicate n .none))
theorem Bh(h:∀xs:List Value,xs.length=t.ar→bindArgs d ⟨xs,[]⟩=pure ((qI t).zip xs))(H:Nat.ble t.ar t.sf=true):pR w t d:=⟨λs F W xs n _ h1 h2=>by
 have e:=Nat.le_antisymm (h2▸le_add_right _ n) (Nat.le_trans (le_of_ble_eq_true H) h1);cases(Nat.add_left_cancel (h2.trans (e.symm.trans (Nat.add_zero _).symm)));rw[replicate_zero,append_nil];exact BindsTo.of_eq (h xs e)⟩
theorem Fv(h:Ct w.params t=true):dy w.params t.name (.ref t.I):=by
 delta Ct at h;generalize e:aY t.name (dM w.params)=o at h;cases o with
 |none=>cases h
 |some v=>exact .inl (e.trans (congrArg some ((yo (aL h)).trans (congrArg Value.ref (eq_of_beq_eq_true (aR h))))))
theorem E5(h:Gi P d=true):d.code≠.ref 912∧∃c O v tk,d.code=.ref c∧(Hd.bD P).get c=some O∧alive O=some O∧c<914∧c≠910∧O.data=.fields v∧v[1]? =some (.str d.qualname tk):=by
 have e:=yo (aL h);have H:=aR (aR (aR (aR (aR h))));refine⟨λq=>ne_of_beq_eq_false (nE (aL (aR (aR (aR (aR h)))))) (Value.ref.inj (e.symm.trans q)),(IV (aL (aR h))).elim λO y=> ?_⟩;generalize eq:((jm ((Hd.bD P).get (nk d.code)))[1]?).bind gG=o at H;cases o with
 |none=>cases H
 |some q=>exact(rF eq).elim λtk E=>⟨nk d.code,O,_,tk,e,y.1,y.2.1,le_of_ble_eq_true (aL (aR (aR h))),ne_of_beq_eq_false (nE (aL (aR (aR (aR h))))),y.2.2,aD.mp H▸E⟩
theorem B8{d:FuncData}(h1:Jj t d.scope=true)(h2:(qI t).all (λn=>d.scope.names.any (jG n))=true)(H:n∈qI t):d.scope.names.lookup n=some .local∨d.scope.names.lookup n=some .cell:=
 have N:=gi (aL (aR (aR (aR h1))))
 (xQ (all_eq_true.mp h2 n H)).imp (bL N) (bL N)
theorem CF{i:Nat}(e:(qI t)[i]? =some n):(sT t)[i]? =some n:=by
 delta qI at e;rw[getElem?_take]at e
 by_cases q:i<t.ar
 ·rw[if_pos q]at e;exact e
 ·rw[if_neg q]at e;cases e
theorem H6(h:Nat.ble t.ar (sT t).length=true):(qI t).length=t.ar:=by
 delta qI;rw[length_take];exact Nat.min_eq_left (le_of_ble_eq_true h)
theorem yy(H:g k=Cr t)(h:wY w.params t k g=true)(C:uH g t.code (vy w.params t)=vy w.params t)(hb:pR w t (mW w.params t)):
 AM w ⟨g,top⟩ k (qI t) (sT t) (MT t k false (mW w.params t).scope) (mW w.params t) (uH g t.code (vy w.params t))∧An g t.code (MT t k false (mW w.params t).scope) (vy w.params t)=true∧(qI t).length=t.ar:=by
 have J:=aR (aR (aR (aR (aR h))));have d:=E5 (aL (aR (aR (aR h))));have ob:∃o,(Hd.bD w.params).get (g k).I=some o∧alive o=some o∧(g k).I<914∧(g k).I≠910∧o.data=.func (mW w.params t):=H▸(BU (aL h)).imp λo y=>⟨y.1,y.2.1,Nat.le_of_ble_eq_true (aL (aR h)),Nat.ne_of_beq_eq_false (nE (aL (aR (aR h)))),y.2.2⟩;have R:(g k).sf=t.sf:=by rw[H];rfl
 delta vy at C⊢;generalize mW w.params t=D at*;have h1:=aL (aR (aR (aR (aR (aR (aR J))))));have h2:=aR (aR (aR (aR (aR (aR (aR J))))));have len:=H6 (aL h2);refine⟨⟨ob,C.symm▸CM (aL J),B6 (aL (aR J)),d.1,rfl,eq_of_beq_eq_true (aL (aR (aR J))),eq_of_beq_eq_true (aL (aR (aR (aR J)))),nE (aL (aR (aR (aR (aR J))))),nE (aL (aR (aR (aR (aR (aR J)))))),xE h1,d.2,
  (gi (aL (aR h1))).sublist (take_sublist ..),λi n e=>CF e,len.symm▸(le_of_ble_eq_true (aL h2)),λn N=>B8 h1 (aL (aR h2)) N,λs F W xs n B r P=>hb.h s F W xs n B (R▸r) (len▸P)⟩,aR (aR h2),len⟩
noncomputable def OW(s:Str):Bool:=(range 10).all λn=> !ax s (an n)
theorem Hb(h:OW s=true):∀k,s≠an k:=λk=>by
 have z:∀n,n<10→s≠an n:=λn H=>λq=>bB (nE (all_eq_true.mp h n (mem_range.mpr H))) q.symm
 by_cases q:9≤k
 ·rw[xf q,←xf (Nat.le_refl 9)];exact z 9 (by decide)
 ·exact z k (lt_succ_of_lt (Nat.not_le.mp q))
noncomputable def CU(P:Params)(c:Nat)(t:FT):Prop:=findIn (Kc P c) (.ref (cK c)) t.name=some (some (.ref t.I))∧typeIn (Kc P c) (.ref t.I)=some (.type "function")
structure Dk(w:World)(t:FT)(k:Nat)(g:Nat→Fn):Prop where
 Gy:wY w.params t k g=true∧uH g t.code (vy w.params t)=vy w.params t
 bind:pR w t (mW w.params t)
 br:jY t.code≤40
 zE:(t.kd=1→CU w.params 1 t∧OW t.name=true)∧∀c,c<2→t.kd=2+c→CU w.params c t∧t.name=Str.ofString "__init__"
noncomputable def rL(w:World)(k:Nat):Prop:=Dk w (ft k) k Ap
theorem Dk.ok(Z:Dk w t k g)(hg:g k=Cr t):ET w ⟨g,top⟩ k:=by
 have Y:=(yy (top:=top) hg Z.Gy.1 Z.Gy.2 Z.bind).1;have e:(⟨g,top⟩:hM).g k=Cr t:=hg;refine⟨Y.obj.imp λo y=>⟨_,y⟩,?_,?_,?_⟩
 ·rw[e];exactλq=>Fv ((oE (aL (aR (aR (aR (aR Z.Gy.1)))))).elim (λy=>absurd (nE y) (by rw[show t.kd=0 from q];decide)) id)
 ·rw[e];exactλq=>⟨(Z.zE.1 q).1.1,(Z.zE.1 q).1.2,Hb (Z.zE.1 q).2⟩
 ·rw[e];exactλc H q=>have m:=Z.zE.2 c H q;⟨m.2▸m.1.1,m.1.2⟩
theorem zY(e:F f=O f)(h:xc w os F ⟨g,t⟩ f):xc w os O ⟨g,H⟩ f:=λS A s W T args xs K X R h1 h2 h3 h4 h5 h6 J h8=>h S A s W T args xs K X R h1 h2 h3 h4 h5 h6 J (e▸h8)
theorem uy(H:∀k,k<n→rL w k)(Y:∀k,k<n→xc w os FF ⟨Ap,0⟩ k):fB w os (Ly n) ⟨Ap,n⟩:=⟨λf F=>Dk.ok (H f F) rfl,λf F=>zY (CC F).symm (Y f F)⟩
theorem J2(Z:Dk w t k g)(j:g k=Cr t)(b:FF k=MN (Ly k) t)(H:FE w os (Ly k) ⟨g,k⟩ t.code):xc w os FF ⟨g,0⟩ k:=
 have Y:=yy j Z.Gy.1 Z.Gy.2 Z.bind
 vq Y.1 Y.2.1 rfl (Nat.le_refl k) Z.br (Nat.le_refl 40) (λargs K X h=>by
  rw[b]at h;exact⟨h.1.trans Y.2.2.symm,λq xs=>Ab (h.2.1 q) xs,(length_map (f:=Str.ofString)).symm▸h.2.2⟩) H.bk
theorem Ex(H:∀k,k<n→rL w k):∀k,k<n→xc w os FF ⟨Ap,0⟩ k:=by
 intro k;induction k using Nat.strongRecOn with
 |_ k I=>exactλK=>J2 (H k K) rfl (yv k) (Gd (uy (λj J=>H j (Nat.lt_trans J K)) λj J=>I j J (Nat.lt_trans J K)) _)
end
theorem Cp{Q:List Value→Prop}(h:∀a xs,xs.length=n→Q (a::xs)):∀xs,xs.length=n+1→Q xs:=λxs e=>by
 cases xs with
 |nil=>cases e
 |cons a xs=>exact h a xs (succ.inj e)
theorem PX{Q:List Value→Prop}(h:Q []):∀xs,xs.length=0→Q xs:=λxs e=>by
 cases xs with
 |nil=>exact h
 |cons a xs=>cases e
theorem Bc{Q:List Value→Prop}(h:∀a,Q [a]):∀xs,xs.length=1→Q xs:=Cp λa=>PX (h a)
theorem zh{Q:List Value→Prop}(h:∀a b,Q [a,b]):∀xs,xs.length=2→Q xs:=Cp λa=>Bc (h a)
theorem zX{Q:List Value→Prop}(h:∀a b c,Q [a,b,c]):∀xs,xs.length=3→Q xs:=Cp λa=>zh (h a)
theorem I5{Q:List Value→Prop}(h:∀a b c d,Q [a,b,c,d]):∀xs,xs.length=4→Q xs:=Cp λa=>zX (h a)
theorem PI{Q:List Value→Prop}(h:∀a b c d e,Q [a,b,c,d,e]):∀xs,xs.length=5→Q xs:=Cp λa=>I5 (h a)
noncomputable def qW(d)(xs):{k:Option (Array Value)→Sem (List (Str×Value))//bindArgs d ⟨xs,[]⟩=seqItems? d.defaults>>=k}:=⟨_,rfl⟩
noncomputable def JD:Option Obj→Option (Array Value)
|some ⟨_,_,.seq xs _,_⟩=>some xs
|_=>none
theorem Js(h:JD o=some v):∃O n,o=some O∧alive O=some O∧O.data=.seq v n:=by
 cases o with
 |none=>cases h
 |some o=>
  obtain⟨c,d,dd,sl⟩:=o;cases dd<;>first|cases h;done|(cases h;exact⟨_,_,rfl,rfl,rfl⟩)
section
variable{w:World}
theorem xF{T:Addr}(hd:d.defaults=.ref T)(H:Nat.blt T 910=true)(O:JD ((Hd.bD w.params).get T)=some items)
 (hb:∀(xs:List Value)(n:Nat),t.sf≤xs.length→xs.length+n=t.ar→(qW d xs).1 (some items)=pure ((qI t).zip (xs++List.replicate n .none))):pR w t d:=by
 refine⟨λs F W xs n B h1 h2=> ?_⟩;obtain⟨o,m,g,j,N⟩:=Js O;have lt:=le_of_ble_eq_true H;intro M A E Q q;have x:=hb xs n h1 h2;generalize qW d xs=K at x;obtain⟨k,e⟩:=K;rw[e,hd];refine wpAny_bind (wpAny_seqItems (B.obj (Nat.lt_of_lt_of_le lt (by decide)) (ne_of_lt lt) g j) N ?_);rw[show k (some items)=_ from x];exact wpAny_pure q
theorem Bi{T:Addr}(hd:d.defaults=.ref T)(H:Nat.blt T 910=true)(o:JD ((Hd.bD w.params).get T)=some items)(r:t.sf=a∧t.ar=a)
 (b:∀xs:List Value,xs.length=a→(qW d xs).1 (some items)=pure ((qI t).zip (xs++List.replicate 0 .none))):pR w t d:=xF hd H o λxs n h1 h2=>by
 obtain⟨B,R⟩:=r;obtain rfl:n=0:=zl 0x42b241b2ebe645952d59937 rfl h1 h2 B R;exact b xs (zl 575834082732365 rfl R h2)
theorem CK{T:Addr}(hd:d.defaults=.ref T)(H:Nat.blt T 910=true)(o:JD ((Hd.bD w.params).get T)=some items)(r:t.sf=a∧t.ar=a+1)
 (b:∀xs:List Value,xs.length=a+1→(qW d xs).1 (some items)=pure ((qI t).zip (xs++List.replicate 0 .none)))(b1:∀xs:List Value,xs.length=a→(qW d xs).1 (some items)=pure ((qI t).zip (xs++List.replicate 1 .none))):pR w t d:=xF hd H o λxs n h1 h2=>by
 obtain⟨B,R⟩:=r;rcases(by exact zl 0x7e299cea2d82bbdaac31952d59937 rfl h1 h2 B R:n=0∨n=1)with rfl|rfl
 ·exact b xs (zl 0x21459e2cafcdc73e05 rfl R h2)
 ·exact b1 xs (zl 0x82edfba2fc73e05 rfl R h2)
end
noncomputable def BK(P:Params)(k:Nat)(items:Array Value)(n:Nat)(xs:List Value):Prop:=(qW (mW P (ft k)) xs).1 (some items)=pure ((qI (ft k)).zip (xs++replicate n .none))
section
variable{w:World}
noncomputable def BQ(w:World)(k:Nat):Prop:=pR w (ft k) (mW w.params (ft k))
theorem OC(k T:Nat)(items)(h1:(mW w.params (ft k)).defaults=.ref T)(h2:JD ((Hd.bD w.params).get T)=some items)(h3:((ft k).sf,(ft k).ar)=(a,a))(H:Nat.blt T 910=true)(b:∀xs:List Value,xs.length=a→BK w.params k items 0 xs):BQ w k:=Bi h1 H h2 (Prod.mk.inj h3) b
theorem P8(k T:Nat)(items)(h1:(mW w.params (ft k)).defaults=.ref T)(h2:JD ((Hd.bD w.params).get T)=some items)(h3:((ft k).sf,(ft k).ar)=(a,a+1))(H:Nat.blt T 910=true)(b:∀xs:List Value,xs.length=a+1→BK w.params k items 0 xs)(b1:∀xs:List Value,xs.length=a→BK w.params k items 1 xs):BQ w k:=CK h1 H h2 (Prod.mk.inj h3) b b1
theorem OP:BQ w 26:=OC 26 212 #[.int 7 451] (by kernel_rfl) (by kernel_rfl) (by kernel_rfl) rfl (zh λ_ _=>by unfold BK;kernel_rfl)
theorem NG:BQ w 27:=P8 27 301 #[.none] (by kernel_rfl) (by kernel_rfl) (by kernel_rfl) rfl (I5 λ_ _ _ _=>by unfold BK;kernel_rfl) (zX λ_ _ _=>by unfold BK;kernel_rfl)
theorem Nq:BQ w 52:=OC 52 638 #[.none] (by kernel_rfl) (by kernel_rfl) (by kernel_rfl) rfl (zX λ_ _ _=>by unfold BK;kernel_rfl)
theorem Pq:BQ w 54:=P8 54 651 #[.none] (by kernel_rfl) (by kernel_rfl) (by kernel_rfl) rfl (zX λ_ _ _=>by unfold BK;kernel_rfl) (zh λ_ _=>by unfold BK;kernel_rfl)
theorem Oa:BQ w 64:=OC 64 716 #[.bool false,.bool true] (by kernel_rfl) (by kernel_rfl) (by kernel_rfl) rfl (zX λ_ _ _=>by unfold BK;kernel_rfl)
noncomputable def ye(P:Params)(k:Nat):Bool:=wY P (ft k) k Ap&&(ble (jY (ft k).code) 40&&(beq (ft k).kd 0||((beq (ft k).kd 1&&OW (ft k).name)||((beq (ft k).kd 2||beq (ft k).kd 3)&&ax (ft k).name (ofString "__init__")))))
noncomputable def kc(k:Nat):Nat:=cond (beq (ft k).kd 1) 1 ((ft k).kd-2)
noncomputable def P1(P:Params)(k:Nat):Option (Option Value)×Option Value:=cond (beq (ft k).kd 0) (none,none) (findIn (Kc P (kc k)) (.ref (cK (kc k))) (ft k).name,typeIn (Kc P (kc k)) (.ref (ft k).I))
noncomputable def OA(k:Nat):Option (Option Value)×Option Value:=cond (beq (ft k).kd 0) (none,none) (some (some (.ref (ft k).I)),some (.type "function"))
noncomputable def HM{Y U}(f:Y→U)(l:List Y):List U:=l.foldr (λa r=>f a::r) []
theorem yR{f g:Y→U}(h:l.map f=HM g l):∀k∈l,f k=g k:=by
 induction l with
 |nil=>exactλk q=>by cases q
 |cons a l I=>
  obtain⟨h1,h2⟩:=cons.inj h;exactλk q=>(mem_cons.mp q).elim (λe=>e▸h1) (I h2 k)
theorem QH(h:n<2)(q:n=2+c):False:=Nat.lt_irrefl _ (Nat.lt_of_lt_of_le (q▸h) (le_add_right 2 c))
theorem I7(h:ye w.params k=true)(t:uH Ap (ft k).code (vy w.params (ft k))=vy w.params (ft k))(H:P1 w.params k=OA k)(hb:BQ w k):rL w k:=by
 have m:∀{b c},Nat.beq (ft k).kd 0=b→kc k=c→b=false→CU w.params c (ft k):=λE j N=>by
  unfold P1 OA at H;rw[E,j,N]at H;exact Prod.mk.inj H
 refine⟨⟨aL h,t⟩,hb,le_of_ble_eq_true (aL (aR h)),λq=> ?_,λc C q=> ?_⟩
 ·rcases oE (aR (aR h))with y|y
  ·exact nomatch q.symm.trans (eq_of_beq_eq_true y)
  ·refine⟨m rfl (by unfold kc;rw[q];rfl) (by rw[q];rfl),?_⟩
   rcases oE y with y|y
   ·exact aR y
   ·rw[q]at y;cases aL y
 ·rcases oE (aR (aR h))with y|y
  ·exact(QH (by decide) ((eq_of_beq_eq_true y).symm.trans q)).elim
  ·refine⟨m rfl (by unfold kc;rw[q,Nat.add_comm];rfl) (by rw[q,Nat.add_comm];rfl),?_⟩
   rcases oE y with y|y
   ·exact(QH (by decide) ((eq_of_beq_eq_true (aL y)).symm.trans q)).elim
   ·exact aD.mp (aR y)
noncomputable def GZ(w:World)(n:Nat):Prop:=∀k,k<n→rL w k
theorem jB(o:l.all (ye w.params)=true)(H:(l.all λk=>Nat.beq (ft k).ar n&&Nat.ble n (ft k).sf)=true)(h:∀xs:List Value,xs.length=n→l.map (λk=>bindArgs (mW w.params (ft k)) ⟨xs,[]⟩)=HM (λk=>pure ((qI (ft k)).zip xs)) l):∀k∈l,BQ w k:=λk K=>
 have a:=all_eq_true.mp H k K;have e:=eq_of_beq_eq_true (aL a)
 Bh (λxs x=>yR (h xs (x.trans e)) k K) (e.symm▸aR a)
theorem dg(H:l.all (ye w.params)=true)(t:l.map (λk=>(uH Ap (ft k).code (vy w.params (ft k)),P1 w.params k))=HM (λk=>(vy w.params (ft k),OA k)) l)(hb:∀k∈l,BQ w k):∀k∈l,rL w k:=λk K=>
 have e:=Prod.mk.inj (yR t k K)
 I7 (all_eq_true.mp H k K) e.1 e.2 (hb k K)
noncomputable abbrev PU:List Nat:=[2,3,4,5,6,11,13,15,16,19,28,29]
theorem Qd:PU.all (ye w.params)=true:=by kernel_rfl
theorem Q0:∀k∈PU,rL w k:=dg Qd (by kernel_rfl) (jB Qd (by kernel_rfl) (Bc λ_=>by kernel_rfl))
noncomputable abbrev OZ:List Nat:=[30,31,32,33,34,37,38,39,43,46,48,50]
theorem Qf:OZ.all (ye w.params)=true:=by kernel_rfl
theorem Q3:∀k∈OZ,rL w k:=dg Qf (by kernel_rfl) (jB Qf (by kernel_rfl) (Bc λ_=>by kernel_rfl))
noncomputable abbrev Pe:List Nat:=[51,57,65,66,71,75,76,78,81,82,86,87]
theorem Qb:Pe.all (ye w.params)=true:=by kernel_rfl
theorem Q6:∀k∈Pe,rL w k:=dg Qb (by kernel_rfl) (jB Qb (by kernel_rfl) (Bc λ_=>by kernel_rfl))
noncomputable abbrev M7:List Nat:=[91]
theorem QI:M7.all (ye w.params)=true:=by kernel_rfl
theorem QZ:∀k∈M7,rL w k:=dg QI (by kernel_rfl) (jB QI (by kernel_rfl) (Bc λ_=>by kernel_rfl))
noncomputable abbrev OB:List Nat:=[0,1,7,8,9,10,12,14,18,20,21,22]
theorem Qo:OB.all (ye w.params)=true:=by kernel_rfl
theorem QW:∀k∈OB,rL w k:=dg Qo (by kernel_rfl) (jB Qo (by kernel_rfl) (zh λ_ _=>by kernel_rfl))
noncomputable abbrev O1:List Nat:=[23,24,25,35,36,40,41,44,47,49,53,55]
theorem Qz:O1.all (ye w.params)=true:=by kernel_rfl
theorem Rt:∀k∈O1,rL w k:=dg Qz (by kernel_rfl) (jB Qz (by kernel_rfl) (zh λ_ _=>by kernel_rfl))
noncomputable abbrev O0:List Nat:=[62,63,67,68,72,74,83,84,85,88,89]
theorem Qc:O0.all (ye w.params)=true:=by kernel_rfl
theorem Q4:∀k∈O0,rL w k:=dg Qc (by kernel_rfl) (jB Qc (by kernel_rfl) (zh λ_ _=>by kernel_rfl))
noncomputable abbrev OG:List Nat:=[17,42,45,56,77,79,80,92]
theorem QA:OG.all (ye w.params)=true:=by kernel_rfl
theorem Rb:∀k∈OG,rL w k:=dg QA (by kernel_rfl) (jB QA (by kernel_rfl) (zX λ_ _ _=>by kernel_rfl))
noncomputable abbrev OV:List Nat:=[61,69,70,73,90]
theorem QB:OV.all (ye w.params)=true:=by kernel_rfl
theorem Rf:∀k∈OV,rL w k:=dg QB (by kernel_rfl) (jB QB (by kernel_rfl) (I5 λ_ _ _ _=>by kernel_rfl))
noncomputable abbrev Pf:List Nat:=[58,59,60]
theorem Qh:Pf.all (ye w.params)=true:=by kernel_rfl
theorem QT:∀k∈Pf,rL w k:=dg Qh (by kernel_rfl) (jB Qh (by kernel_rfl) (PI λ_ _ _ _ _=>by kernel_rfl))
noncomputable abbrev Jr:List Nat:=[26,27,52,54,64]
theorem Nv:Jr.all (ye w.params)=true:=by kernel_rfl
theorem NV:∀k∈Jr,rL w k:=dg Nv (by kernel_rfl) λk H=>by
 rcases mem_cons.mp H with rfl|H
 ·exact OP
 rcases mem_cons.mp H with rfl|H
 ·exact NG
 rcases mem_cons.mp H with rfl|H
 ·exact Nq
 rcases mem_cons.mp H with rfl|H
 ·exact Pq
 cases mem_singleton.mp H;exact Oa
theorem dH{l m:List Nat}(h:∀k∈l,rL w k)(g:∀k∈m,rL w k):∀k∈l++m,rL w k:=λk q=>(mem_append.mp q).elim (h k) (g k)
theorem G8:((range 93).all λk=>(PU++(OZ++(Pe++(M7++(OB++(O1++(O0++(OG++(OV++(Pf++Jr)))))))))).any (beq k))=true:=by kernel_rfl
theorem OQ(w):GZ w 93:=λk H=>by
 obtain⟨m,h1,h2⟩:=any_eq_true.mp (all_eq_true.mp G8 k (mem_range.mpr H));cases eq_of_beq_eq_true h2;exact(dH Q0 (dH Q3 (dH Q6 (dH QZ (dH QW (dH Rt (dH Q4 (dH Rb (dH Rf (dH QT (NV))))))))))) k h1
end
noncomputable def Co(P:Params)(t:FT)(g:Nat→Fn):Bool:=OS ((Hd.bD P).get t.I)&&(F7 g (mW P t) t 93 true&&ble (jY t.code) 40)
theorem FP(P):Co P (ft 93) Ap=true∧uH Ap (ft 93).code (vy P (ft 93))=vy P (ft 93):=⟨by kernel_rfl,by kernel_rfl⟩
theorem Bd(P):∀x,bindArgs (mW P (ft 93)) ⟨[x],[]⟩=pure [(ofString "script",x)]:=λx=>by kernel_rfl
theorem CR(P):(mW P (ft 93)).code=.ref 912∧((jm ((Hd.bD P).get 912))[1]?).bind gG=some (mW P (ft 93)).qualname∧((mW P (ft 93)).qualname++(".<locals>."))++("<lambda>")=kj:=⟨by kernel_rfl,by kernel_rfl,by kernel_rfl⟩
theorem FO:(ft 93).I=913∧(ft 93).ar=1∧qI (ft 93)=[ofString "script"]∧(ft 93).fx=false:=⟨by kernel_rfl,by kernel_rfl,by kernel_rfl,by kernel_rfl⟩
theorem Dn(P):(Hd.H1 P).get? 910=some (cD #[]):=l8 (by decide) (by kernel_rfl) rfl
noncomputable def FD:cw:=dC (λ_=>(0,0)) 910 (5,0)
theorem NL(n:b≠910):(FD b).1=0:=congrArg Prod.fst (bV n)
theorem xw:(FD 910).1=5:=congrArg Prod.fst aJ
section
variable{w:World}{os:OsState}
theorem aH.PO(C:aH w fs pl ρ h W)(l:(W 910).1=5)(e9:h.get? 910=some (cD vs))(TO:oH h W vs.toList):aH w fs pl ρ h (dC W 910 (4,0)):=by
 have N:∀{b n},n≠5→(W b).1=n→dC W 910 (4,0) b=W b:=λN q=>bV λe=>N (q.symm.trans (e▸l));have K:Kp h W h (dC W 910 (4,0)):=λb o e Q=>⟨e,(N (by decide) Q).symm▸Q⟩;have M:∀j,Mv h W (10+j) h (dC W 910 (4,0)) (10+j):=λj b o e J=>⟨e,(N (Nat.ne_of_gt (Nat.lt_of_lt_of_le (by decide) (Nat.le_add_right 10 j))) J).trans (Prod.ext J rfl)⟩;exact⟨λb o e n=>have z:=C.base b o e n;⟨z.1,(congrArg Prod.fst (bV n)).trans z.2⟩,.inr ⟨congrArg Prod.fst aJ,vs,e9,TO.step K⟩,C.len,C.a9,λi S e=>(C.slots i S e).imp λx q=>⟨q.1,q.2.imp id λy=>y.imp λv y=>⟨y.1,y.2.cY K (M i)⟩⟩,
  λi H=>(bV (zP C H e9).symm).symm▸C.bG i H,λenv E=>have y:=C.frames env E;⟨y.1,y.2.imp λL y=>y.imp λm y=>⟨y.1,y.2.1,(λq=>q.elim (λy=>.inl ((congrArg Prod.fst (N (by decide) y)).trans y)) λy=>.inr ((congrArg Prod.fst (N (by decide) y)).trans y)) y.2.2⟩⟩,
  C.head.imp λenv y=>y.imp λO y=>y.imp λL y=>y.imp λm y=>⟨y.1,y.2.1,y.2.2.1,(congrArg Prod.fst (N (by decide) y.2.2.2)).trans y.2.2.2⟩⟩
theorem Ia{sl ps:List Str}(H:At d L)(x:InCallC s L (bindL (callEnvC d L a).kindOf (ps.zip vals) λ_=>none) (callEnvC d L a).cells (bindC (callEnvC d L a).kindOf (ps.zip vals) λ_=>none) j)(Q:((ps.zip vals).map (·.1)).Nodup)
 (D:∀{i:Nat}{n v},sl[i]? =some n→vals[i]? =some v→(n,v)∈ps.zip vals)(C:∀n∈ps,d.scope.names.lookup n=some .local∨d.scope.names.lookup n=some .cell):∀i n,sl[i]? =some n→nc (callEnvC d L a) sl i≠.cell 910∧((∃c,nc (callEnvC d L a) sl i=.cell c∧L<c)∨nc (callEnvC d L a) sl i=.ns L n)∧∃x,(nc (callEnvC d L a) sl i).At j.heap x∧∀v,vals[i]? =some v→x=some v:=λi n h=>
 ⟨Gn H h,fH H h (λc k O _ e l=>⟨.inl ⟨c,e,l⟩,_,by rw[e];exact x.cell n c O,λv V=>(iZ (m:=λ_=>none) Q (D h V)).2 λq=>nomatch k.symm.trans (q:d.scope.names.lookup n=some .local)⟩)
  λk e=>⟨.inr e,_,by rw[e];exact⟨_,x.toInCall.ns,rfl⟩,λv V=>(iZ (m':=λ_=>none) Q (D h V)).1 ((C n (of_mem_zip (D h V)).1).resolve_right k)⟩⟩
theorem MI(H:∀b o,(Hd.H1 w.params).get? b=some o→h.get? b=some o)(p:∀b o,h.get? b=some o→U.get? b=some o)(k':KT U (dC (ig 7 h.objs.size FD) 910 (4,0)) h' W'):OldK h h':=by
 have E:=H _ _ (Dn w.params);have O:=λb ob q e=>(k'.ex b ob (p _ _ e) (by
  rw[bV q,gP (lt_size e)];exact .inl (Mi (.inl rfl) (NL q)))).1
 obtain⟨_,more,N⟩:=k'.jd _ (congrArg Prod.fst aJ) (p _ _ E);refine⟨λb ob e=> ?_,λb ob e=> ?_⟩
 ·by_cases q:b=910
  ·subst q
   cases E.symm.trans e;exact .inr (.inl ⟨⟨912,_,_,H _ _ (l8 (a:=912) (by decide) (Jq w.params) rfl),rfl,rfl,(Lh w.params).1⟩,rfl,_,more,rfl,N⟩)
  ·exact .inl (O b ob q e)
 ·by_cases q:b=910
  ·exact q▸⟨_,N⟩
  ·exact⟨ob,O b ob q e⟩
end
section
variable{w:World}{os:OsState}
theorem Dt{b:T}{fn:hM}(H:gw w os F fn b){c:vh fn}{z:dw w os c}{h:Heap}{R:Result→Shared→Prop}{E:Value→Shared→Prop}(ok:An fn.g b c.cf body=true)(u:jY b≤c.u)(Y:∀b o,(Hd.H1 w.params).get? b=some o→h.get? b=some o)(p:∀b o,h.get? b=some o→z.s.heap.get? b=some o)
 (D:z.W=dC (ig 7 h.objs.size FD) 910 (4,0))(g:ex F b z.ρ (λρ=>Rv.j .none=.j (.bool true)) (λ_=>False) (λr ρ=>r=.j (.bool true)) (λ_=>False))(C:∀t,t.gens= #[]→t.os=os→OldK h t.heap→R (.ok (.ret (.bool true))) t):
 wpAny (model PP w) c.A (execs (uH fn.g b body) c.env) (λf t=>R (.ok (.ret (match f with|.ret v=>v|_=>.none))) t) E z.s:=
 H c z body _ _ _ _ _ _ ok u g ⟨λZ h k=>(nomatch h),λZ h=>h.elim,λr Z v h' k' O=>by
  subst h';have rv:VR w Z.s.heap Z.W (.bool true) v:=O;cases rv;exact C Z.s Z.S.gens Z.S.os (MI (W':=Z.W) Y p (D▸k'))⟩ λm a t h' _=>h'.elim
theorem EM{t:FT}{R:Result→Shared→Prop}(M:GZ w 93)(H:∀b o,(Hd.H1 w.params).get? b=some o→s.heap.get? b=some o)(g:s.gens= #[])(o:s.os=os)(Q:VR w s.heap FD (.o l) x)
 (L:Co w.params t Ap=true∧uH Ap t.code (vy w.params t)=vy w.params t)(D:bindArgs (mW w.params t) ⟨[x],[]⟩=pure [(Str.ofString "script",x)])
 (J:(mW w.params t).code=.ref 912∧((jm ((Hd.bD w.params).get 912))[1]?).bind gG=some (mW w.params t).qualname∧((mW w.params t).qualname++(".<locals>.":Str))++("<lambda>":Str)=kj)(O:t.I=913∧t.ar=1∧qI t=[Str.ofString "script"]∧t.fx=false)
 (u:wb (Ly 93) t.sl.length t.code [.j (.o l)] (λr _=>r=.j (.bool true)) (λ_=>False))
 (f:∀d,d.gens= #[]→d.os=os→OldK s.heap d.heap→R (.ok (.ret (.bool true))) d):codeAny (model PP w) callerA (.call (.ref 913) ⟨[x],[]⟩) R s:=by
 have K:=aL (aR L.1);have br:jY t.code≤40:=Nat.le_of_ble_eq_true (aR (aR L.1));obtain⟨ob,I,m,P⟩:=BU (aL L.1);have P:ob.data=.func (mW w.params t):=P;have T:=L.2;obtain⟨Z,G,Y,RC⟩:=O;rw[Z]at I;delta vy at T;clear L;generalize mW w.params t=F at*;have h1:=aL (aR (aR (aR (aR (aR (aR K))))));have h2:=aR (aR (aR (aR (aR (aR (aR K))))));have h3:(qI t).all (λn=>F.scope.names.any (jG n))=true:=aL (aR h2);have sc:=xE (k:=93) (lm:=true) h1;have B:bA w [] s.heap FD:=⟨λb o e n=>⟨H b o e,NL n⟩,⟨.inr (.inr xw),#[],H _ _ (Dn _)⟩,λenv E=>nomatch E⟩;obtain⟨tq,c4⟩:=rF J.2.1;have xy:=Heap.lt_size (H _ _ (Dn _));have A:∀n∈[Str.ofString "script"],F.scope.names.lookup n=some .local∨F.scope.names.lookup n=some .cell:=λn hn=>B8 h1 h3 (Y▸hn);refine codeAny_call_function (by decide+kernel) (B.obj (a:=913) (by decide) (by decide) I m) P (nE (aL (aR (aR (aR (aR K)))))) (nE (aL (aR (aR (aR (aR (aR K))))))) (T.symm▸CM (aL K):F.body=.stmts (uH Ap t.code (qK F))) ⟨912,_,_,tq,J.1,B.obj (a:=912) (by decide) (by decide) (Jq w.params) rfl,rfl,c4⟩ ?_;rw[D];refine wpAny_pure ?_;rw[B6 (aL (aR K))];refine wpAny_newFunctionEnv_cells sc.kind (λy hy=>(A y.1 (by rw[List.mem_singleton.mp hy];exact .head _)).imp id λq=>⟨q,(iY q).elim λc hc=>by rw[hc];rfl⟩) λenv E j X=> ?_;subst E;refine⟨B.lG.keeps X.toInCall.keep,codeAny_func ?_⟩;have U:At F s.heap.objs.size:=⟨xy,X.apart,X.above⟩;have pre:∀{i:Nat}{n v},(sT t)[i]? =some n→[x][i]? =some v→(n,v)∈[Str.ofString "script"].zip [x]:=λ{i n v}e1 N=>by
  cases i with
  |zero=>
   have e:(qI t)[0]? =some (Str.ofString "script"):=by rw[Y];rfl
   cases N;cases(CF e).symm.trans e1;exact .head _
  |succ i=>cases N
 have W:=Ia (a:=913) (sl:=sT t) (ps:=[Str.ofString "script"]) (vals:=[x]) U X (List.nodup_cons.mpr ⟨λh=>(nomatch h),List.nodup_nil⟩) pre A;have le:=G▸Nat.le_of_ble_eq_true (aL h2);have V:=GP (args:=[.j (.o l)]) (vals:=[x]) (t:=7) B g o rfl (.inl rfl) X.toInCall (by rw[show(callEnvC F s.heap.objs.size 913).scope=F.scope from rfl,sc.kind];decide) rfl le sc.len
  (λi S e=>by
   cases i with
   |zero=>cases e;exact⟨x,rfl,Q,.inl rfl⟩
   |succ i=>cases e) (λi h=>iW h) W
 have ln:([Mine.Internal.S.j (.o l)]++List.replicate ((sT t).length-1) Mine.Internal.S.y).length=(sT t).length:=by rw[List.length_append,List.length_replicate];exact Nat.add_sub_cancel' le
 have l5:(ig 7 s.heap.objs.size FD 910).1=5:=by
  rw[gP xy];exact pF (C:=λp=>p.1=5) (by rw[xw];decide) (λq=>nomatch xw.symm.trans q) (λq=>by rw[xw]at q;exact absurd q (by decide)) λ_ _=>rfl
 have e9:j.heap.get? 910=some (cD #[]):=X.toInCall.keep _ _ (H _ _ (Dn _));have C4:=V.H.PO l5 e9 ⟨trivial,λp cv e=>nomatch e⟩;exact Dt (Gd (uy M (Ex M)) t.code).bk (c:=Az (a:=913) U sc (Nat.eq_of_beq_eq_true (aL (aR (aR K)))) (Nat.eq_of_beq_eq_true (aL (aR (aR (aR K))))) [] (callerA.deeper (callEnvC F s.heap.objs.size 913)) 40 ⟨rfl,rfl,by show(1+claimMargin)+1+4*93<880;decide,by show 4+3+60*93+40+70<9900;decide⟩ (Nat.le_refl 93) none (.inl rfl) (λ_=>⟨J.1,J.2.2⟩))
  (z:=⟨⟨_,j,dC (ig 7 s.heap.objs.size FD) 910 (4,0),V.gens,V.os,C4⟩,λi c hi e=>by
   by_cases q:c=910
   ·exact q▸congrArg Prod.fst aJ
   ·exact(congrArg Prod.fst (bV q)).trans (Bf W (ln▸hi) e),λv e=>(nomatch e),λ_=>congrArg Prod.fst aJ⟩) (aR (aR h2)) br H X.toInCall.keep rfl (by
    have u:=u;rw[←List.length_map (as:=t.sl)]at u;exact u) f
end
theorem LB(P):aY (ofString "law") (dM P)=some (.ref 913):=by kernel_rfl
theorem E3(h:WShape.hasItems [] xs .int=true):∃l:List Int,xs=l.map WData.int:=by
 have z:=hasItemsW_at h;induction xs with
 |nil=>exact⟨[],rfl⟩
 |cons d xs I=>
  obtain⟨i,e⟩:=hasW_int (z d (.head _));obtain⟨l,E⟩:=I (by rw[hasItems_all]at h⊢;simp only[List.all_cons,Bool.and_eq_true]at h;exact h.2) λd hd=>z d (.tail _ hd);exact⟨i::l,by rw[e,E];rfl⟩
theorem EK(h:PySem.Challenge.rw_nz0536_01.row.pre.holds [] {args:=[.list xs]}=true):xs.length≤63:=by
 by_cases q:xs.length≤63
 ·exact q
 ·exfalso
  have e:PySem.Challenge.rw_nz0536_01.row.pre=.and (.not (.lt (.lit (.int 63)) (.len (.arg 0)))) (.lit (.bool true)):=rfl;rw[e]at h;have lt:(63:Int)<(xs.length:Int):=zl 0x511872f51981b rfl q;have E:Num.less? (.int 63) (.int xs.length)=some true:=by show some (decide _)=_;rw[decide_eq_true lt]
  simp[WTm.holds,WTm.value,less?,E]at h
theorem wc{l:List Int}:∀{v},WellAll P h v (l.map WData.int)→cW w h W (l.map V.int) v:=by
 induction l with
 |nil=>intro v q;cases q;exact .nil
 |cons i l I=>intro v q;cases q with|cons x r=>cases x;exact .cons (.int i _) (I r)
theorem Mt(H:∀t:List Int,t.length≤63→wb (Ly 93) (ft 93).sl.length (ft 93).code [.j (.o (t.map V.int))] (λr _=>r=.j (.bool true)) (λ_=>False)):
 WalkO Hd.qq Hd.loose (λ_ _=>True) Hd.YP Hd.RW.row.toRowW Hd.tP [] λf v=>PySem.call f v:=by
 intro w T s mg mb G Y a o p D doc Q K A hd I x L X args vals as F z i u c;obtain⟨h1,h2⟩:=pre_splitW F;obtain⟨d,r,rfl,h3,h4⟩:=hasAllW_cons h1;obtain rfl:=hasAllW_nil h4;obtain⟨xs,rfl,h5⟩:=hasW_list h3;obtain⟨l,rfl⟩:=E3 h5;have N:=EK h2;rw[length_map]at N;cases u with
 |cons M y=>
 cases y;cases M with
 | @list b v _ hb Z=>
 have rv:=wc (W:=FD) (w:=w) Z;have m:=rv.length.symm.trans (length_map (f:=V.int));have j:s.heap.Ns mainGlobals (λn=>aY n (dM w.params)):=⟨_,_,_,Y _ _ (l8 (by decide) (u5 w.params) rfl),rfl,cG (jf _),λn=>iT (cG (jf _))⟩;have U:=G.T.g.eq_nsMap.trans j.eq_nsMap.symm;have C:a=913:=by
  have E:=L;rw[U]at E;have B:=(LB w.params).symm.trans E;cases B;rfl
 subst C;have J:b≠910:=λq=>by
  rw[q,(Y _ _ (Dn w.params))]at hb;cases hb
 refine wpAny_call (codeAny_mono (EM (R:=λr S=>(r=.ok (.ret (.bool true))∧S.gens= #[]∧S.os=s.os∧OldK s.heap S.heap)) (OQ w) Y X rfl (.o (n:=0) hb (NL J) (by rw[m];exact Nat.le_trans N (by decide)) rv) (FP w.params) (Bd w.params _) (CR w.params) FO (H l N) λS g o k=>⟨rfl,g,o,k⟩) λr S h=> ?_);obtain⟨rfl,P,O,k'⟩:=h;refine⟨.inl ⟨_,.bool true,[],rfl,λcls=>rfl,.bool true,?_,λ_=>⟨nodup_nil,λa A=>by cases A⟩⟩,k',O,?_⟩
 ·show(WShape.has [] (.bool true) .bool&&(WTm.eq .res (.lit (.bool true))).holds [] {args:=[WData.list (l.map WData.int)],res:=some (.bool true),after:=[WData.list (l.map WData.int)]})=true
  kernel_rfl
 ·exact .of_eq P
theorem a9(H:∀t:List Int,t.length≤63→wb (Ly 93) (ft 93).sl.length (ft 93).code [.j (.o (t.map V.int))] (λr _=>r=.j (.bool true)) (λ_=>False)):PySem.Challenge.rw_nz0536_01.Holds:=Hd.top (Mt H)
end Mine.Internal
theorem PySem.Challenge.cw_nz0536_01_holds : PySem.Challenge.rw_nz0536_01.Holds := by
 exact Mine.Internal.a9 fun s _ => Mine.Internal.JA s
