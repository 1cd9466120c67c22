import PyProof.Rows.All
import Wide.All
import OpenK.AllK
import Wide.FinOn
import PySem.Challenge.RW_pq1345_01
set_option Elab.async false
set_option bootstrap.genMatcherCode false
set_option genSizeOf false
set_option maxRecDepth 100000
set_option linter.unusedVariables false
set_option linter.unusedSimpArgs false
section
open PySem PySem.W PyProof.Rows
set_option maxHeartbeats 0
namespace Mine
theorem said1:noRoadLSs { strict:=!(importedModules PySem.Challenge.rw_pq1345_01.row.prog.main.body).all cThrough.contains,foot:=none,bare:=List.filter (readsOut PySem.Challenge.rw_pq1345_01.row.prog PySem.Challenge.rw_pq1345_01.row.prog.main.body) [Str.ofString "vars",Str.ofString "dir",Str.ofString "locals"] } PySem.Challenge.rw_pq1345_01.row.prog.main.body = true:=by
  rewrite [PySem.W.Fast.te2368527892694137696,PySem.W.R.allR_eq,PySem.W.Fast.te3471404346716756564,PySem.W.Fast.sDec_eq,PySem.W.Fast.te8326940854005059898,PySem.W.Fast.te5923862056798008813,PySem.W.Fast.te17691160309236699985,PySem.W.R.filterR_eq,PySem.W.Fast.te13343964577679436407]; kernel_rfl
theorem said:PySem.Challenge.rw_pq1345_01.wellSaid = true:=by
  unfold OpenLaw.wellSaid OpenRow.wellSaid OpenRow.partSaid looksOpen
  (repeat' with_reducible refine look_both ?_ ?_) <;> first | with_reducible exact said1 | (((try rewrite [PySem.W.Fast.te11788848310118352699]); (try rewrite [PySem.W.Fast.te2368527892694137696]); (try rewrite [PySem.W.Fast.te9807087744658564304]); (try rewrite [PySem.W.Fast.te12862048085361865435]); (try rewrite [PySem.W.Fast.te8377067652309620493]); (try rewrite [PySem.W.R.allR_eq]); (try rewrite [PySem.W.Fast.te18344453789297297638]); (try rewrite [PySem.W.Fast.te3471404346716756564]); (try rewrite [PySem.W.Fast.sDec_eq]); (try rewrite [PySem.W.Fast.te14412699480532031325]); (try rewrite [PySem.W.Fast.te8326940854005059898]); (try rewrite [PySem.W.Fast.te5923862056798008813]); (try rewrite [PySem.W.Fast.te17691160309236699985]); (try rewrite [PySem.W.R.filterR_eq]); (try rewrite [PySem.W.Fast.te13343964577679436407]); (try rewrite [PySem.W.Fast.te17119622794617984870]); (try rewrite [PySem.W.Fast.te17868728402115742887]); (try rewrite [PySem.W.Fast.te9706382859710513879]); (try rewrite [PySem.W.S.strDecS_eq]); (try rewrite [PySem.W.Fast.te2357444279172408678]); (try rewrite [PySem.W.R.mapR_eq]); (try rewrite [PySem.W.Fast.te4857012375875476094]); (try rewrite [PySem.W.Fast.named_eq]); (try rewrite [PySem.W.Fast.te13582783067957832011]); (try rewrite [PySem.W.Fast.te5318747976498570220]); (try rewrite [PySem.W.Fast.te4579403493507170074]); (try rewrite [PySem.W.R.anyR_eq]); (try rewrite [PySem.W.Fast.te4274047373036748609]); (try rewrite [PySem.W.Fast.te12749700546528644094]); (try rewrite [PySem.W.Fast.te10501279942588096481]); (try rewrite [PySem.W.Fast.te8179353310426384613]); (try rewrite [PySem.W.Fast.te797321630700447069]); (try rewrite [PySem.W.Fast.te9572597257264208301]); (try rewrite [PySem.W.Fast.te9558739934217749035]); (try rewrite [PySem.W.Fast.te16286561074155671207]); (try rewrite [PySem.W.Fast.te6984425678791042302]); (try rewrite [PySem.W.Fast.te17095254045102204799]); (try rewrite [PySem.W.Fast.te12879404354523853263]); (try rewrite [PySem.W.Fast.te482687673346738481]); (try rewrite [PySem.W.Fast.te10792542408131684335]); (try rewrite [PySem.W.Fast.te7723801398212525404])) <;> kernel_rfl)
end Mine
end
section
open PySem PySem.W PyProof.Rows
set_option maxHeartbeats 0
namespace Mine
abbrev pw:Program:=PySem.Challenge.rw_pq1345_01.row.prog
def s (x:String):Str:=Str.ofString x
def cell (i:Nat):Stmt:=(pw.main.body.drop i).headD (.Pass ⟨0,0,0,0⟩)
def argsOf:Stmt → Arguments
  | .FunctionDef _ a _ _ _ _ _ _ _ _=>a
  | _=>⟨[],[],none,[],[],none,[]⟩
def bodyOf:Stmt → List Stmt
  | .FunctionDef _ _ b _ _ _ _ _ _ _=>b
  | .ClassDef _ _ _ b _ _ _ _ _ _ _=>b
  | _=>[]
def scopeOf:Stmt → Scope
  | .FunctionDef _ _ _ _ _ _ x _ _ _=>x
  | _=>default
def sub (c:Stmt) (j:Nat):Stmt:=((bodyOf c).drop j).headD (.Pass ⟨0,0,0,0⟩)
def de (P:Params) (x:String) (i:Nat) (v:Value):DictEntry:=⟨PyData.keyHash P (Str.ofString x),.str (Str.ofString x) i,v⟩
noncomputable section
namespace Q
noncomputable def N:Value:=.none
noncomputable def T:Value:=.bool true
noncomputable def F:Value:=.bool false
noncomputable def r (n:Nat):Value:=.ref n
noncomputable def i (n:Nat):Value:=.int n 0
noncomputable def u (x:String) (n:Nat):Value:=.str (Str.ofString x) n
noncomputable def tu (l:List Value):Obj:=⟨.type "tuple",none,.seq ⟨l⟩ 0,⟨[]⟩⟩
noncomputable def ts (l:List (String × Nat)):Obj:=tu (l.map fun p=>u p.1 p.2)
noncomputable def fd (l:List Value):Obj:=⟨.none,none,.fields ⟨l⟩,⟨[]⟩⟩
noncomputable def tri:List Nat → List Value
  | a :: b :: c :: l=>i a :: i b :: r c :: tri l
  | _=>[]
noncomputable def fx (l:List Nat):Obj:=fd (tri l)
noncomputable def f0 (x y:String) (c:Stmt) (k:Nat):Obj:=⟨.none,none,.func ⟨s x,s y,argsOf c,.stmts (bodyOf c),scopeOf c,k,[],.none,.none,.none,.none,none,.none,.none,0⟩,⟨[]⟩⟩
noncomputable def f1 (x y:String) (c:Stmt) (k:Nat) (a b m:Value) (q z:Nat):Obj:=⟨.type "function",none,.func ⟨s x,s y,argsOf c,.stmts (bodyOf c),scopeOf c,k,[],a,b,.none,m,none,.ref q,.none,z⟩,⟨[]⟩⟩
noncomputable def co (x:String) (a:Nat) (y:String) (b c d e f g h:Nat) (k:Nat) (t:Value) (l q:Nat) (v1 v2 v3 v4:Value) (n1 n2 n3:Nat):Obj:=⟨.type "code",none,.fields ⟨[u x a,u y b,u "/claim/cut.py" c,i d,i e,i f,i g,i h,r k,t,i l,r q,v1,v2,v3,v4,i n1,i n2,u "/claim/cut.py" n3]⟩,⟨[]⟩⟩
noncomputable def dd (P:Params) (n:Nat) (l:List (String × Nat × Value)):Obj:=⟨.type "dict",none,.dict ⟨l.map fun p=>de P p.1 p.2.1 p.2.2⟩ n,⟨[]⟩⟩
noncomputable def nd (o:Obj) (a b:BT):BT:=.node o a b
noncomputable def lf (o:Obj):BT:=.node o .nil .nil
noncomputable def e:BT:=.nil
end Q
open Q
def o43:Obj:=tu []
def o44:Obj:=fd []
def o45:Obj:=co "<module>" 182 "<module>" 183 184 1 0 0 0 0 11 F 181 12 N N N N 185 1 186
def o46:Obj:=⟨(.type "frame"),none,Data.plain,⟨[(some (r 13)),(some (r 3)),(some (r 3)),none,(some (u "__main__" 164)),none,(some (r 0))]⟩⟩
def o49 (P:Params):Obj:=⟨N,none,(.dict ⟨[(de P "type.__subclasses__.Exception.0" 212 (i 31)),(de P "type.__subclasses__.Exception.n" 213 (i 1))]⟩ 2),⟨[]⟩⟩
def o50 (P:Params):Obj:=dd P 11 [("__name__",165,(u "vectorcove.errors" 194)),("__doc__",166,N),("__package__",167,N),("__loader__",168,(.builtin "__main__.__loader__#opaque")),("__spec__",169,N),("__annotations__",170,(r 6)),("__builtins__",171,(r 4)),("__file__",173,(u "/claim/cut.py" 172)),("__cached__",174,N),("_wall",193,(r 21)),("CoveError",215,(r 31))]
def o51:Obj:=fx [1,0,20,5,0,27]
def o54:Obj:=ts [("k",190)]
def o56:Obj:=f0 "_wall" "_wall" (cell 0) 0
def o57:Obj:=co "_wall" 187 "_wall" 188 189 1 1 0 0 3 15 T 181 16 N (r 17) (r 18) (r 19) 191 1 192
def o58:Obj:=f1 "_wall" "_wall" (cell 0) 3 N N (u "__main__" 164) 20 0
def o59:Obj:=tu [(.type "Exception")]
def o60:Obj:=⟨(.type "builtin_function_or_method"),none,(.fields ⟨[(.builtin "type.__prepare__"),(.type "type")]⟩),⟨[]⟩⟩
def o61 (P:Params):Obj:=dd P 4 [("__module__",203,(u "vectorcove.errors" 194)),("__qualname__",205,(u "CoveError" 204)),("__firstlineno__",207,(.int 5 206)),("__static_attributes__",208,(r 29))]
def o64:Obj:=co "CoveError" 198 "CoveError" 199 200 5 0 0 0 0 25 F 181 26 N N N N 201 5 202
def o65:Obj:=⟨(.type "frame"),none,Data.plain,⟨[(some (r 27)),(some (r 3)),(some (r 24)),none,(some (u "vectorcove.errors" 194)),none,(some (r 0))]⟩⟩
def o67 (P:Params):Obj:=dd P 3 [("__module__",203,(u "vectorcove.errors" 194)),("__firstlineno__",207,(.int 5 206)),("__static_attributes__",208,(r 29)),("__weakref__",210,(r 32)),("__doc__",211,N)]
def o68:Obj:=⟨(.type "type"),none,(.cls ⟨(s "CoveError"),[(.type "Exception")],[(r 31),(.type "Exception"),(.type "BaseException"),(.type "object")],30,(s "CoveError"),Bool.true,[],[],Bool.false,none,Bool.false⟩),⟨[(some (r 22)),none,(some (u "CoveError" 196)),(some (u "CoveError" 204)),(some (.builtin "Exception.__new__")),(some T)]⟩⟩
def o69:Obj:=⟨(.type "getset_descriptor"),none,(.fields ⟨[(u "__weakref__" 209),(r 31),(.builtin "ExceptionGroup.__weakref__"),N]⟩),⟨[]⟩⟩
def o70:Obj:=⟨(.type "super"),none,(.fields ⟨[(r 31),(r 31),(r 31)]⟩),⟨[]⟩⟩
def o71:Obj:=⟨(.type "builtin_function_or_method"),none,(.fields ⟨[(.builtin "object.__init_subclass__"),(r 31)]⟩),⟨[]⟩⟩
def o72 (P:Params):Obj:=dd P 12 [("__name__",165,(u "vectorcove.callargs" 241)),("__doc__",166,N),("__package__",167,N),("__loader__",168,(.builtin "__main__.__loader__#opaque")),("__spec__",169,N),("__annotations__",170,(r 6)),("__builtins__",171,(r 4)),("__file__",173,(u "/claim/cut.py" 172)),("__cached__",174,N),("_wall",193,(r 21)),("CoveError",215,(r 31)),("Refusal",240,(r 51))]
def o73:Obj:=fx [1,0,20,5,0,27,7,0,40]
def o74:Obj:=⟨(.type "type"),none,(.cls ⟨(s "CoveError"),[(.type "Exception")],[(r 31),(.type "Exception"),(.type "BaseException"),(.type "object")],30,(s "CoveError"),Bool.true,[],[(r 51)],Bool.false,none,Bool.false⟩),⟨[(some (r 22)),none,(some (u "CoveError" 196)),(some (u "CoveError" 204)),(some (.builtin "Exception.__new__")),(some T)]⟩⟩
def o75:Obj:=tu [(r 31)]
def o77 (P:Params):Obj:=dd P 5 [("__module__",223,(u "vectorcove.errors" 194)),("__qualname__",225,(u "Refusal" 224)),("__firstlineno__",227,(.int 7 226)),("__init__",235,(r 48)),("__static_attributes__",237,(r 49))]
def o79:Obj:=fx [9,4,47]
def o80:Obj:=co "Refusal" 218 "Refusal" 219 220 7 0 0 0 0 38 F 181 39 N N N N 221 7 222
def o81:Obj:=⟨(.type "frame"),none,Data.plain,⟨[(some (r 40)),(some (r 3)),(some (r 37)),none,(some (u "vectorcove.errors" 194)),none,(some (r 0))]⟩⟩
def o84:Obj:=ts [("self",231),("message",232)]
def o86:Obj:=f0 "__init__" "Refusal.__init__" (sub (cell 3) 0) 0
def o87:Obj:=co "__init__" 228 "Refusal.__init__" 229 230 9 2 0 0 3 42 T 181 43 N (r 44) (r 45) (r 46) 233 9 234
def o88:Obj:=f1 "__init__" "Refusal.__init__" (sub (cell 3) 0) 3 N N (u "vectorcove.errors" 194) 47 0
def o89:Obj:=ts [("message",236)]
def o90 (P:Params):Obj:=dd P 2 [("__module__",223,(u "vectorcove.errors" 194)),("__firstlineno__",227,(.int 7 226)),("__init__",235,(r 48)),("__static_attributes__",237,(r 49)),("__doc__",238,N)]
def o91:Obj:=⟨(.type "type"),none,(.cls ⟨(s "Refusal"),[(r 31)],[(r 51),(r 31),(.type "Exception"),(.type "BaseException"),(.type "object")],50,(s "Refusal"),Bool.true,[],[],Bool.false,none,Bool.false⟩),⟨[(some (r 35)),none,(some (u "Refusal" 216)),(some (u "Refusal" 224)),(some (.builtin "Exception.__new__")),(some T)]⟩⟩
def o92:Obj:=⟨(.type "super"),none,(.fields ⟨[(r 51),(r 51),(r 51)]⟩),⟨[]⟩⟩
def o93:Obj:=⟨(.type "builtin_function_or_method"),none,(.fields ⟨[(.builtin "object.__init_subclass__"),(r 51)]⟩),⟨[]⟩⟩
def o94 (P:Params):Obj:=dd P 13 [("__name__",165,(u "vectorcove.callargs" 241)),("__doc__",166,N),("__package__",167,N),("__loader__",168,(.builtin "__main__.__loader__#opaque")),("__spec__",169,N),("__annotations__",170,(r 6)),("__builtins__",171,(r 4)),("__file__",173,(u "/claim/cut.py" 172)),("__cached__",174,N),("_wall",193,(r 21)),("CoveError",215,(r 31)),("Refusal",240,(r 51)),("Matching",325,(r 110))]
def o95:Obj:=fx [1,0,20,5,0,27,7,0,40,12,0,59]
def o98 (P:Params):Obj:=dd P 11 [("__module__",250,(u "vectorcove.callargs" 241)),("__qualname__",252,(u "Matching" 251)),("__firstlineno__",254,(.int 12 253)),("__init__",263,(r 67)),("exact",272,(r 74)),("partial",280,(r 81)),("partial_of",290,(r 88)),("positional",299,(r 95)),("is_free",307,(r 102)),("rest",313,(r 107)),("__static_attributes__",318,(r 108))]
def o100:Obj:=fx [14,4,66,20,4,73,30,4,80,37,4,87,48,4,94,60,4,101,63,4,106]
def o101:Obj:=co "Matching" 245 "Matching" 246 247 12 0 0 0 0 57 F 181 58 N N N N 248 12 249
def o102:Obj:=⟨(.type "frame"),none,Data.plain,⟨[(some (r 59)),(some (r 3)),(some (r 56)),none,(some (u "vectorcove.callargs" 241)),none,(some (r 0))]⟩⟩
def o105:Obj:=ts [("self",258),("formals",259),("tags",260)]
def o107:Obj:=f0 "__init__" "Matching.__init__" (sub (cell 5) 0) 0
def o108:Obj:=co "__init__" 255 "Matching.__init__" 256 257 14 3 0 0 3 61 T 181 62 N (r 63) (r 64) (r 65) 261 14 262
def o109:Obj:=f1 "__init__" "Matching.__init__" (sub (cell 5) 0) 3 N N (u "vectorcove.callargs" 241) 66 0
def o112:Obj:=ts [("self",267),("name",268),("place",269)]
def o114:Obj:=f0 "exact" "Matching.exact" (sub (cell 5) 1) 0
def o115:Obj:=co "exact" 264 "Matching.exact" 265 266 20 1 0 0 3 68 T 181 69 N (r 70) (r 71) (r 72) 270 20 271
def o116:Obj:=f1 "exact" "Matching.exact" (sub (cell 5) 1) 3 N N (u "vectorcove.callargs" 241) 73 0
def o119:Obj:=ts [("self",276),("name",277)]
def o121:Obj:=f0 "partial" "Matching.partial" (sub (cell 5) 2) 0
def o122:Obj:=co "partial" 273 "Matching.partial" 274 275 30 1 0 0 3 75 T 181 76 N (r 77) (r 78) (r 79) 278 30 279
def o123:Obj:=f1 "partial" "Matching.partial" (sub (cell 5) 2) 3 N N (u "vectorcove.callargs" 241) 80 0
def o126:Obj:=ts [("self",284),("name",285),("place",286),("tag",287)]
def o128:Obj:=f0 "partial_of" "Matching.partial_of" (sub (cell 5) 3) 0
def o129:Obj:=co "partial_of" 281 "Matching.partial_of" 282 283 37 2 0 0 3 82 T 181 83 N (r 84) (r 85) (r 86) 288 37 289
def o130:Obj:=f1 "partial_of" "Matching.partial_of" (sub (cell 5) 3) 3 N N (u "vectorcove.callargs" 241) 87 0
def o133:Obj:=ts [("self",294),("place",295),("name",296)]
def o135:Obj:=f0 "positional" "Matching.positional" (sub (cell 5) 4) 0
def o136:Obj:=co "positional" 291 "Matching.positional" 292 293 48 1 0 0 3 89 T 181 90 N (r 91) (r 92) (r 93) 297 48 298
def o137:Obj:=f1 "positional" "Matching.positional" (sub (cell 5) 4) 3 N N (u "vectorcove.callargs" 241) 94 0
def o140:Obj:=ts [("self",303),("place",304)]
def o142:Obj:=f0 "is_free" "Matching.is_free" (sub (cell 5) 5) 0
def o143:Obj:=co "is_free" 300 "Matching.is_free" 301 302 60 2 0 0 3 96 T 181 97 N (r 98) (r 99) (r 100) 305 60 306
def o144:Obj:=f1 "is_free" "Matching.is_free" (sub (cell 5) 5) 3 N N (u "vectorcove.callargs" 241) 101 0
def o147:Obj:=f0 "rest" "Matching.rest" (sub (cell 5) 6) 0
def o148:Obj:=co "rest" 308 "Matching.rest" 309 310 63 1 0 0 3 103 T 181 104 N N N (r 105) 311 63 312
def o149:Obj:=f1 "rest" "Matching.rest" (sub (cell 5) 6) 3 N N (u "vectorcove.callargs" 241) 106 0
def o150:Obj:=ts [("formals",314),("places",315),("tags",316),("used",317)]
def o151 (P:Params):Obj:=dd P 4 [("__module__",250,(u "vectorcove.callargs" 241)),("__firstlineno__",254,(.int 12 253)),("__init__",263,(r 67)),("exact",272,(r 74)),("partial",280,(r 81)),("partial_of",290,(r 88)),("positional",299,(r 95)),("is_free",307,(r 102)),("rest",313,(r 107)),("__static_attributes__",318,(r 108)),("__dict__",320,(r 111)),("__weakref__",322,(r 112)),("__doc__",323,N)]
def o152:Obj:=⟨(.type "type"),none,(.cls ⟨(s "Matching"),[(.type "object")],[(r 110),(.type "object")],109,(s "Matching"),Bool.true,[],[],Bool.false,none,Bool.false⟩),⟨[none,none,(some (u "Matching" 243)),(some (u "Matching" 251)),(some (.builtin "object.__new__")),(some T)]⟩⟩
def o153:Obj:=⟨(.type "getset_descriptor"),none,(.fields ⟨[(u "__dict__" 319),(r 110),(.builtin "function.__dict__"),(.builtin "function.__dict__#set")]⟩),⟨[]⟩⟩
def o154:Obj:=⟨(.type "getset_descriptor"),none,(.fields ⟨[(u "__weakref__" 321),(r 110),(.builtin "ExceptionGroup.__weakref__"),N]⟩),⟨[]⟩⟩
def o155:Obj:=⟨(.type "super"),none,(.fields ⟨[(r 110),(r 110),(r 110)]⟩),⟨[]⟩⟩
def o156:Obj:=⟨(.type "builtin_function_or_method"),none,(.fields ⟨[(.builtin "object.__init_subclass__"),(r 110)]⟩),⟨[]⟩⟩
def o157 (P:Params):Obj:=dd P 28 [("__name__",165,(u "vectorcove.rational" 362)),("__doc__",166,N),("__package__",167,N),("__loader__",168,(.builtin "__main__.__loader__#opaque")),("__spec__",169,N),("__annotations__",170,(r 6)),("__builtins__",171,(r 4)),("__file__",173,(u "/claim/cut.py" 172)),("__cached__",174,N),("_wall",193,(r 21)),("CoveError",215,(r 31)),("Refusal",240,(r 51)),("Matching",325,(r 110)),("doubled_text",332,(r 121)),("argument_text",343,(r 128)),("unused_text",349,(r 133)),("match_names",355,(r 139)),("take",361,(r 145)),("NAN",366,(r 146)),("INF",369,(r 147)),("ZERO",372,(r 148)),("gcd",380,(r 155)),("make",389,(r 162)),("from_int",396,(r 169)),("is_na",403,(r 176)),("is_finite",410,(r 183)),("neg",417,(r 190)),("to_whole",425,(r 197))]
def o158:Obj:=fx [1,0,20,5,0,27,7,0,40,12,0,59,65,0,120,67,0,127,76,0,132,82,0,138,91,0,144,106,0,154,110,0,161,120,0,168,124,0,175,126,0,182,128,0,189,132,0,196]
def o161:Obj:=ts [("name",329)]
def o163:Obj:=f0 "doubled_text" "doubled_text" (cell 6) 0
def o164:Obj:=co "doubled_text" 326 "doubled_text" 327 328 65 1 0 0 3 115 T 181 116 N (r 117) (r 118) (r 119) 330 65 331
def o165:Obj:=f1 "doubled_text" "doubled_text" (cell 6) 3 N N (u "vectorcove.callargs" 241) 120 0
def o168:Obj:=ts [("args",336),("place",337),("show",338),("tag",339),("value",340)]
def o170:Obj:=f0 "argument_text" "argument_text" (cell 7) 0
def o171:Obj:=co "argument_text" 333 "argument_text" 334 335 67 3 0 0 3 122 T 181 123 N (r 124) (r 125) (r 126) 341 67 342
def o172:Obj:=f1 "argument_text" "argument_text" (cell 7) 3 N N (u "vectorcove.callargs" 241) 127 0
def o175:Obj:=f0 "unused_text" "unused_text" (cell 8) 0
def o176:Obj:=co "unused_text" 344 "unused_text" 345 346 76 3 0 0 3 129 T 181 130 N N N (r 131) 347 76 348
def o177:Obj:=f1 "unused_text" "unused_text" (cell 8) 3 N N (u "vectorcove.callargs" 241) 132 0
def o178:Obj:=tu [N]
def o181:Obj:=f0 "match_names" "match_names" (cell 9) 0
def o182:Obj:=co "match_names" 350 "match_names" 351 352 82 3 0 0 3 135 T 181 136 N N N (r 137) 353 82 354
def o183:Obj:=f1 "match_names" "match_names" (cell 9) 3 (r 134) N (u "vectorcove.callargs" 241) 138 0
def o187:Obj:=f0 "take" "take" (cell 10) 0
def o188:Obj:=co "take" 356 "take" 357 358 91 3 0 0 3 141 T 181 142 N N N (r 143) 359 91 360
def o189:Obj:=f1 "take" "take" (cell 10) 3 (r 140) N (u "vectorcove.callargs" 241) 144 0
def o190:Obj:=tu [(.int 0 364),(.int 0 365)]
def o191:Obj:=tu [(.int 1 367),(.int 0 368)]
def o192:Obj:=tu [(.int 0 370),(.int 1 371)]
def o195:Obj:=ts [("a",376),("b",377)]
def o197:Obj:=f0 "gcd" "gcd" (cell 15) 0
def o198:Obj:=co "gcd" 373 "gcd" 374 375 106 2 0 0 3 149 T 181 150 N (r 151) (r 152) (r 153) 378 106 379
def o199:Obj:=f1 "gcd" "gcd" (cell 15) 3 N N (u "vectorcove.rational" 362) 154 0
def o202:Obj:=ts [("n",384),("d",385),("common",386)]
def o204:Obj:=f0 "make" "make" (cell 16) 0
def o205:Obj:=co "make" 381 "make" 382 383 110 2 0 0 3 156 T 181 157 N (r 158) (r 159) (r 160) 387 110 388
def o206:Obj:=f1 "make" "make" (cell 16) 3 N N (u "vectorcove.rational" 362) 161 0
def o209:Obj:=ts [("n",393)]
def o211:Obj:=f0 "from_int" "from_int" (cell 17) 0
def o212:Obj:=co "from_int" 390 "from_int" 391 392 120 1 0 0 3 163 T 181 164 N (r 165) (r 166) (r 167) 394 120 395
def o213:Obj:=f1 "from_int" "from_int" (cell 17) 3 N N (u "vectorcove.rational" 362) 168 0
def o216:Obj:=ts [("x",400)]
def o218:Obj:=f0 "is_na" "is_na" (cell 18) 0
def o219:Obj:=co "is_na" 397 "is_na" 398 399 124 1 0 0 3 170 T 181 171 N (r 172) (r 173) (r 174) 401 124 402
def o220:Obj:=f1 "is_na" "is_na" (cell 18) 3 N N (u "vectorcove.rational" 362) 175 0
def o223:Obj:=ts [("x",407)]
def o225:Obj:=⟨N,none,(.func ⟨(s "is_finite"),(s "is_finite"),(argsOf (cell 19)),(.stmts (bodyOf (cell 19))),(scopeOf (cell 18)),0,[],N,N,N,N,none,N,N,0⟩),⟨[]⟩⟩
def o226:Obj:=co "is_finite" 404 "is_finite" 405 406 126 1 0 0 3 177 T 181 178 N (r 179) (r 180) (r 181) 408 126 409
def o227:Obj:=⟨(.type "function"),none,(.func ⟨(s "is_finite"),(s "is_finite"),(argsOf (cell 19)),(.stmts (bodyOf (cell 19))),(scopeOf (cell 18)),3,[],N,N,N,(u "vectorcove.rational" 362),none,(r 182),N,0⟩),⟨[]⟩⟩
def o230:Obj:=ts [("x",414)]
def o232:Obj:=⟨N,none,(.func ⟨(s "neg"),(s "neg"),(argsOf (cell 20)),(.stmts (bodyOf (cell 20))),(scopeOf (cell 18)),0,[],N,N,N,N,none,N,N,0⟩),⟨[]⟩⟩
def o233:Obj:=co "neg" 411 "neg" 412 413 128 1 0 0 3 184 T 181 185 N (r 186) (r 187) (r 188) 415 128 416
def o234:Obj:=⟨(.type "function"),none,(.func ⟨(s "neg"),(s "neg"),(argsOf (cell 20)),(.stmts (bodyOf (cell 20))),(scopeOf (cell 18)),3,[],N,N,N,(u "vectorcove.rational" 362),none,(r 189),N,0⟩),⟨[]⟩⟩
def o237:Obj:=ts [("x",421),("found",422)]
def o239:Obj:=f0 "to_whole" "to_whole" (cell 21) 0
def o240:Obj:=co "to_whole" 418 "to_whole" 419 420 132 1 0 0 3 191 T 181 192 N (r 193) (r 194) (r 195) 423 132 424
def o241:Obj:=f1 "to_whole" "to_whole" (cell 21) 3 N N (u "vectorcove.rational" 362) 196 0
def o242 (P:Params):Obj:=dd P 40 [("__name__",165,(u "vectorcove.numtext" 446)),("__doc__",166,N),("__package__",167,N),("__loader__",168,(.builtin "__main__.__loader__#opaque")),("__spec__",169,N),("__annotations__",170,(r 6)),("__builtins__",171,(r 4)),("__file__",173,(u "/claim/cut.py" 172)),("__cached__",174,N),("_wall",193,(r 21)),("CoveError",215,(r 31)),("Refusal",240,(r 51)),("Matching",325,(r 110)),("doubled_text",332,(r 121)),("argument_text",343,(r 128)),("unused_text",349,(r 133)),("match_names",355,(r 139)),("take",361,(r 145)),("NAN",366,(r 146)),("INF",369,(r 147)),("ZERO",372,(r 148)),("gcd",380,(r 155)),("make",389,(r 162)),("from_int",396,(r 169)),("is_na",403,(r 176)),("is_finite",410,(r 183)),("neg",417,(r 190)),("to_whole",425,(r 197)),("nearest_whole",435,(r 204)),("exponent",445,(r 211)),("MOST_EXPONENT",449,(.int 4096 448)),("whole_text",459,(r 218)),("special_text",466,(r 225)),("scaled",476,(r 232)),("significant",486,(r 239)),("without_tail",494,(r 246)),("scientific_text",506,(r 253)),("fixed_text",516,(r 260)),("measures",529,(r 267)),("chosen_form",546,(r 274))]
def o243:Obj:=fx [1,0,20,5,0,27,7,0,40,12,0,59,65,0,120,67,0,127,76,0,132,82,0,138,91,0,144,106,0,154,110,0,161,120,0,168,124,0,175,126,0,182,128,0,189,132,0,196,137,0,203,143,0,210,156,0,217,167,0,224,175,0,231,180,0,238,189,0,245,194,0,252,201,0,259,209,0,266,216,0,273]
def o246:Obj:=ts [("n",429),("d",430),("low",431),("rest",432)]
def o248:Obj:=f0 "nearest_whole" "nearest_whole" (cell 22) 0
def o249:Obj:=co "nearest_whole" 426 "nearest_whole" 427 428 137 2 0 0 3 198 T 181 199 N (r 200) (r 201) (r 202) 433 137 434
def o250:Obj:=f1 "nearest_whole" "nearest_whole" (cell 22) 3 N N (u "vectorcove.rational" 362) 203 0
def o253:Obj:=ts [("x",439),("n",440),("d",441),("e",442)]
def o255:Obj:=f0 "exponent" "exponent" (cell 23) 0
def o256:Obj:=co "exponent" 436 "exponent" 437 438 143 1 0 0 3 205 T 181 206 N (r 207) (r 208) (r 209) 443 143 444
def o257:Obj:=f1 "exponent" "exponent" (cell 23) 3 N N (u "vectorcove.rational" 362) 210 0
def o260:Obj:=ts [("n",453),("rest",454),("row",455),("part",456)]
def o262:Obj:=f0 "whole_text" "whole_text" (cell 26) 0
def o263:Obj:=co "whole_text" 450 "whole_text" 451 452 156 1 0 0 3 212 T 181 213 N (r 214) (r 215) (r 216) 457 156 458
def o264:Obj:=f1 "whole_text" "whole_text" (cell 26) 3 N N (u "vectorcove.numtext" 446) 217 0
def o267:Obj:=ts [("x",463)]
def o269:Obj:=⟨N,none,(.func ⟨(s "special_text"),(s "special_text"),(argsOf (cell 27)),(.stmts (bodyOf (cell 27))),(scopeOf (cell 18)),0,[],N,N,N,N,none,N,N,0⟩),⟨[]⟩⟩
def o270:Obj:=co "special_text" 460 "special_text" 461 462 167 1 0 0 3 219 T 181 220 N (r 221) (r 222) (r 223) 464 167 465
def o271:Obj:=⟨(.type "function"),none,(.func ⟨(s "special_text"),(s "special_text"),(argsOf (cell 27)),(.stmts (bodyOf (cell 27))),(scopeOf (cell 18)),3,[],N,N,N,(u "vectorcove.numtext" 446),none,(r 224),N,0⟩),⟨[]⟩⟩
def o274:Obj:=ts [("x",470),("e",471),("digits",472),("shift",473)]
def o276:Obj:=f0 "scaled" "scaled" (cell 28) 0
def o277:Obj:=co "scaled" 467 "scaled" 468 469 175 3 0 0 3 226 T 181 227 N (r 228) (r 229) (r 230) 474 175 475
def o278:Obj:=f1 "scaled" "scaled" (cell 28) 3 N N (u "vectorcove.numtext" 446) 231 0
def o281:Obj:=ts [("x",480),("digits",481),("e",482),("n",483)]
def o283:Obj:=f0 "significant" "significant" (cell 29) 0
def o284:Obj:=co "significant" 477 "significant" 478 479 180 2 0 0 3 233 T 181 234 N (r 235) (r 236) (r 237) 484 180 485
def o285:Obj:=f1 "significant" "significant" (cell 29) 3 N N (u "vectorcove.numtext" 446) 238 0
def o288:Obj:=ts [("text",490),("end",491)]
def o290:Obj:=f0 "without_tail" "without_tail" (cell 30) 0
def o291:Obj:=co "without_tail" 487 "without_tail" 488 489 189 1 0 0 3 240 T 181 241 N (r 242) (r 243) (r 244) 492 189 493
def o292:Obj:=f1 "without_tail" "without_tail" (cell 30) 3 N N (u "vectorcove.numtext" 446) 245 0
def o295:Obj:=ts [("x",498),("digits",499),("side",500),("text",501),("e",502),("row",503)]
def o297:Obj:=f0 "scientific_text" "scientific_text" (cell 31) 0
def o298:Obj:=co "scientific_text" 495 "scientific_text" 496 497 194 2 0 0 3 247 T 181 248 N (r 249) (r 250) (r 251) 504 194 505
def o299:Obj:=f1 "scientific_text" "scientific_text" (cell 31) 3 N N (u "vectorcove.numtext" 446) 252 0
def o302:Obj:=ts [("x",510),("places",511),("n",512),("text",513)]
def o304:Obj:=f0 "fixed_text" "fixed_text" (cell 32) 0
def o305:Obj:=co "fixed_text" 507 "fixed_text" 508 509 201 2 0 0 3 254 T 181 255 N (r 256) (r 257) (r 258) 514 201 515
def o306:Obj:=f1 "fixed_text" "fixed_text" (cell 32) 3 N N (u "vectorcove.numtext" 446) 259 0
def o309:Obj:=ts [("x",520),("digits",521),("side",522),("text",523),("e",524),("count",525),("left",526)]
def o311:Obj:=f0 "measures" "measures" (cell 33) 0
def o312:Obj:=co "measures" 517 "measures" 518 519 209 2 0 0 3 261 T 181 262 N (r 263) (r 264) (r 265) 527 209 528
def o313:Obj:=f1 "measures" "measures" (cell 33) 3 N N (u "vectorcove.numtext" 446) 266 0
def o316:Obj:=ts [("xs",533),("digits",534),("count",535),("left",536),("places",537),("wide",538),("minus",539),("x",540),("row",541),("fixed_width",542),("scientific_width",543)]
def o318:Obj:=f0 "chosen_form" "chosen_form" (cell 34) 0
def o319:Obj:=co "chosen_form" 530 "chosen_form" 531 532 216 2 0 0 3 268 T 181 269 N (r 270) (r 271) (r 272) 544 216 545
def o320:Obj:=f1 "chosen_form" "chosen_form" (cell 34) 3 N N (u "vectorcove.numtext" 446) 273 0
def o321 (P:Params):Obj:=dd P 49 [("__name__",165,(u "vectorcove.values" 639)),("__doc__",166,N),("__package__",167,N),("__loader__",168,(.builtin "__main__.__loader__#opaque")),("__spec__",169,N),("__annotations__",170,(r 6)),("__builtins__",171,(r 4)),("__file__",173,(u "/claim/cut.py" 172)),("__cached__",174,N),("_wall",193,(r 21)),("CoveError",215,(r 31)),("Refusal",240,(r 51)),("Matching",325,(r 110)),("doubled_text",332,(r 121)),("argument_text",343,(r 128)),("unused_text",349,(r 133)),("match_names",355,(r 139)),("take",361,(r 145)),("NAN",366,(r 146)),("INF",369,(r 147)),("ZERO",372,(r 148)),("gcd",380,(r 155)),("make",389,(r 162)),("from_int",396,(r 169)),("is_na",403,(r 176)),("is_finite",410,(r 183)),("neg",417,(r 190)),("to_whole",425,(r 197)),("nearest_whole",435,(r 204)),("exponent",445,(r 211)),("MOST_EXPONENT",449,(.int 4096 448)),("whole_text",459,(r 218)),("special_text",466,(r 225)),("scaled",476,(r 232)),("significant",486,(r 239)),("without_tail",494,(r 246)),("scientific_text",506,(r 253)),("fixed_text",516,(r 260)),("measures",529,(r 267)),("chosen_form",546,(r 274)),("formed",555,(r 281)),("common_texts",561,(r 286)),("number_text",570,(r 294)),("digits_value",580,(r 301)),("digit_run",589,(r 308)),("exponent_value",598,(r 315)),("powered",607,(r 322)),("unsigned_number",626,(r 329)),("parse_number",638,(r 336))]
def o322:Obj:=fx [1,0,20,5,0,27,7,0,40,12,0,59,65,0,120,67,0,127,76,0,132,82,0,138,91,0,144,106,0,154,110,0,161,120,0,168,124,0,175,126,0,182,128,0,189,132,0,196,137,0,203,143,0,210,156,0,217,167,0,224,175,0,231,180,0,238,189,0,245,194,0,252,201,0,259,209,0,266,216,0,273,236,0,280,243,0,285,247,0,293,249,0,300,254,0,307,258,0,314,268,0,321,278,0,328,310,0,335]
def o325:Obj:=ts [("x",550),("form",551),("text",552)]
def o327:Obj:=f0 "formed" "formed" (cell 35) 0
def o328:Obj:=co "formed" 547 "formed" 548 549 236 2 0 0 3 275 T 181 276 N (r 277) (r 278) (r 279) 553 236 554
def o329:Obj:=f1 "formed" "formed" (cell 35) 3 N N (u "vectorcove.numtext" 446) 280 0
def o332:Obj:=f0 "common_texts" "common_texts" (cell 36) 0
def o333:Obj:=co "common_texts" 556 "common_texts" 557 558 243 2 0 0 3 282 T 181 283 N N N (r 284) 559 243 560
def o334:Obj:=f1 "common_texts" "common_texts" (cell 36) 3 N N (u "vectorcove.numtext" 446) 285 0
def o335:Obj:=tu [(.int 7 562)]
def o338:Obj:=ts [("x",566),("digits",567)]
def o340:Obj:=f0 "number_text" "number_text" (cell 37) 0
def o341:Obj:=co "number_text" 563 "number_text" 564 565 247 2 0 0 3 288 T 181 289 N (r 290) (r 291) (r 292) 568 247 569
def o342:Obj:=f1 "number_text" "number_text" (cell 37) 3 (r 287) N (u "vectorcove.numtext" 446) 293 0
def o345:Obj:=ts [("text",574),("base",575),("value",576),("char",577)]
def o347:Obj:=f0 "digits_value" "digits_value" (cell 38) 0
def o348:Obj:=co "digits_value" 571 "digits_value" 572 573 249 2 0 0 3 295 T 181 296 N (r 297) (r 298) (r 299) 578 249 579
def o349:Obj:=f1 "digits_value" "digits_value" (cell 38) 3 N N (u "vectorcove.numtext" 446) 300 0
def o352:Obj:=ts [("text",584),("at",585),("digits",586)]
def o354:Obj:=f0 "digit_run" "digit_run" (cell 39) 0
def o355:Obj:=co "digit_run" 581 "digit_run" 582 583 254 3 0 0 3 302 T 181 303 N (r 304) (r 305) (r 306) 587 254 588
def o356:Obj:=f1 "digit_run" "digit_run" (cell 39) 3 N N (u "vectorcove.numtext" 446) 307 0
def o359:Obj:=ts [("text",593),("start",594),("value",595)]
def o361:Obj:=f0 "exponent_value" "exponent_value" (cell 40) 0
def o362:Obj:=co "exponent_value" 590 "exponent_value" 591 592 258 1 0 0 3 309 T 181 310 N (r 311) (r 312) (r 313) 596 258 597
def o363:Obj:=f1 "exponent_value" "exponent_value" (cell 40) 3 N N (u "vectorcove.numtext" 446) 314 0
def o366:Obj:=ts [("n",602),("base",603),("e",604)]
def o368:Obj:=f0 "powered" "powered" (cell 41) 0
def o369:Obj:=co "powered" 599 "powered" 600 601 268 3 0 0 3 316 T 181 317 N (r 318) (r 319) (r 320) 605 268 606
def o370:Obj:=f1 "powered" "powered" (cell 41) 3 N N (u "vectorcove.numtext" 446) 321 0
def o373:Obj:=ts [("text",611),("base",612),("digits",613),("mark",614),("scale",615),("end",616),("before",617),("behind",618),("start",619),("e",620),("ok",621),("n",622),("found",623)]
def o375:Obj:=f0 "unsigned_number" "unsigned_number" (cell 42) 0
def o376:Obj:=co "unsigned_number" 608 "unsigned_number" 609 610 278 1 0 0 3 323 T 181 324 N (r 325) (r 326) (r 327) 624 278 625
def o377:Obj:=f1 "unsigned_number" "unsigned_number" (cell 42) 3 N N (u "vectorcove.numtext" 446) 328 0
def o380:Obj:=ts [("text",630),("body",631),("negative",632),("small",633),("found",634),("ok",635)]
def o382:Obj:=f0 "parse_number" "parse_number" (cell 43) 0
def o383:Obj:=co "parse_number" 627 "parse_number" 628 629 310 1 0 0 3 330 T 181 331 N (r 332) (r 333) (r 334) 636 310 637
def o384:Obj:=f1 "parse_number" "parse_number" (cell 43) 3 N N (u "vectorcove.numtext" 446) 335 0
def o385 (P:Params):Obj:=dd P 50 [("__name__",165,(u "vectorcove.values" 639)),("__doc__",166,N),("__package__",167,N),("__loader__",168,(.builtin "__main__.__loader__#opaque")),("__spec__",169,N),("__annotations__",170,(r 6)),("__builtins__",171,(r 4)),("__file__",173,(u "/claim/cut.py" 172)),("__cached__",174,N),("_wall",193,(r 21)),("CoveError",215,(r 31)),("Refusal",240,(r 51)),("Matching",325,(r 110)),("doubled_text",332,(r 121)),("argument_text",343,(r 128)),("unused_text",349,(r 133)),("match_names",355,(r 139)),("take",361,(r 145)),("NAN",366,(r 146)),("INF",369,(r 147)),("ZERO",372,(r 148)),("gcd",380,(r 155)),("make",389,(r 162)),("from_int",396,(r 169)),("is_na",403,(r 176)),("is_finite",410,(r 183)),("neg",417,(r 190)),("to_whole",425,(r 197)),("nearest_whole",435,(r 204)),("exponent",445,(r 211)),("MOST_EXPONENT",449,(.int 4096 448)),("whole_text",459,(r 218)),("special_text",466,(r 225)),("scaled",476,(r 232)),("significant",486,(r 239)),("without_tail",494,(r 246)),("scientific_text",506,(r 253)),("fixed_text",516,(r 260)),("measures",529,(r 267)),("chosen_form",546,(r 274)),("formed",555,(r 281)),("common_texts",561,(r 286)),("number_text",570,(r 294)),("digits_value",580,(r 301)),("digit_run",589,(r 308)),("exponent_value",598,(r 315)),("powered",607,(r 322)),("unsigned_number",626,(r 329)),("parse_number",638,(r 336)),("Null",669,(r 353))]
def o386:Obj:=fx [1,0,20,5,0,27,7,0,40,12,0,59,65,0,120,67,0,127,76,0,132,82,0,138,91,0,144,106,0,154,110,0,161,120,0,168,124,0,175,126,0,182,128,0,189,132,0,196,137,0,203,143,0,210,156,0,217,167,0,224,175,0,231,180,0,238,189,0,245,194,0,252,201,0,259,209,0,266,216,0,273,236,0,280,243,0,285,247,0,293,249,0,300,254,0,307,258,0,314,268,0,321,278,0,328,310,0,335,328,0,342]
def o389 (P:Params):Obj:=dd P 5 [("__module__",648,(u "vectorcove.values" 639)),("__qualname__",650,(u "Null" 649)),("__firstlineno__",652,(.int 328 651)),("__init__",659,(r 350)),("__static_attributes__",662,(r 351))]
def o391:Obj:=fx [330,4,349]
def o392:Obj:=co "Null" 643 "Null" 644 645 328 0 0 0 0 340 F 181 341 N N N N 646 328 647
def o393:Obj:=⟨(.type "frame"),none,Data.plain,⟨[(some (r 342)),(some (r 3)),(some (r 339)),none,(some (u "vectorcove.values" 639)),none,(some (r 0))]⟩⟩
def o396:Obj:=ts [("self",656)]
def o398:Obj:=f0 "__init__" "Null.__init__" (sub (cell 45) 0) 0
def o399:Obj:=co "__init__" 653 "Null.__init__" 654 655 330 1 0 0 3 344 T 181 345 N (r 346) (r 347) (r 348) 657 330 658
def o400:Obj:=f1 "__init__" "Null.__init__" (sub (cell 45) 0) 3 N N (u "vectorcove.values" 639) 349 0
def o401:Obj:=ts [("attrs",660),("kind",661)]
def o402 (P:Params):Obj:=dd P 4 [("__module__",648,(u "vectorcove.values" 639)),("__firstlineno__",652,(.int 328 651)),("__init__",659,(r 350)),("__static_attributes__",662,(r 351)),("__dict__",664,(r 354)),("__weakref__",666,(r 355)),("__doc__",667,N)]
def o403:Obj:=⟨(.type "type"),none,(.cls ⟨(s "Null"),[(.type "object")],[(r 353),(.type "object")],352,(s "Null"),Bool.true,[],[],Bool.false,none,Bool.false⟩),⟨[none,none,(some (u "Null" 641)),(some (u "Null" 649)),(some (.builtin "object.__new__")),(some T)]⟩⟩
def o404:Obj:=⟨(.type "getset_descriptor"),none,(.fields ⟨[(u "__dict__" 663),(r 353),(.builtin "function.__dict__"),(.builtin "function.__dict__#set")]⟩),⟨[]⟩⟩
def o405:Obj:=⟨(.type "getset_descriptor"),none,(.fields ⟨[(u "__weakref__" 665),(r 353),(.builtin "ExceptionGroup.__weakref__"),N]⟩),⟨[]⟩⟩
def o406:Obj:=⟨(.type "super"),none,(.fields ⟨[(r 353),(r 353),(r 353)]⟩),⟨[]⟩⟩
def o407:Obj:=⟨(.type "builtin_function_or_method"),none,(.fields ⟨[(.builtin "object.__init_subclass__"),(r 353)]⟩),⟨[]⟩⟩
def o408 (P:Params):Obj:=dd P 51 [("__name__",165,(u "vectorcove.values" 639)),("__doc__",166,N),("__package__",167,N),("__loader__",168,(.builtin "__main__.__loader__#opaque")),("__spec__",169,N),("__annotations__",170,(r 6)),("__builtins__",171,(r 4)),("__file__",173,(u "/claim/cut.py" 172)),("__cached__",174,N),("_wall",193,(r 21)),("CoveError",215,(r 31)),("Refusal",240,(r 51)),("Matching",325,(r 110)),("doubled_text",332,(r 121)),("argument_text",343,(r 128)),("unused_text",349,(r 133)),("match_names",355,(r 139)),("take",361,(r 145)),("NAN",366,(r 146)),("INF",369,(r 147)),("ZERO",372,(r 148)),("gcd",380,(r 155)),("make",389,(r 162)),("from_int",396,(r 169)),("is_na",403,(r 176)),("is_finite",410,(r 183)),("neg",417,(r 190)),("to_whole",425,(r 197)),("nearest_whole",435,(r 204)),("exponent",445,(r 211)),("MOST_EXPONENT",449,(.int 4096 448)),("whole_text",459,(r 218)),("special_text",466,(r 225)),("scaled",476,(r 232)),("significant",486,(r 239)),("without_tail",494,(r 246)),("scientific_text",506,(r 253)),("fixed_text",516,(r 260)),("measures",529,(r 267)),("chosen_form",546,(r 274)),("formed",555,(r 281)),("common_texts",561,(r 286)),("number_text",570,(r 294)),("digits_value",580,(r 301)),("digit_run",589,(r 308)),("exponent_value",598,(r 315)),("powered",607,(r 322)),("unsigned_number",626,(r 329)),("parse_number",638,(r 336)),("Null",669,(r 353)),("Vector",711,(r 382))]
def o409:Obj:=fx [1,0,20,5,0,27,7,0,40,12,0,59,65,0,120,67,0,127,76,0,132,82,0,138,91,0,144,106,0,154,110,0,161,120,0,168,124,0,175,126,0,182,128,0,189,132,0,196,137,0,203,143,0,210,156,0,217,167,0,224,175,0,231,180,0,238,189,0,245,194,0,252,201,0,259,209,0,266,216,0,273,236,0,280,243,0,285,247,0,293,249,0,300,254,0,307,258,0,314,268,0,321,278,0,328,310,0,335,328,0,342,333,0,363]
def o412 (P:Params):Obj:=dd P 6 [("__module__",677,(u "vectorcove.values" 639)),("__qualname__",679,(u "Vector" 678)),("__firstlineno__",681,(.int 333 680)),("__init__",691,(r 372)),("copy",698,(r 379)),("__static_attributes__",704,(r 380))]
def o414:Obj:=fx [335,4,371,342,4,378]
def o415:Obj:=co "Vector" 672 "Vector" 673 674 333 0 0 0 0 361 F 181 362 N N N N 675 333 676
def o416:Obj:=⟨(.type "frame"),none,Data.plain,⟨[(some (r 363)),(some (r 3)),(some (r 360)),none,(some (u "vectorcove.values" 639)),none,(some (r 0))]⟩⟩
def o420:Obj:=ts [("self",685),("kind",686),("items",687),("attrs",688)]
def o422:Obj:=f0 "__init__" "Vector.__init__" (sub (cell 46) 0) 0
def o423:Obj:=co "__init__" 682 "Vector.__init__" 683 684 335 4 0 0 3 366 T 181 367 N (r 368) (r 369) (r 370) 689 335 690
def o424:Obj:=f1 "__init__" "Vector.__init__" (sub (cell 46) 0) 3 (r 365) N (u "vectorcove.values" 639) 371 0
def o427:Obj:=ts [("self",695)]
def o429:Obj:=f0 "copy" "Vector.copy" (sub (cell 46) 1) 0
def o430:Obj:=co "copy" 692 "Vector.copy" 693 694 342 1 0 0 3 373 T 181 374 N (r 375) (r 376) (r 377) 696 342 697
def o431:Obj:=f1 "copy" "Vector.copy" (sub (cell 46) 1) 3 N N (u "vectorcove.values" 639) 378 0
def o432:Obj:=ts [("attrs",699),("items",700),("kind",701),("loose",702),("shared",703)]
def o433 (P:Params):Obj:=dd P 4 [("__module__",677,(u "vectorcove.values" 639)),("__firstlineno__",681,(.int 333 680)),("__init__",691,(r 372)),("copy",698,(r 379)),("__static_attributes__",704,(r 380)),("__dict__",706,(r 383)),("__weakref__",708,(r 384)),("__doc__",709,N)]
def o434:Obj:=⟨(.type "type"),none,(.cls ⟨(s "Vector"),[(.type "object")],[(r 382),(.type "object")],381,(s "Vector"),Bool.true,[],[],Bool.false,none,Bool.false⟩),⟨[none,none,(some (u "Vector" 670)),(some (u "Vector" 678)),(some (.builtin "object.__new__")),(some T)]⟩⟩
def o435:Obj:=⟨(.type "getset_descriptor"),none,(.fields ⟨[(u "__dict__" 705),(r 382),(.builtin "function.__dict__"),(.builtin "function.__dict__#set")]⟩),⟨[]⟩⟩
def o436:Obj:=⟨(.type "getset_descriptor"),none,(.fields ⟨[(u "__weakref__" 707),(r 382),(.builtin "ExceptionGroup.__weakref__"),N]⟩),⟨[]⟩⟩
def o437:Obj:=⟨(.type "super"),none,(.fields ⟨[(r 382),(r 382),(r 382)]⟩),⟨[]⟩⟩
def o438:Obj:=⟨(.type "builtin_function_or_method"),none,(.fields ⟨[(.builtin "object.__init_subclass__"),(r 382)]⟩),⟨[]⟩⟩
def o439 (P:Params):Obj:=dd P 58 [("__name__",165,(u "vectorcove.values" 639)),("__doc__",166,N),("__package__",167,N),("__loader__",168,(.builtin "__main__.__loader__#opaque")),("__spec__",169,N),("__annotations__",170,(r 6)),("__builtins__",171,(r 4)),("__file__",173,(u "/claim/cut.py" 172)),("__cached__",174,N),("_wall",193,(r 21)),("CoveError",215,(r 31)),("Refusal",240,(r 51)),("Matching",325,(r 110)),("doubled_text",332,(r 121)),("argument_text",343,(r 128)),("unused_text",349,(r 133)),("match_names",355,(r 139)),("take",361,(r 145)),("NAN",366,(r 146)),("INF",369,(r 147)),("ZERO",372,(r 148)),("gcd",380,(r 155)),("make",389,(r 162)),("from_int",396,(r 169)),("is_na",403,(r 176)),("is_finite",410,(r 183)),("neg",417,(r 190)),("to_whole",425,(r 197)),("nearest_whole",435,(r 204)),("exponent",445,(r 211)),("MOST_EXPONENT",449,(.int 4096 448)),("whole_text",459,(r 218)),("special_text",466,(r 225)),("scaled",476,(r 232)),("significant",486,(r 239)),("without_tail",494,(r 246)),("scientific_text",506,(r 253)),("fixed_text",516,(r 260)),("measures",529,(r 267)),("chosen_form",546,(r 274)),("formed",555,(r 281)),("common_texts",561,(r 286)),("number_text",570,(r 294)),("digits_value",580,(r 301)),("digit_run",589,(r 308)),("exponent_value",598,(r 315)),("powered",607,(r 322)),("unsigned_number",626,(r 329)),("parse_number",638,(r 336)),("Null",669,(r 353)),("Vector",711,(r 382)),("Symbol",742,(r 403)),("null",748,(r 414)),("logical",755,(r 421)),("integer",762,(r 428)),("character",769,(r 435)),("symbol",776,(r 442)),("length",784,(r 449))]
def o440:Obj:=fx [1,0,20,5,0,27,7,0,40,12,0,59,65,0,120,67,0,127,76,0,132,82,0,138,91,0,144,106,0,154,110,0,161,120,0,168,124,0,175,126,0,182,128,0,189,132,0,196,137,0,203,143,0,210,156,0,217,167,0,224,175,0,231,180,0,238,189,0,245,194,0,252,201,0,259,209,0,266,216,0,273,236,0,280,243,0,285,247,0,293,249,0,300,254,0,307,258,0,314,268,0,321,278,0,328,310,0,335,328,0,342,333,0,363,344,0,392,350,0,413,352,0,420,354,0,427,356,0,434,358,0,441,360,0,448]
def o443 (P:Params):Obj:=dd P 5 [("__module__",719,(u "vectorcove.values" 639)),("__qualname__",721,(u "Symbol" 720)),("__firstlineno__",723,(.int 344 722)),("__init__",731,(r 400)),("__static_attributes__",735,(r 401))]
def o445:Obj:=fx [346,4,399]
def o446:Obj:=co "Symbol" 714 "Symbol" 715 716 344 0 0 0 0 390 F 181 391 N N N N 717 344 718
def o447:Obj:=⟨(.type "frame"),none,Data.plain,⟨[(some (r 392)),(some (r 3)),(some (r 389)),none,(some (u "vectorcove.values" 639)),none,(some (r 0))]⟩⟩
def o450:Obj:=ts [("self",727),("name",728)]
def o452:Obj:=⟨N,none,(.func ⟨(s "__init__"),(s "Symbol.__init__"),(argsOf (sub (cell 47) 0)),(.stmts (bodyOf (sub (cell 47) 0))),(scopeOf (sub (cell 5) 2)),0,[],N,N,N,N,none,N,N,0⟩),⟨[]⟩⟩
def o453:Obj:=co "__init__" 724 "Symbol.__init__" 725 726 346 2 0 0 3 394 T 181 395 N (r 396) (r 397) (r 398) 729 346 730
def o454:Obj:=⟨(.type "function"),none,(.func ⟨(s "__init__"),(s "Symbol.__init__"),(argsOf (sub (cell 47) 0)),(.stmts (bodyOf (sub (cell 47) 0))),(scopeOf (sub (cell 5) 2)),3,[],N,N,N,(u "vectorcove.values" 639),none,(r 399),N,0⟩),⟨[]⟩⟩
def o455:Obj:=ts [("attrs",732),("kind",733),("name",734)]
def o456 (P:Params):Obj:=dd P 4 [("__module__",719,(u "vectorcove.values" 639)),("__firstlineno__",723,(.int 344 722)),("__init__",731,(r 400)),("__static_attributes__",735,(r 401)),("__dict__",737,(r 404)),("__weakref__",739,(r 405)),("__doc__",740,N)]
def o457:Obj:=⟨(.type "type"),none,(.cls ⟨(s "Symbol"),[(.type "object")],[(r 403),(.type "object")],402,(s "Symbol"),Bool.true,[],[],Bool.false,none,Bool.false⟩),⟨[none,none,(some (u "Symbol" 712)),(some (u "Symbol" 720)),(some (.builtin "object.__new__")),(some T)]⟩⟩
def o458:Obj:=⟨(.type "getset_descriptor"),none,(.fields ⟨[(u "__dict__" 736),(r 403),(.builtin "function.__dict__"),(.builtin "function.__dict__#set")]⟩),⟨[]⟩⟩
def o459:Obj:=⟨(.type "getset_descriptor"),none,(.fields ⟨[(u "__weakref__" 738),(r 403),(.builtin "ExceptionGroup.__weakref__"),N]⟩),⟨[]⟩⟩
def o460:Obj:=⟨(.type "super"),none,(.fields ⟨[(r 403),(r 403),(r 403)]⟩),⟨[]⟩⟩
def o461:Obj:=⟨(.type "builtin_function_or_method"),none,(.fields ⟨[(.builtin "object.__init_subclass__"),(r 403)]⟩),⟨[]⟩⟩
def o466:Obj:=f0 "null" "null" (cell 48) 0
def o467:Obj:=co "null" 743 "null" 744 745 350 0 0 0 3 408 T 181 409 N (r 410) (r 411) (r 412) 746 350 747
def o468:Obj:=f1 "null" "null" (cell 48) 3 N N (u "vectorcove.values" 639) 413 0
def o471:Obj:=ts [("items",752)]
def o473:Obj:=f0 "logical" "logical" (cell 49) 0
def o474:Obj:=co "logical" 749 "logical" 750 751 352 1 0 0 3 415 T 181 416 N (r 417) (r 418) (r 419) 753 352 754
def o475:Obj:=f1 "logical" "logical" (cell 49) 3 N N (u "vectorcove.values" 639) 420 0
def o478:Obj:=ts [("items",759)]
def o480:Obj:=⟨N,none,(.func ⟨(s "integer"),(s "integer"),(argsOf (cell 50)),(.stmts (bodyOf (cell 50))),(scopeOf (cell 49)),0,[],N,N,N,N,none,N,N,0⟩),⟨[]⟩⟩
def o481:Obj:=co "integer" 756 "integer" 757 758 354 1 0 0 3 422 T 181 423 N (r 424) (r 425) (r 426) 760 354 761
def o482:Obj:=⟨(.type "function"),none,(.func ⟨(s "integer"),(s "integer"),(argsOf (cell 50)),(.stmts (bodyOf (cell 50))),(scopeOf (cell 49)),3,[],N,N,N,(u "vectorcove.values" 639),none,(r 427),N,0⟩),⟨[]⟩⟩
def o485:Obj:=ts [("items",766)]
def o487:Obj:=⟨N,none,(.func ⟨(s "character"),(s "character"),(argsOf (cell 51)),(.stmts (bodyOf (cell 51))),(scopeOf (cell 49)),0,[],N,N,N,N,none,N,N,0⟩),⟨[]⟩⟩
def o488:Obj:=co "character" 763 "character" 764 765 356 1 0 0 3 429 T 181 430 N (r 431) (r 432) (r 433) 767 356 768
def o489:Obj:=⟨(.type "function"),none,(.func ⟨(s "character"),(s "character"),(argsOf (cell 51)),(.stmts (bodyOf (cell 51))),(scopeOf (cell 49)),3,[],N,N,N,(u "vectorcove.values" 639),none,(r 434),N,0⟩),⟨[]⟩⟩
def o492:Obj:=ts [("name",773)]
def o494:Obj:=f0 "symbol" "symbol" (cell 52) 0
def o495:Obj:=co "symbol" 770 "symbol" 771 772 358 1 0 0 3 436 T 181 437 N (r 438) (r 439) (r 440) 774 358 775
def o496:Obj:=f1 "symbol" "symbol" (cell 52) 3 N N (u "vectorcove.values" 639) 441 0
def o499:Obj:=ts [("v",780),("kind",781)]
def o501:Obj:=f0 "length" "length" (cell 53) 0
def o502:Obj:=co "length" 777 "length" 778 779 360 1 0 0 3 443 T 181 444 N (r 445) (r 446) (r 447) 782 360 783
def o503:Obj:=f1 "length" "length" (cell 53) 3 N N (u "vectorcove.values" 639) 448 0
def o504 (P:Params):Obj:=dd P 71 [("__name__",165,(u "vectorcove.attrs" 806)),("__doc__",166,N),("__package__",167,N),("__loader__",168,(.builtin "__main__.__loader__#opaque")),("__spec__",169,N),("__annotations__",170,(r 6)),("__builtins__",171,(r 4)),("__file__",173,(u "/claim/cut.py" 172)),("__cached__",174,N),("_wall",193,(r 21)),("CoveError",215,(r 31)),("Refusal",240,(r 51)),("Matching",325,(r 110)),("doubled_text",332,(r 121)),("argument_text",343,(r 128)),("unused_text",349,(r 133)),("match_names",355,(r 139)),("take",361,(r 145)),("NAN",366,(r 146)),("INF",369,(r 147)),("ZERO",372,(r 148)),("gcd",380,(r 155)),("make",389,(r 162)),("from_int",396,(r 169)),("is_na",403,(r 176)),("is_finite",410,(r 183)),("neg",417,(r 190)),("to_whole",425,(r 197)),("nearest_whole",435,(r 204)),("exponent",445,(r 211)),("MOST_EXPONENT",449,(.int 4096 448)),("whole_text",459,(r 218)),("special_text",466,(r 225)),("scaled",476,(r 232)),("significant",486,(r 239)),("without_tail",494,(r 246)),("scientific_text",506,(r 253)),("fixed_text",516,(r 260)),("measures",529,(r 267)),("chosen_form",546,(r 274)),("formed",555,(r 281)),("common_texts",561,(r 286)),("number_text",570,(r 294)),("digits_value",580,(r 301)),("digit_run",589,(r 308)),("exponent_value",598,(r 315)),("powered",607,(r 322)),("unsigned_number",626,(r 329)),("parse_number",638,(r 336)),("Null",669,(r 353)),("Vector",711,(r 382)),("Symbol",742,(r 403)),("null",748,(r 414)),("logical",755,(r 421)),("integer",762,(r 428)),("character",769,(r 435)),("symbol",776,(r 442)),("length",784,(r 449)),("is_vector",791,(r 456)),("is_atomic",798,(r 463)),("share",805,(r 470)),("get_attr",815,(r 477)),("drop_attr",823,(r 484)),("put_attr",832,(r 491)),("label_text",840,(r 498)),("level_at",848,(r 505)),("label_texts",854,(r 510)),("set_names",860,(r 515)),("names_of",866,(r 520)),("dim_of",874,(r 527)),("dimnames_of",880,(r 532))]
def o505:Obj:=fx [1,0,20,5,0,27,7,0,40,12,0,59,65,0,120,67,0,127,76,0,132,82,0,138,91,0,144,106,0,154,110,0,161,120,0,168,124,0,175,126,0,182,128,0,189,132,0,196,137,0,203,143,0,210,156,0,217,167,0,224,175,0,231,180,0,238,189,0,245,194,0,252,201,0,259,209,0,266,216,0,273,236,0,280,243,0,285,247,0,293,249,0,300,254,0,307,258,0,314,268,0,321,278,0,328,310,0,335,328,0,342,333,0,363,344,0,392,350,0,413,352,0,420,354,0,427,356,0,434,358,0,441,360,0,448,371,0,455,373,0,462,375,0,469,380,0,476,384,0,483,389,0,490,393,0,497,401,0,504,405,0,509,411,0,514,429,0,519,445,0,526,450,0,531]
def o508:Obj:=ts [("v",788)]
def o510:Obj:=f0 "is_vector" "is_vector" (cell 54) 0
def o511:Obj:=co "is_vector" 785 "is_vector" 786 787 371 1 0 0 3 450 T 181 451 N (r 452) (r 453) (r 454) 789 371 790
def o512:Obj:=f1 "is_vector" "is_vector" (cell 54) 3 N N (u "vectorcove.values" 639) 455 0
def o515:Obj:=ts [("v",795)]
def o517:Obj:=f0 "is_atomic" "is_atomic" (cell 55) 0
def o518:Obj:=co "is_atomic" 792 "is_atomic" 793 794 373 1 0 0 3 457 T 181 458 N (r 459) (r 460) (r 461) 796 373 797
def o519:Obj:=f1 "is_atomic" "is_atomic" (cell 55) 3 N N (u "vectorcove.values" 639) 462 0
def o522:Obj:=ts [("v",802)]
def o524:Obj:=⟨N,none,(.func ⟨(s "share"),(s "share"),(argsOf (cell 56)),(.stmts (bodyOf (cell 56))),(scopeOf (cell 54)),0,[],N,N,N,N,none,N,N,0⟩),⟨[]⟩⟩
def o525:Obj:=co "share" 799 "share" 800 801 375 1 0 0 3 464 T 181 465 N (r 466) (r 467) (r 468) 803 375 804
def o526:Obj:=⟨(.type "function"),none,(.func ⟨(s "share"),(s "share"),(argsOf (cell 56)),(.stmts (bodyOf (cell 56))),(scopeOf (cell 54)),3,[],N,N,N,(u "vectorcove.values" 639),none,(r 469),N,0⟩),⟨[]⟩⟩
def o529:Obj:=ts [("v",811),("name",812)]
def o531:Obj:=f0 "get_attr" "get_attr" (cell 58) 0
def o532:Obj:=co "get_attr" 808 "get_attr" 809 810 380 2 0 0 3 471 T 181 472 N (r 473) (r 474) (r 475) 813 380 814
def o533:Obj:=f1 "get_attr" "get_attr" (cell 58) 3 N N (u "vectorcove.attrs" 806) 476 0
def o536:Obj:=ts [("v",819),("name",820)]
def o538:Obj:=f0 "drop_attr" "drop_attr" (cell 59) 0
def o539:Obj:=co "drop_attr" 816 "drop_attr" 817 818 384 2 0 0 3 478 T 181 479 N (r 480) (r 481) (r 482) 821 384 822
def o540:Obj:=f1 "drop_attr" "drop_attr" (cell 59) 3 N N (u "vectorcove.attrs" 806) 483 0
def o543:Obj:=ts [("v",827),("name",828),("value",829)]
def o545:Obj:=f0 "put_attr" "put_attr" (cell 60) 0
def o546:Obj:=co "put_attr" 824 "put_attr" 825 826 389 3 0 0 3 485 T 181 486 N (r 487) (r 488) (r 489) 830 389 831
def o547:Obj:=f1 "put_attr" "put_attr" (cell 60) 3 N N (u "vectorcove.attrs" 806) 490 0
def o550:Obj:=ts [("kind",836),("item",837)]
def o552:Obj:=f0 "label_text" "label_text" (cell 61) 0
def o553:Obj:=co "label_text" 833 "label_text" 834 835 393 2 0 0 3 492 T 181 493 N (r 494) (r 495) (r 496) 838 393 839
def o554:Obj:=f1 "label_text" "label_text" (cell 61) 3 N N (u "vectorcove.attrs" 806) 497 0
def o557:Obj:=ts [("texts",844),("code",845)]
def o559:Obj:=f0 "level_at" "level_at" (cell 62) 0
def o560:Obj:=co "level_at" 841 "level_at" 842 843 401 2 0 0 3 499 T 181 500 N (r 501) (r 502) (r 503) 846 401 847
def o561:Obj:=f1 "level_at" "level_at" (cell 62) 3 N N (u "vectorcove.attrs" 806) 504 0
def o564:Obj:=f0 "label_texts" "label_texts" (cell 63) 0
def o565:Obj:=co "label_texts" 849 "label_texts" 850 851 405 1 0 0 3 506 T 181 507 N N N (r 508) 852 405 853
def o566:Obj:=f1 "label_texts" "label_texts" (cell 63) 3 N N (u "vectorcove.attrs" 806) 509 0
def o569:Obj:=f0 "set_names" "set_names" (cell 64) 0
def o570:Obj:=co "set_names" 855 "set_names" 856 857 411 2 0 0 3 511 T 181 512 N N N (r 513) 858 411 859
def o571:Obj:=f1 "set_names" "set_names" (cell 64) 3 N N (u "vectorcove.attrs" 806) 514 0
def o574:Obj:=f0 "names_of" "names_of" (cell 65) 0
def o575:Obj:=co "names_of" 861 "names_of" 862 863 429 1 0 0 3 516 T 181 517 N N N (r 518) 864 429 865
def o576:Obj:=f1 "names_of" "names_of" (cell 65) 3 N N (u "vectorcove.attrs" 806) 519 0
def o579:Obj:=ts [("v",870),("dims",871)]
def o581:Obj:=f0 "dim_of" "dim_of" (cell 66) 0
def o582:Obj:=co "dim_of" 867 "dim_of" 868 869 445 1 0 0 3 521 T 181 522 N (r 523) (r 524) (r 525) 872 445 873
def o583:Obj:=f1 "dim_of" "dim_of" (cell 66) 3 N N (u "vectorcove.attrs" 806) 526 0
def o586:Obj:=f0 "dimnames_of" "dimnames_of" (cell 67) 0
def o587:Obj:=co "dimnames_of" 875 "dimnames_of" 876 877 450 1 0 0 3 528 T 181 529 N N N (r 530) 878 450 879
def o588:Obj:=f1 "dimnames_of" "dimnames_of" (cell 67) 3 N N (u "vectorcove.attrs" 806) 531 0
def o589 (P:Params):Obj:=dd P 84 [("__name__",165,(u "vectorcove.coerce" 889)),("__doc__",166,N),("__package__",167,N),("__loader__",168,(.builtin "__main__.__loader__#opaque")),("__spec__",169,N),("__annotations__",170,(r 6)),("__builtins__",171,(r 4)),("__file__",173,(u "/claim/cut.py" 172)),("__cached__",174,N),("_wall",193,(r 21)),("CoveError",215,(r 31)),("Refusal",240,(r 51)),("Matching",325,(r 110)),("doubled_text",332,(r 121)),("argument_text",343,(r 128)),("unused_text",349,(r 133)),("match_names",355,(r 139)),("take",361,(r 145)),("NAN",366,(r 146)),("INF",369,(r 147)),("ZERO",372,(r 148)),("gcd",380,(r 155)),("make",389,(r 162)),("from_int",396,(r 169)),("is_na",403,(r 176)),("is_finite",410,(r 183)),("neg",417,(r 190)),("to_whole",425,(r 197)),("nearest_whole",435,(r 204)),("exponent",445,(r 211)),("MOST_EXPONENT",449,(.int 4096 448)),("whole_text",459,(r 218)),("special_text",466,(r 225)),("scaled",476,(r 232)),("significant",486,(r 239)),("without_tail",494,(r 246)),("scientific_text",506,(r 253)),("fixed_text",516,(r 260)),("measures",529,(r 267)),("chosen_form",546,(r 274)),("formed",555,(r 281)),("common_texts",561,(r 286)),("number_text",570,(r 294)),("digits_value",580,(r 301)),("digit_run",589,(r 308)),("exponent_value",598,(r 315)),("powered",607,(r 322)),("unsigned_number",626,(r 329)),("parse_number",638,(r 336)),("Null",669,(r 353)),("Vector",711,(r 382)),("Symbol",742,(r 403)),("null",748,(r 414)),("logical",755,(r 421)),("integer",762,(r 428)),("character",769,(r 435)),("symbol",776,(r 442)),("length",784,(r 449)),("is_vector",791,(r 456)),("is_atomic",798,(r 463)),("share",805,(r 470)),("get_attr",815,(r 477)),("drop_attr",823,(r 484)),("put_attr",832,(r 491)),("label_text",840,(r 498)),("level_at",848,(r 505)),("label_texts",854,(r 510)),("set_names",860,(r 515)),("names_of",866,(r 520)),("dim_of",874,(r 527)),("dimnames_of",880,(r 532)),("class_attr",888,(r 539)),("MOST_INTEGER",892,(.int 2147483647 891)),("kind_order",900,(r 546)),("common_kind",910,(r 553)),("note",918,(r 560)),("as_logical_text",925,(r 567)),("double_to_integer",934,(r 574)),("text_to_double",944,(r 581)),("to_logical",952,(r 588)),("to_integer",961,(r 595)),("to_double",970,(r 602)),("to_text",978,(r 609)),("item_as",988,(r 616))]
def o590:Obj:=fx [1,0,20,5,0,27,7,0,40,12,0,59,65,0,120,67,0,127,76,0,132,82,0,138,91,0,144,106,0,154,110,0,161,120,0,168,124,0,175,126,0,182,128,0,189,132,0,196,137,0,203,143,0,210,156,0,217,167,0,224,175,0,231,180,0,238,189,0,245,194,0,252,201,0,259,209,0,266,216,0,273,236,0,280,243,0,285,247,0,293,249,0,300,254,0,307,258,0,314,268,0,321,278,0,328,310,0,335,328,0,342,333,0,363,344,0,392,350,0,413,352,0,420,354,0,427,356,0,434,358,0,441,360,0,448,371,0,455,373,0,462,375,0,469,380,0,476,384,0,483,389,0,490,393,0,497,401,0,504,405,0,509,411,0,514,429,0,519,445,0,526,450,0,531,455,0,538,462,0,545,467,0,552,473,0,559,476,0,566,482,0,573,490,0,580,496,0,587,506,0,594,514,0,601,520,0,608,528,0,615]
def o593:Obj:=ts [("v",884),("found",885)]
def o595:Obj:=f0 "class_attr" "class_attr" (cell 68) 0
def o596:Obj:=co "class_attr" 881 "class_attr" 882 883 455 1 0 0 3 533 T 181 534 N (r 535) (r 536) (r 537) 886 455 887
def o597:Obj:=f1 "class_attr" "class_attr" (cell 68) 3 N N (u "vectorcove.attrs" 806) 538 0
def o600:Obj:=ts [("kind",896),("kinds",897)]
def o602:Obj:=f0 "kind_order" "kind_order" (cell 71) 0
def o603:Obj:=co "kind_order" 893 "kind_order" 894 895 462 1 0 0 3 540 T 181 541 N (r 542) (r 543) (r 544) 898 462 899
def o604:Obj:=f1 "kind_order" "kind_order" (cell 71) 3 N N (u "vectorcove.coerce" 889) 545 0
def o607:Obj:=ts [("kinds",904),("names",905),("most",906),("kind",907)]
def o609:Obj:=f0 "common_kind" "common_kind" (cell 72) 0
def o610:Obj:=co "common_kind" 901 "common_kind" 902 903 467 1 0 0 3 547 T 181 548 N (r 549) (r 550) (r 551) 908 467 909
def o611:Obj:=f1 "common_kind" "common_kind" (cell 72) 3 N N (u "vectorcove.coerce" 889) 552 0
def o614:Obj:=ts [("notes",914),("message",915)]
def o616:Obj:=f0 "note" "note" (cell 73) 0
def o617:Obj:=co "note" 911 "note" 912 913 473 2 0 0 3 554 T 181 555 N (r 556) (r 557) (r 558) 916 473 917
def o618:Obj:=f1 "note" "note" (cell 73) 3 N N (u "vectorcove.coerce" 889) 559 0
def o621:Obj:=ts [("s",922)]
def o623:Obj:=f0 "as_logical_text" "as_logical_text" (cell 74) 0
def o624:Obj:=co "as_logical_text" 919 "as_logical_text" 920 921 476 1 0 0 3 561 T 181 562 N (r 563) (r 564) (r 565) 923 476 924
def o625:Obj:=f1 "as_logical_text" "as_logical_text" (cell 74) 3 N N (u "vectorcove.coerce" 889) 566 0
def o628:Obj:=ts [("x",929),("notes",930),("found",931)]
def o630:Obj:=f0 "double_to_integer" "double_to_integer" (cell 75) 0
def o631:Obj:=co "double_to_integer" 926 "double_to_integer" 927 928 482 2 0 0 3 568 T 181 569 N (r 570) (r 571) (r 572) 932 482 933
def o632:Obj:=f1 "double_to_integer" "double_to_integer" (cell 75) 3 N N (u "vectorcove.coerce" 889) 573 0
def o635:Obj:=ts [("s",938),("notes",939),("ok",940),("found",941)]
def o637:Obj:=f0 "text_to_double" "text_to_double" (cell 76) 0
def o638:Obj:=co "text_to_double" 935 "text_to_double" 936 937 490 2 0 0 3 575 T 181 576 N (r 577) (r 578) (r 579) 942 490 943
def o639:Obj:=f1 "text_to_double" "text_to_double" (cell 76) 3 N N (u "vectorcove.coerce" 889) 580 0
def o642:Obj:=ts [("kind",948),("item",949)]
def o644:Obj:=f0 "to_logical" "to_logical" (cell 77) 0
def o645:Obj:=co "to_logical" 945 "to_logical" 946 947 496 2 0 0 3 582 T 181 583 N (r 584) (r 585) (r 586) 950 496 951
def o646:Obj:=f1 "to_logical" "to_logical" (cell 77) 3 N N (u "vectorcove.coerce" 889) 587 0
def o649:Obj:=ts [("kind",956),("item",957),("notes",958)]
def o651:Obj:=f0 "to_integer" "to_integer" (cell 78) 0
def o652:Obj:=co "to_integer" 953 "to_integer" 954 955 506 3 0 0 3 589 T 181 590 N (r 591) (r 592) (r 593) 959 506 960
def o653:Obj:=f1 "to_integer" "to_integer" (cell 78) 3 N N (u "vectorcove.coerce" 889) 594 0
def o656:Obj:=ts [("kind",965),("item",966),("notes",967)]
def o658:Obj:=f0 "to_double" "to_double" (cell 79) 0
def o659:Obj:=co "to_double" 962 "to_double" 963 964 514 3 0 0 3 596 T 181 597 N (r 598) (r 599) (r 600) 968 514 969
def o660:Obj:=f1 "to_double" "to_double" (cell 79) 3 N N (u "vectorcove.coerce" 889) 601 0
def o663:Obj:=ts [("kind",974),("item",975)]
def o665:Obj:=⟨N,none,(.func ⟨(s "to_text"),(s "to_text"),(argsOf (cell 80)),(.stmts (bodyOf (cell 80))),(scopeOf (cell 61)),0,[],N,N,N,N,none,N,N,0⟩),⟨[]⟩⟩
def o666:Obj:=co "to_text" 971 "to_text" 972 973 520 2 0 0 3 603 T 181 604 N (r 605) (r 606) (r 607) 976 520 977
def o667:Obj:=⟨(.type "function"),none,(.func ⟨(s "to_text"),(s "to_text"),(argsOf (cell 80)),(.stmts (bodyOf (cell 80))),(scopeOf (cell 61)),3,[],N,N,N,(u "vectorcove.coerce" 889),none,(r 608),N,0⟩),⟨[]⟩⟩
def o670:Obj:=ts [("kind",982),("item",983),("to",984),("notes",985)]
def o672:Obj:=f0 "item_as" "item_as" (cell 81) 0
def o673:Obj:=co "item_as" 979 "item_as" 980 981 528 4 0 0 3 610 T 181 611 N (r 612) (r 613) (r 614) 986 528 987
def o674:Obj:=f1 "item_as" "item_as" (cell 81) 3 N N (u "vectorcove.coerce" 889) 615 0
def o675 (P:Params):Obj:=dd P 96 [("__name__",165,(u "vectorcove.identical" 1049)),("__doc__",166,N),("__package__",167,N),("__loader__",168,(.builtin "__main__.__loader__#opaque")),("__spec__",169,N),("__annotations__",170,(r 6)),("__builtins__",171,(r 4)),("__file__",173,(u "/claim/cut.py" 172)),("__cached__",174,N),("_wall",193,(r 21)),("CoveError",215,(r 31)),("Refusal",240,(r 51)),("Matching",325,(r 110)),("doubled_text",332,(r 121)),("argument_text",343,(r 128)),("unused_text",349,(r 133)),("match_names",355,(r 139)),("take",361,(r 145)),("NAN",366,(r 146)),("INF",369,(r 147)),("ZERO",372,(r 148)),("gcd",380,(r 155)),("make",389,(r 162)),("from_int",396,(r 169)),("is_na",403,(r 176)),("is_finite",410,(r 183)),("neg",417,(r 190)),("to_whole",425,(r 197)),("nearest_whole",435,(r 204)),("exponent",445,(r 211)),("MOST_EXPONENT",449,(.int 4096 448)),("whole_text",459,(r 218)),("special_text",466,(r 225)),("scaled",476,(r 232)),("significant",486,(r 239)),("without_tail",494,(r 246)),("scientific_text",506,(r 253)),("fixed_text",516,(r 260)),("measures",529,(r 267)),("chosen_form",546,(r 274)),("formed",555,(r 281)),("common_texts",561,(r 286)),("number_text",570,(r 294)),("digits_value",580,(r 301)),("digit_run",589,(r 308)),("exponent_value",598,(r 315)),("powered",607,(r 322)),("unsigned_number",626,(r 329)),("parse_number",638,(r 336)),("Null",669,(r 353)),("Vector",711,(r 382)),("Symbol",742,(r 403)),("null",748,(r 414)),("logical",755,(r 421)),("integer",762,(r 428)),("character",769,(r 435)),("symbol",776,(r 442)),("length",784,(r 449)),("is_vector",791,(r 456)),("is_atomic",798,(r 463)),("share",805,(r 470)),("get_attr",815,(r 477)),("drop_attr",823,(r 484)),("put_attr",832,(r 491)),("label_text",840,(r 498)),("level_at",848,(r 505)),("label_texts",854,(r 510)),("set_names",860,(r 515)),("names_of",866,(r 520)),("dim_of",874,(r 527)),("dimnames_of",880,(r 532)),("class_attr",888,(r 539)),("MOST_INTEGER",892,(.int 2147483647 891)),("kind_order",900,(r 546)),("common_kind",910,(r 553)),("note",918,(r 560)),("as_logical_text",925,(r 567)),("double_to_integer",934,(r 574)),("text_to_double",944,(r 581)),("to_logical",952,(r 588)),("to_integer",961,(r 595)),("to_double",970,(r 602)),("to_text",978,(r 609)),("item_as",988,(r 616)),("is_atomic_kind",995,(r 623)),("list_item_as",1005,(r 630)),("refuse_type",1013,(r 637)),("as_vector_kind",1019,(r 642)),("with_names",1027,(r 649)),("as_kind",1033,(r 654)),("is_factor",1042,(r 661)),("pick",1048,(r 666)),("same_attrs",1061,(r 673)),("same_items",1071,(r 680)),("same_formals",1080,(r 687)),("same_slots",1089,(r 694))]
def o676:Obj:=fx [1,0,20,5,0,27,7,0,40,12,0,59,65,0,120,67,0,127,76,0,132,82,0,138,91,0,144,106,0,154,110,0,161,120,0,168,124,0,175,126,0,182,128,0,189,132,0,196,137,0,203,143,0,210,156,0,217,167,0,224,175,0,231,180,0,238,189,0,245,194,0,252,201,0,259,209,0,266,216,0,273,236,0,280,243,0,285,247,0,293,249,0,300,254,0,307,258,0,314,268,0,321,278,0,328,310,0,335,328,0,342,333,0,363,344,0,392,350,0,413,352,0,420,354,0,427,356,0,434,358,0,441,360,0,448,371,0,455,373,0,462,375,0,469,380,0,476,384,0,483,389,0,490,393,0,497,401,0,504,405,0,509,411,0,514,429,0,519,445,0,526,450,0,531,455,0,538,462,0,545,467,0,552,473,0,559,476,0,566,482,0,573,490,0,580,496,0,587,506,0,594,514,0,601,520,0,608,528,0,615,542,0,622,544,0,629,550,0,636,552,0,641,566,0,648,570,0,653,578,0,660,580,0,665,592,0,672,601,0,679,608,0,686,615,0,693]
def o679:Obj:=ts [("kind",992)]
def o681:Obj:=f0 "is_atomic_kind" "is_atomic_kind" (cell 82) 0
def o682:Obj:=co "is_atomic_kind" 989 "is_atomic_kind" 990 991 542 1 0 0 3 617 T 181 618 N (r 619) (r 620) (r 621) 993 542 994
def o683:Obj:=f1 "is_atomic_kind" "is_atomic_kind" (cell 82) 3 N N (u "vectorcove.coerce" 889) 622 0
def o686:Obj:=ts [("kind",999),("item",1000),("to",1001),("notes",1002)]
def o688:Obj:=f0 "list_item_as" "list_item_as" (cell 83) 0
def o689:Obj:=co "list_item_as" 996 "list_item_as" 997 998 544 4 0 0 3 624 T 181 625 N (r 626) (r 627) (r 628) 1003 544 1004
def o690:Obj:=f1 "list_item_as" "list_item_as" (cell 83) 3 N N (u "vectorcove.coerce" 889) 629 0
def o693:Obj:=ts [("v",1009),("kind",1010)]
def o695:Obj:=f0 "refuse_type" "refuse_type" (cell 84) 0
def o696:Obj:=co "refuse_type" 1006 "refuse_type" 1007 1008 550 2 0 0 3 631 T 181 632 N (r 633) (r 634) (r 635) 1011 550 1012
def o697:Obj:=f1 "refuse_type" "refuse_type" (cell 84) 3 N N (u "vectorcove.coerce" 889) 636 0
def o700:Obj:=f0 "as_vector_kind" "as_vector_kind" (cell 85) 0
def o701:Obj:=co "as_vector_kind" 1014 "as_vector_kind" 1015 1016 552 2 0 0 3 638 T 181 639 N N N (r 640) 1017 552 1018
def o702:Obj:=f1 "as_vector_kind" "as_vector_kind" (cell 85) 3 N N (u "vectorcove.coerce" 889) 641 0
def o705:Obj:=ts [("v",1023),("names",1024)]
def o707:Obj:=f0 "with_names" "with_names" (cell 86) 0
def o708:Obj:=co "with_names" 1020 "with_names" 1021 1022 566 2 0 0 3 643 T 181 644 N (r 645) (r 646) (r 647) 1025 566 1026
def o709:Obj:=f1 "with_names" "with_names" (cell 86) 3 N N (u "vectorcove.coerce" 889) 648 0
def o712:Obj:=f0 "as_kind" "as_kind" (cell 87) 0
def o713:Obj:=co "as_kind" 1028 "as_kind" 1029 1030 570 3 0 0 3 650 T 181 651 N N N (r 652) 1031 570 1032
def o714:Obj:=f1 "as_kind" "as_kind" (cell 87) 3 N N (u "vectorcove.coerce" 889) 653 0
def o717:Obj:=ts [("v",1039)]
def o719:Obj:=f0 "is_factor" "is_factor" (cell 89) 0
def o720:Obj:=co "is_factor" 1036 "is_factor" 1037 1038 578 1 0 0 3 655 T 181 656 N (r 657) (r 658) (r 659) 1040 578 1041
def o721:Obj:=f1 "is_factor" "is_factor" (cell 89) 3 N N (u "vectorcove.sequences" 1034) 660 0
def o724:Obj:=f0 "pick" "pick" (cell 90) 0
def o725:Obj:=co "pick" 1043 "pick" 1044 1045 580 2 0 0 3 662 T 181 663 N N N (r 664) 1046 580 1047
def o726:Obj:=f1 "pick" "pick" (cell 90) 3 N N (u "vectorcove.sequences" 1034) 665 0
def o729:Obj:=ts [("u",1054),("v",1055),("left",1056),("right",1057),("name",1058)]
def o731:Obj:=f0 "same_attrs" "same_attrs" (cell 92) 0
def o732:Obj:=co "same_attrs" 1051 "same_attrs" 1052 1053 592 2 0 0 3 667 T 181 668 N (r 669) (r 670) (r 671) 1059 592 1060
def o733:Obj:=f1 "same_attrs" "same_attrs" (cell 92) 3 N N (u "vectorcove.identical" 1049) 672 0
def o736:Obj:=ts [("u",1065),("v",1066),("same",1067),("place",1068)]
def o738:Obj:=f0 "same_items" "same_items" (cell 93) 0
def o739:Obj:=co "same_items" 1062 "same_items" 1063 1064 601 3 0 0 3 674 T 181 675 N (r 676) (r 677) (r 678) 1069 601 1070
def o740:Obj:=f1 "same_items" "same_items" (cell 93) 3 N N (u "vectorcove.identical" 1049) 679 0
def o743:Obj:=ts [("u",1075),("v",1076),("place",1077)]
def o745:Obj:=f0 "same_formals" "same_formals" (cell 94) 0
def o746:Obj:=co "same_formals" 1072 "same_formals" 1073 1074 608 2 0 0 3 681 T 181 682 N (r 683) (r 684) (r 685) 1078 608 1079
def o747:Obj:=f1 "same_formals" "same_formals" (cell 94) 3 N N (u "vectorcove.identical" 1049) 686 0
def o750:Obj:=ts [("u",1084),("v",1085),("name",1086)]
def o752:Obj:=f0 "same_slots" "same_slots" (cell 95) 0
def o753:Obj:=co "same_slots" 1081 "same_slots" 1082 1083 615 2 0 0 3 688 T 181 689 N (r 690) (r 691) (r 692) 1087 615 1088
def o754:Obj:=f1 "same_slots" "same_slots" (cell 95) 3 N N (u "vectorcove.identical" 1049) 693 0
def o755 (P:Params):Obj:=dd P 108 [("__name__",165,(u "vectorcove.sets" 1121)),("__doc__",166,N),("__package__",167,N),("__loader__",168,(.builtin "__main__.__loader__#opaque")),("__spec__",169,N),("__annotations__",170,(r 6)),("__builtins__",171,(r 4)),("__file__",173,(u "/claim/cut.py" 172)),("__cached__",174,N),("_wall",193,(r 21)),("CoveError",215,(r 31)),("Refusal",240,(r 51)),("Matching",325,(r 110)),("doubled_text",332,(r 121)),("argument_text",343,(r 128)),("unused_text",349,(r 133)),("match_names",355,(r 139)),("take",361,(r 145)),("NAN",366,(r 146)),("INF",369,(r 147)),("ZERO",372,(r 148)),("gcd",380,(r 155)),("make",389,(r 162)),("from_int",396,(r 169)),("is_na",403,(r 176)),("is_finite",410,(r 183)),("neg",417,(r 190)),("to_whole",425,(r 197)),("nearest_whole",435,(r 204)),("exponent",445,(r 211)),("MOST_EXPONENT",449,(.int 4096 448)),("whole_text",459,(r 218)),("special_text",466,(r 225)),("scaled",476,(r 232)),("significant",486,(r 239)),("without_tail",494,(r 246)),("scientific_text",506,(r 253)),("fixed_text",516,(r 260)),("measures",529,(r 267)),("chosen_form",546,(r 274)),("formed",555,(r 281)),("common_texts",561,(r 286)),("number_text",570,(r 294)),("digits_value",580,(r 301)),("digit_run",589,(r 308)),("exponent_value",598,(r 315)),("powered",607,(r 322)),("unsigned_number",626,(r 329)),("parse_number",638,(r 336)),("Null",669,(r 353)),("Vector",711,(r 382)),("Symbol",742,(r 403)),("null",748,(r 414)),("logical",755,(r 421)),("integer",762,(r 428)),("character",769,(r 435)),("symbol",776,(r 442)),("length",784,(r 449)),("is_vector",791,(r 456)),("is_atomic",798,(r 463)),("share",805,(r 470)),("get_attr",815,(r 477)),("drop_attr",823,(r 484)),("put_attr",832,(r 491)),("label_text",840,(r 498)),("level_at",848,(r 505)),("label_texts",854,(r 510)),("set_names",860,(r 515)),("names_of",866,(r 520)),("dim_of",874,(r 527)),("dimnames_of",880,(r 532)),("class_attr",888,(r 539)),("MOST_INTEGER",892,(.int 2147483647 891)),("kind_order",900,(r 546)),("common_kind",910,(r 553)),("note",918,(r 560)),("as_logical_text",925,(r 567)),("double_to_integer",934,(r 574)),("text_to_double",944,(r 581)),("to_logical",952,(r 588)),("to_integer",961,(r 595)),("to_double",970,(r 602)),("to_text",978,(r 609)),("item_as",988,(r 616)),("is_atomic_kind",995,(r 623)),("list_item_as",1005,(r 630)),("refuse_type",1013,(r 637)),("as_vector_kind",1019,(r 642)),("with_names",1027,(r 649)),("as_kind",1033,(r 654)),("is_factor",1042,(r 661)),("pick",1048,(r 666)),("same_attrs",1061,(r 673)),("same_items",1071,(r 680)),("same_formals",1080,(r 687)),("same_slots",1089,(r 694)),("same_dots",1102,(r 701)),("same_kernel",1112,(r 708)),("identical",1120,(r 715)),("item_key",1130,(r 722)),("is_listed",1137,(r 729)),("list_place",1147,(r 736)),("first_places",1159,(r 743)),("unique_places",1165,(r 748)),("turned",1172,(r 755)),("duplicated_flags",1178,(r 761)),("plain",1185,(r 768)),("both_kinds",1196,(r 775))]
def o756:Obj:=fx [1,0,20,5,0,27,7,0,40,12,0,59,65,0,120,67,0,127,76,0,132,82,0,138,91,0,144,106,0,154,110,0,161,120,0,168,124,0,175,126,0,182,128,0,189,132,0,196,137,0,203,143,0,210,156,0,217,167,0,224,175,0,231,180,0,238,189,0,245,194,0,252,201,0,259,209,0,266,216,0,273,236,0,280,243,0,285,247,0,293,249,0,300,254,0,307,258,0,314,268,0,321,278,0,328,310,0,335,328,0,342,333,0,363,344,0,392,350,0,413,352,0,420,354,0,427,356,0,434,358,0,441,360,0,448,371,0,455,373,0,462,375,0,469,380,0,476,384,0,483,389,0,490,393,0,497,401,0,504,405,0,509,411,0,514,429,0,519,445,0,526,450,0,531,455,0,538,462,0,545,467,0,552,473,0,559,476,0,566,482,0,573,490,0,580,496,0,587,506,0,594,514,0,601,520,0,608,528,0,615,542,0,622,544,0,629,550,0,636,552,0,641,566,0,648,570,0,653,578,0,660,580,0,665,592,0,672,601,0,679,608,0,686,615,0,693,622,0,700,631,0,707,653,0,714,658,0,721,666,0,728,668,0,735,673,0,742,689,0,747,692,0,754,694,0,760,701,0,767,709,0,774]
def o759:Obj:=ts [("u",1093),("v",1094),("place",1095),("tag",1096),("value",1097),("other",1098),("against",1099)]
def o761:Obj:=f0 "same_dots" "same_dots" (cell 96) 0
def o762:Obj:=co "same_dots" 1090 "same_dots" 1091 1092 622 2 0 0 3 695 T 181 696 N (r 697) (r 698) (r 699) 1100 622 1101
def o763:Obj:=f1 "same_dots" "same_dots" (cell 96) 3 N N (u "vectorcove.identical" 1049) 700 0
def o766:Obj:=ts [("u",1106),("v",1107),("kind",1108),("same_home",1109)]
def o768:Obj:=f0 "same_kernel" "same_kernel" (cell 97) 0
def o769:Obj:=co "same_kernel" 1103 "same_kernel" 1104 1105 631 2 0 0 3 702 T 181 703 N (r 704) (r 705) (r 706) 1110 631 1111
def o770:Obj:=f1 "same_kernel" "same_kernel" (cell 97) 3 N N (u "vectorcove.identical" 1049) 707 0
def o773:Obj:=ts [("u",1116),("v",1117)]
def o775:Obj:=f0 "identical" "identical" (cell 98) 0
def o776:Obj:=co "identical" 1113 "identical" 1114 1115 653 2 0 0 3 709 T 181 710 N (r 711) (r 712) (r 713) 1118 653 1119
def o777:Obj:=f1 "identical" "identical" (cell 98) 3 N N (u "vectorcove.identical" 1049) 714 0
def o780:Obj:=ts [("kind",1126),("item",1127)]
def o782:Obj:=f0 "item_key" "item_key" (cell 100) 0
def o783:Obj:=co "item_key" 1123 "item_key" 1124 1125 658 2 0 0 3 716 T 181 717 N (r 718) (r 719) (r 720) 1128 658 1129
def o784:Obj:=f1 "item_key" "item_key" (cell 100) 3 N N (u "vectorcove.sets" 1121) 721 0
def o787:Obj:=ts [("v",1134)]
def o789:Obj:=⟨N,none,(.func ⟨(s "is_listed"),(s "is_listed"),(argsOf (cell 101)),(.stmts (bodyOf (cell 101))),(scopeOf (cell 55)),0,[],N,N,N,N,none,N,N,0⟩),⟨[]⟩⟩
def o790:Obj:=co "is_listed" 1131 "is_listed" 1132 1133 666 1 0 0 3 723 T 181 724 N (r 725) (r 726) (r 727) 1135 666 1136
def o791:Obj:=⟨(.type "function"),none,(.func ⟨(s "is_listed"),(s "is_listed"),(argsOf (cell 101)),(.stmts (bodyOf (cell 101))),(scopeOf (cell 55)),3,[],N,N,N,(u "vectorcove.sets" 1121),none,(r 728),N,0⟩),⟨[]⟩⟩
def o794:Obj:=ts [("item",1141),("items",1142),("places",1143),("place",1144)]
def o796:Obj:=f0 "list_place" "list_place" (cell 102) 0
def o797:Obj:=co "list_place" 1138 "list_place" 1139 1140 668 3 0 0 3 730 T 181 731 N (r 732) (r 733) (r 734) 1145 668 1146
def o798:Obj:=f1 "list_place" "list_place" (cell 102) 3 N N (u "vectorcove.sets" 1121) 735 0
def o801:Obj:=ts [("v",1151),("kept",1152),("found",1153),("place",1154),("first",1155),("known",1156)]
def o803:Obj:=f0 "first_places" "first_places" (cell 103) 0
def o804:Obj:=co "first_places" 1148 "first_places" 1149 1150 673 1 0 0 3 737 T 181 738 N (r 739) (r 740) (r 741) 1157 673 1158
def o805:Obj:=f1 "first_places" "first_places" (cell 103) 3 N N (u "vectorcove.sets" 1121) 742 0
def o808:Obj:=f0 "unique_places" "unique_places" (cell 104) 0
def o809:Obj:=co "unique_places" 1160 "unique_places" 1161 1162 689 1 0 0 3 744 T 181 745 N N N (r 746) 1163 689 1164
def o810:Obj:=f1 "unique_places" "unique_places" (cell 104) 3 N N (u "vectorcove.sets" 1121) 747 0
def o813:Obj:=ts [("v",1169)]
def o815:Obj:=f0 "turned" "turned" (cell 105) 0
def o816:Obj:=co "turned" 1166 "turned" 1167 1168 692 1 0 0 3 749 T 181 750 N (r 751) (r 752) (r 753) 1170 692 1171
def o817:Obj:=f1 "turned" "turned" (cell 105) 3 N N (u "vectorcove.sets" 1121) 754 0
def o818:Obj:=tu [F]
def o821:Obj:=f0 "duplicated_flags" "duplicated_flags" (cell 106) 0
def o822:Obj:=co "duplicated_flags" 1173 "duplicated_flags" 1174 1175 694 2 0 0 3 757 T 181 758 N N N (r 759) 1176 694 1177
def o823:Obj:=f1 "duplicated_flags" "duplicated_flags" (cell 106) 3 (r 756) N (u "vectorcove.sets" 1121) 760 0
def o826:Obj:=ts [("v",1182)]
def o828:Obj:=f0 "plain" "plain" (cell 107) 0
def o829:Obj:=co "plain" 1179 "plain" 1180 1181 701 1 0 0 3 762 T 181 763 N (r 764) (r 765) (r 766) 1183 701 1184
def o830:Obj:=f1 "plain" "plain" (cell 107) 3 N N (u "vectorcove.sets" 1121) 767 0
def o833:Obj:=ts [("u",1189),("v",1190),("left",1191),("right",1192),("kind",1193)]
def o835:Obj:=f0 "both_kinds" "both_kinds" (cell 108) 0
def o836:Obj:=co "both_kinds" 1186 "both_kinds" 1187 1188 709 2 0 0 3 769 T 181 770 N (r 771) (r 772) (r 773) 1194 709 1195
def o837:Obj:=f1 "both_kinds" "both_kinds" (cell 108) 3 N N (u "vectorcove.sets" 1121) 774 0
def o838 (P:Params):Obj:=dd P 121 [("__name__",165,(u "vectorcove.seqcalls" 1239)),("__doc__",166,N),("__package__",167,N),("__loader__",168,(.builtin "__main__.__loader__#opaque")),("__spec__",169,N),("__annotations__",170,(r 6)),("__builtins__",171,(r 4)),("__file__",173,(u "/claim/cut.py" 172)),("__cached__",174,N),("_wall",193,(r 21)),("CoveError",215,(r 31)),("Refusal",240,(r 51)),("Matching",325,(r 110)),("doubled_text",332,(r 121)),("argument_text",343,(r 128)),("unused_text",349,(r 133)),("match_names",355,(r 139)),("take",361,(r 145)),("NAN",366,(r 146)),("INF",369,(r 147)),("ZERO",372,(r 148)),("gcd",380,(r 155)),("make",389,(r 162)),("from_int",396,(r 169)),("is_na",403,(r 176)),("is_finite",410,(r 183)),("neg",417,(r 190)),("to_whole",425,(r 197)),("nearest_whole",435,(r 204)),("exponent",445,(r 211)),("MOST_EXPONENT",449,(.int 4096 448)),("whole_text",459,(r 218)),("special_text",466,(r 225)),("scaled",476,(r 232)),("significant",486,(r 239)),("without_tail",494,(r 246)),("scientific_text",506,(r 253)),("fixed_text",516,(r 260)),("measures",529,(r 267)),("chosen_form",546,(r 274)),("formed",555,(r 281)),("common_texts",561,(r 286)),("number_text",570,(r 294)),("digits_value",580,(r 301)),("digit_run",589,(r 308)),("exponent_value",598,(r 315)),("powered",607,(r 322)),("unsigned_number",626,(r 329)),("parse_number",638,(r 336)),("Null",669,(r 353)),("Vector",711,(r 382)),("Symbol",742,(r 403)),("null",748,(r 414)),("logical",755,(r 421)),("integer",762,(r 428)),("character",769,(r 435)),("symbol",776,(r 442)),("length",784,(r 449)),("is_vector",791,(r 456)),("is_atomic",798,(r 463)),("share",805,(r 470)),("get_attr",815,(r 477)),("drop_attr",823,(r 484)),("put_attr",832,(r 491)),("label_text",840,(r 498)),("level_at",848,(r 505)),("label_texts",854,(r 510)),("set_names",860,(r 515)),("names_of",866,(r 520)),("dim_of",874,(r 527)),("dimnames_of",880,(r 532)),("class_attr",888,(r 539)),("MOST_INTEGER",892,(.int 2147483647 891)),("kind_order",900,(r 546)),("common_kind",910,(r 553)),("note",918,(r 560)),("as_logical_text",925,(r 567)),("double_to_integer",934,(r 574)),("text_to_double",944,(r 581)),("to_logical",952,(r 588)),("to_integer",961,(r 595)),("to_double",970,(r 602)),("to_text",978,(r 609)),("item_as",988,(r 616)),("is_atomic_kind",995,(r 623)),("list_item_as",1005,(r 630)),("refuse_type",1013,(r 637)),("as_vector_kind",1019,(r 642)),("with_names",1027,(r 649)),("as_kind",1033,(r 654)),("is_factor",1042,(r 661)),("pick",1048,(r 666)),("same_attrs",1061,(r 673)),("same_items",1071,(r 680)),("same_formals",1080,(r 687)),("same_slots",1089,(r 694)),("same_dots",1102,(r 701)),("same_kernel",1112,(r 708)),("identical",1120,(r 715)),("item_key",1130,(r 722)),("is_listed",1137,(r 729)),("list_place",1147,(r 736)),("first_places",1159,(r 743)),("unique_places",1165,(r 748)),("turned",1172,(r 755)),("duplicated_flags",1178,(r 761)),("plain",1185,(r 768)),("both_kinds",1196,(r 775)),("match_places",1202,(r 780)),("distinct",1208,(r 785)),("union_of",1218,(r 792)),("intersect_of",1224,(r 797)),("setdiff_of",1230,(r 802)),("same_sets",1238,(r 809)),("needed_arg",1248,(r 816)),("flag_arg",1257,(r 823)),("without_names",1264,(r 830)),("b_unique",1274,(r 837)),("b_duplicated",1287,(r 844)),("b_any_duplicated",1298,(r 851)),("b_match",1304,(r 856))]
def o839:Obj:=fx [1,0,20,5,0,27,7,0,40,12,0,59,65,0,120,67,0,127,76,0,132,82,0,138,91,0,144,106,0,154,110,0,161,120,0,168,124,0,175,126,0,182,128,0,189,132,0,196,137,0,203,143,0,210,156,0,217,167,0,224,175,0,231,180,0,238,189,0,245,194,0,252,201,0,259,209,0,266,216,0,273,236,0,280,243,0,285,247,0,293,249,0,300,254,0,307,258,0,314,268,0,321,278,0,328,310,0,335,328,0,342,333,0,363,344,0,392,350,0,413,352,0,420,354,0,427,356,0,434,358,0,441,360,0,448,371,0,455,373,0,462,375,0,469,380,0,476,384,0,483,389,0,490,393,0,497,401,0,504,405,0,509,411,0,514,429,0,519,445,0,526,450,0,531,455,0,538,462,0,545,467,0,552,473,0,559,476,0,566,482,0,573,490,0,580,496,0,587,506,0,594,514,0,601,520,0,608,528,0,615,542,0,622,544,0,629,550,0,636,552,0,641,566,0,648,570,0,653,578,0,660,580,0,665,592,0,672,601,0,679,608,0,686,615,0,693,622,0,700,631,0,707,653,0,714,658,0,721,666,0,728,668,0,735,673,0,742,689,0,747,692,0,754,694,0,760,701,0,767,709,0,774,714,0,779,723,0,784,725,0,791,728,0,796,732,0,801,736,0,808,739,0,815,743,0,822,752,0,829,756,0,836,763,0,843,771,0,850,775,0,855]
def o842:Obj:=f0 "match_places" "match_places" (cell 109) 0
def o843:Obj:=co "match_places" 1197 "match_places" 1198 1199 714 2 0 0 3 776 T 181 777 N N N (r 778) 1200 714 1201
def o844:Obj:=f1 "match_places" "match_places" (cell 109) 3 N N (u "vectorcove.sets" 1121) 779 0
def o847:Obj:=f0 "distinct" "distinct" (cell 110) 0
def o848:Obj:=co "distinct" 1203 "distinct" 1204 1205 723 1 0 0 3 781 T 181 782 N N N (r 783) 1206 723 1207
def o849:Obj:=f1 "distinct" "distinct" (cell 110) 3 N N (u "vectorcove.sets" 1121) 784 0
def o852:Obj:=ts [("u",1212),("v",1213),("left",1214),("right",1215)]
def o854:Obj:=f0 "union_of" "union_of" (cell 111) 0
def o855:Obj:=co "union_of" 1209 "union_of" 1210 1211 725 2 0 0 3 786 T 181 787 N (r 788) (r 789) (r 790) 1216 725 1217
def o856:Obj:=f1 "union_of" "union_of" (cell 111) 3 N N (u "vectorcove.sets" 1121) 791 0
def o859:Obj:=f0 "intersect_of" "intersect_of" (cell 112) 0
def o860:Obj:=co "intersect_of" 1219 "intersect_of" 1220 1221 728 2 0 0 3 793 T 181 794 N N N (r 795) 1222 728 1223
def o861:Obj:=f1 "intersect_of" "intersect_of" (cell 112) 3 N N (u "vectorcove.sets" 1121) 796 0
def o864:Obj:=f0 "setdiff_of" "setdiff_of" (cell 113) 0
def o865:Obj:=co "setdiff_of" 1225 "setdiff_of" 1226 1227 732 2 0 0 3 798 T 181 799 N N N (r 800) 1228 732 1229
def o866:Obj:=f1 "setdiff_of" "setdiff_of" (cell 113) 3 N N (u "vectorcove.sets" 1121) 801 0
def o869:Obj:=ts [("u",1234),("v",1235)]
def o871:Obj:=f0 "same_sets" "same_sets" (cell 114) 0
def o872:Obj:=co "same_sets" 1231 "same_sets" 1232 1233 736 2 0 0 3 803 T 181 804 N (r 805) (r 806) (r 807) 1236 736 1237
def o873:Obj:=f1 "same_sets" "same_sets" (cell 114) 3 N N (u "vectorcove.sets" 1121) 808 0
def o876:Obj:=ts [("v",1244),("name",1245)]
def o878:Obj:=f0 "needed_arg" "needed_arg" (cell 116) 0
def o879:Obj:=co "needed_arg" 1241 "needed_arg" 1242 1243 739 2 0 0 3 810 T 181 811 N (r 812) (r 813) (r 814) 1246 739 1247
def o880:Obj:=f1 "needed_arg" "needed_arg" (cell 116) 3 N N (u "vectorcove.seqcalls" 1239) 815 0
def o883:Obj:=ts [("v",1252),("default",1253),("item",1254)]
def o885:Obj:=f0 "flag_arg" "flag_arg" (cell 117) 0
def o886:Obj:=co "flag_arg" 1249 "flag_arg" 1250 1251 743 2 0 0 3 817 T 181 818 N (r 819) (r 820) (r 821) 1255 743 1256
def o887:Obj:=f1 "flag_arg" "flag_arg" (cell 117) 3 N N (u "vectorcove.seqcalls" 1239) 822 0
def o890:Obj:=ts [("v",1261)]
def o892:Obj:=f0 "without_names" "without_names" (cell 118) 0
def o893:Obj:=co "without_names" 1258 "without_names" 1259 1260 752 1 0 0 3 824 T 181 825 N (r 826) (r 827) (r 828) 1262 752 1263
def o894:Obj:=f1 "without_names" "without_names" (cell 118) 3 N N (u "vectorcove.seqcalls" 1239) 829 0
def o897:Obj:=ts [("interp",1268),("args",1269),("env",1270),("v",1271)]
def o899:Obj:=f0 "b_unique" "b_unique" (cell 119) 0
def o900:Obj:=co "b_unique" 1265 "b_unique" 1266 1267 756 3 0 0 3 831 T 181 832 N (r 833) (r 834) (r 835) 1272 756 1273
def o901:Obj:=f1 "b_unique" "b_unique" (cell 119) 3 N N (u "vectorcove.seqcalls" 1239) 836 0
def o904:Obj:=ts [("interp",1278),("args",1279),("env",1280),("v",1281),("other",1282),("last",1283),("rest",1284)]
def o906:Obj:=f0 "b_duplicated" "b_duplicated" (cell 120) 0
def o907:Obj:=co "b_duplicated" 1275 "b_duplicated" 1276 1277 763 3 0 0 3 838 T 181 839 N (r 840) (r 841) (r 842) 1285 763 1286
def o908:Obj:=f1 "b_duplicated" "b_duplicated" (cell 120) 3 N N (u "vectorcove.seqcalls" 1239) 843 0
def o911:Obj:=ts [("interp",1291),("args",1292),("env",1293),("v",1294),("flags",1295)]
def o913:Obj:=f0 "b_any_duplicated" "b_any_duplicated" (cell 121) 0
def o914:Obj:=co "b_any_duplicated" 1288 "b_any_duplicated" 1289 1290 771 3 0 0 3 845 T 181 846 N (r 847) (r 848) (r 849) 1296 771 1297
def o915:Obj:=f1 "b_any_duplicated" "b_any_duplicated" (cell 121) 3 N N (u "vectorcove.seqcalls" 1239) 850 0
def o918:Obj:=f0 "b_match" "b_match" (cell 122) 0
def o919:Obj:=co "b_match" 1299 "b_match" 1300 1301 775 3 0 0 3 852 T 181 853 N N N (r 854) 1302 775 1303
def o920:Obj:=f1 "b_match" "b_match" (cell 122) 3 N N (u "vectorcove.seqcalls" 1239) 855 0
def o921 (P:Params):Obj:=dd P 133 [("__name__",165,(u "law_pq1345_01" 1371)),("__doc__",166,N),("__package__",167,N),("__loader__",168,(.builtin "__main__.__loader__#opaque")),("__spec__",169,N),("__annotations__",170,(r 6)),("__builtins__",171,(r 4)),("__file__",173,(u "/claim/cut.py" 172)),("__cached__",174,N),("_wall",193,(r 21)),("CoveError",215,(r 31)),("Refusal",240,(r 51)),("Matching",325,(r 110)),("doubled_text",332,(r 121)),("argument_text",343,(r 128)),("unused_text",349,(r 133)),("match_names",355,(r 139)),("take",361,(r 145)),("NAN",366,(r 146)),("INF",369,(r 147)),("ZERO",372,(r 148)),("gcd",380,(r 155)),("make",389,(r 162)),("from_int",396,(r 169)),("is_na",403,(r 176)),("is_finite",410,(r 183)),("neg",417,(r 190)),("to_whole",425,(r 197)),("nearest_whole",435,(r 204)),("exponent",445,(r 211)),("MOST_EXPONENT",449,(.int 4096 448)),("whole_text",459,(r 218)),("special_text",466,(r 225)),("scaled",476,(r 232)),("significant",486,(r 239)),("without_tail",494,(r 246)),("scientific_text",506,(r 253)),("fixed_text",516,(r 260)),("measures",529,(r 267)),("chosen_form",546,(r 274)),("formed",555,(r 281)),("common_texts",561,(r 286)),("number_text",570,(r 294)),("digits_value",580,(r 301)),("digit_run",589,(r 308)),("exponent_value",598,(r 315)),("powered",607,(r 322)),("unsigned_number",626,(r 329)),("parse_number",638,(r 336)),("Null",669,(r 353)),("Vector",711,(r 382)),("Symbol",742,(r 403)),("null",748,(r 414)),("logical",755,(r 421)),("integer",762,(r 428)),("character",769,(r 435)),("symbol",776,(r 442)),("length",784,(r 449)),("is_vector",791,(r 456)),("is_atomic",798,(r 463)),("share",805,(r 470)),("get_attr",815,(r 477)),("drop_attr",823,(r 484)),("put_attr",832,(r 491)),("label_text",840,(r 498)),("level_at",848,(r 505)),("label_texts",854,(r 510)),("set_names",860,(r 515)),("names_of",866,(r 520)),("dim_of",874,(r 527)),("dimnames_of",880,(r 532)),("class_attr",888,(r 539)),("MOST_INTEGER",892,(.int 2147483647 891)),("kind_order",900,(r 546)),("common_kind",910,(r 553)),("note",918,(r 560)),("as_logical_text",925,(r 567)),("double_to_integer",934,(r 574)),("text_to_double",944,(r 581)),("to_logical",952,(r 588)),("to_integer",961,(r 595)),("to_double",970,(r 602)),("to_text",978,(r 609)),("item_as",988,(r 616)),("is_atomic_kind",995,(r 623)),("list_item_as",1005,(r 630)),("refuse_type",1013,(r 637)),("as_vector_kind",1019,(r 642)),("with_names",1027,(r 649)),("as_kind",1033,(r 654)),("is_factor",1042,(r 661)),("pick",1048,(r 666)),("same_attrs",1061,(r 673)),("same_items",1071,(r 680)),("same_formals",1080,(r 687)),("same_slots",1089,(r 694)),("same_dots",1102,(r 701)),("same_kernel",1112,(r 708)),("identical",1120,(r 715)),("item_key",1130,(r 722)),("is_listed",1137,(r 729)),("list_place",1147,(r 736)),("first_places",1159,(r 743)),("unique_places",1165,(r 748)),("turned",1172,(r 755)),("duplicated_flags",1178,(r 761)),("plain",1185,(r 768)),("both_kinds",1196,(r 775)),("match_places",1202,(r 780)),("distinct",1208,(r 785)),("union_of",1218,(r 792)),("intersect_of",1224,(r 797)),("setdiff_of",1230,(r 802)),("same_sets",1238,(r 809)),("needed_arg",1248,(r 816)),("flag_arg",1257,(r 823)),("without_names",1264,(r 830)),("b_unique",1274,(r 837)),("b_duplicated",1287,(r 844)),("b_any_duplicated",1298,(r 851)),("b_match",1304,(r 856)),("b_in",1310,(r 861)),("set_arg",1317,(r 868)),("set_args",1326,(r 875)),("b_union",1337,(r 882)),("b_intersect",1348,(r 889)),("b_setdiff",1359,(r 896)),("b_setequal",1370,(r 903)),("_law_reel",1384,(r 910)),("_law_vector",1390,(r 915)),("_law_once",1399,(r 922)),("_law_wider",1408,(r 929)),("_law_is",1414,(r 934))]
def o922:Obj:=fx [1,0,20,5,0,27,7,0,40,12,0,59,65,0,120,67,0,127,76,0,132,82,0,138,91,0,144,106,0,154,110,0,161,120,0,168,124,0,175,126,0,182,128,0,189,132,0,196,137,0,203,143,0,210,156,0,217,167,0,224,175,0,231,180,0,238,189,0,245,194,0,252,201,0,259,209,0,266,216,0,273,236,0,280,243,0,285,247,0,293,249,0,300,254,0,307,258,0,314,268,0,321,278,0,328,310,0,335,328,0,342,333,0,363,344,0,392,350,0,413,352,0,420,354,0,427,356,0,434,358,0,441,360,0,448,371,0,455,373,0,462,375,0,469,380,0,476,384,0,483,389,0,490,393,0,497,401,0,504,405,0,509,411,0,514,429,0,519,445,0,526,450,0,531,455,0,538,462,0,545,467,0,552,473,0,559,476,0,566,482,0,573,490,0,580,496,0,587,506,0,594,514,0,601,520,0,608,528,0,615,542,0,622,544,0,629,550,0,636,552,0,641,566,0,648,570,0,653,578,0,660,580,0,665,592,0,672,601,0,679,608,0,686,615,0,693,622,0,700,631,0,707,653,0,714,658,0,721,666,0,728,668,0,735,673,0,742,689,0,747,692,0,754,694,0,760,701,0,767,709,0,774,714,0,779,723,0,784,725,0,791,728,0,796,732,0,801,736,0,808,739,0,815,743,0,822,752,0,829,756,0,836,763,0,843,771,0,850,775,0,855,782,0,860,786,0,867,790,0,874,793,0,881,798,0,888,803,0,895,808,0,902,812,0,909,825,0,914,835,0,921,841,0,928,844,0,933]
def o925:Obj:=f0 "b_in" "b_in" (cell 123) 0
def o926:Obj:=co "b_in" 1305 "b_in" 1306 1307 782 3 0 0 3 857 T 181 858 N N N (r 859) 1308 782 1309
def o927:Obj:=f1 "b_in" "b_in" (cell 123) 3 N N (u "vectorcove.seqcalls" 1239) 860 0
def o930:Obj:=ts [("v",1314)]
def o932:Obj:=f0 "set_arg" "set_arg" (cell 124) 0
def o933:Obj:=co "set_arg" 1311 "set_arg" 1312 1313 786 1 0 0 3 862 T 181 863 N (r 864) (r 865) (r 866) 1315 786 1316
def o934:Obj:=f1 "set_arg" "set_arg" (cell 124) 3 N N (u "vectorcove.seqcalls" 1239) 867 0
def o937:Obj:=ts [("args",1321),("u",1322),("v",1323)]
def o939:Obj:=f0 "set_args" "set_args" (cell 125) 0
def o940:Obj:=co "set_args" 1318 "set_args" 1319 1320 790 1 0 0 3 869 T 181 870 N (r 871) (r 872) (r 873) 1324 790 1325
def o941:Obj:=f1 "set_args" "set_args" (cell 125) 3 N N (u "vectorcove.seqcalls" 1239) 874 0
def o944:Obj:=ts [("interp",1330),("args",1331),("env",1332),("u",1333),("v",1334)]
def o946:Obj:=f0 "b_union" "b_union" (cell 126) 0
def o947:Obj:=co "b_union" 1327 "b_union" 1328 1329 793 3 0 0 3 876 T 181 877 N (r 878) (r 879) (r 880) 1335 793 1336
def o948:Obj:=f1 "b_union" "b_union" (cell 126) 3 N N (u "vectorcove.seqcalls" 1239) 881 0
def o951:Obj:=ts [("interp",1341),("args",1342),("env",1343),("u",1344),("v",1345)]
def o953:Obj:=f0 "b_intersect" "b_intersect" (cell 127) 0
def o954:Obj:=co "b_intersect" 1338 "b_intersect" 1339 1340 798 3 0 0 3 883 T 181 884 N (r 885) (r 886) (r 887) 1346 798 1347
def o955:Obj:=f1 "b_intersect" "b_intersect" (cell 127) 3 N N (u "vectorcove.seqcalls" 1239) 888 0
def o958:Obj:=ts [("interp",1352),("args",1353),("env",1354),("u",1355),("v",1356)]
def o960:Obj:=f0 "b_setdiff" "b_setdiff" (cell 128) 0
def o961:Obj:=co "b_setdiff" 1349 "b_setdiff" 1350 1351 803 3 0 0 3 890 T 181 891 N (r 892) (r 893) (r 894) 1357 803 1358
def o962:Obj:=f1 "b_setdiff" "b_setdiff" (cell 128) 3 N N (u "vectorcove.seqcalls" 1239) 895 0
def o965:Obj:=ts [("interp",1363),("args",1364),("env",1365),("u",1366),("v",1367)]
def o967:Obj:=f0 "b_setequal" "b_setequal" (cell 129) 0
def o968:Obj:=co "b_setequal" 1360 "b_setequal" 1361 1362 808 3 0 0 3 897 T 181 898 N (r 899) (r 900) (r 901) 1368 808 1369
def o969:Obj:=f1 "b_setequal" "b_setequal" (cell 129) 3 N N (u "vectorcove.seqcalls" 1239) 902 0
def o972:Obj:=ts [("spool",1376),("out_of",1377),("wind",1378),("cell",1379),("yarn",1380),("knot",1381)]
def o974:Obj:=f0 "_law_reel" "_law_reel" (cell 131) 0
def o975:Obj:=co "_law_reel" 1373 "_law_reel" 1374 1375 812 2 0 0 3 904 T 181 905 N (r 906) (r 907) (r 908) 1382 812 1383
def o976:Obj:=f1 "_law_reel" "_law_reel" (cell 131) 3 N N (u "law_pq1345_01" 1371) 909 0
def o979:Obj:=f0 "_law_vector" "_law_vector" (cell 132) 0
def o980:Obj:=co "_law_vector" 1385 "_law_vector" 1386 1387 825 1 0 0 3 911 T 181 912 N N N (r 913) 1388 825 1389
def o981:Obj:=f1 "_law_vector" "_law_vector" (cell 132) 3 N N (u "law_pq1345_01" 1371) 914 0
def o984:Obj:=ts [("row",1394),("made",1395),("one",1396)]
def o986:Obj:=f0 "_law_once" "_law_once" (cell 133) 0
def o987:Obj:=co "_law_once" 1391 "_law_once" 1392 1393 835 1 0 0 3 916 T 181 917 N (r 918) (r 919) (r 920) 1397 835 1398
def o988:Obj:=f1 "_law_once" "_law_once" (cell 133) 3 N N (u "law_pq1345_01" 1371) 921 0
def o991:Obj:=ts [("a",1403),("b",1404),("order",1405)]
def o993:Obj:=f0 "_law_wider" "_law_wider" (cell 134) 0
def o994:Obj:=co "_law_wider" 1400 "_law_wider" 1401 1402 841 2 0 0 3 923 T 181 924 N (r 925) (r 926) (r 927) 1406 841 1407
def o995:Obj:=f1 "_law_wider" "_law_wider" (cell 134) 3 N N (u "law_pq1345_01" 1371) 928 0
def o998:Obj:=f0 "_law_is" "_law_is" (cell 135) 0
def o999:Obj:=co "_law_is" 1409 "_law_is" 1410 1411 844 3 0 0 3 930 T 181 931 N N N (r 932) 1412 844 1413
def o1000:Obj:=f1 "_law_is" "_law_is" (cell 135) 3 N N (u "law_pq1345_01" 1371) 933 0
def o1001 (P:Params):Obj:=dd P 138 [("__name__",165,(u "law_pq1345_01" 1371)),("__doc__",166,N),("__package__",167,N),("__loader__",168,(.builtin "__main__.__loader__#opaque")),("__spec__",169,N),("__annotations__",170,(r 6)),("__builtins__",171,(r 4)),("__file__",173,(u "/claim/cut.py" 172)),("__cached__",174,N),("_wall",193,(r 21)),("CoveError",215,(r 31)),("Refusal",240,(r 51)),("Matching",325,(r 110)),("doubled_text",332,(r 121)),("argument_text",343,(r 128)),("unused_text",349,(r 133)),("match_names",355,(r 139)),("take",361,(r 145)),("NAN",366,(r 146)),("INF",369,(r 147)),("ZERO",372,(r 148)),("gcd",380,(r 155)),("make",389,(r 162)),("from_int",396,(r 169)),("is_na",403,(r 176)),("is_finite",410,(r 183)),("neg",417,(r 190)),("to_whole",425,(r 197)),("nearest_whole",435,(r 204)),("exponent",445,(r 211)),("MOST_EXPONENT",449,(.int 4096 448)),("whole_text",459,(r 218)),("special_text",466,(r 225)),("scaled",476,(r 232)),("significant",486,(r 239)),("without_tail",494,(r 246)),("scientific_text",506,(r 253)),("fixed_text",516,(r 260)),("measures",529,(r 267)),("chosen_form",546,(r 274)),("formed",555,(r 281)),("common_texts",561,(r 286)),("number_text",570,(r 294)),("digits_value",580,(r 301)),("digit_run",589,(r 308)),("exponent_value",598,(r 315)),("powered",607,(r 322)),("unsigned_number",626,(r 329)),("parse_number",638,(r 336)),("Null",669,(r 353)),("Vector",711,(r 382)),("Symbol",742,(r 403)),("null",748,(r 414)),("logical",755,(r 421)),("integer",762,(r 428)),("character",769,(r 435)),("symbol",776,(r 442)),("length",784,(r 449)),("is_vector",791,(r 456)),("is_atomic",798,(r 463)),("share",805,(r 470)),("get_attr",815,(r 477)),("drop_attr",823,(r 484)),("put_attr",832,(r 491)),("label_text",840,(r 498)),("level_at",848,(r 505)),("label_texts",854,(r 510)),("set_names",860,(r 515)),("names_of",866,(r 520)),("dim_of",874,(r 527)),("dimnames_of",880,(r 532)),("class_attr",888,(r 539)),("MOST_INTEGER",892,(.int 2147483647 891)),("kind_order",900,(r 546)),("common_kind",910,(r 553)),("note",918,(r 560)),("as_logical_text",925,(r 567)),("double_to_integer",934,(r 574)),("text_to_double",944,(r 581)),("to_logical",952,(r 588)),("to_integer",961,(r 595)),("to_double",970,(r 602)),("to_text",978,(r 609)),("item_as",988,(r 616)),("is_atomic_kind",995,(r 623)),("list_item_as",1005,(r 630)),("refuse_type",1013,(r 637)),("as_vector_kind",1019,(r 642)),("with_names",1027,(r 649)),("as_kind",1033,(r 654)),("is_factor",1042,(r 661)),("pick",1048,(r 666)),("same_attrs",1061,(r 673)),("same_items",1071,(r 680)),("same_formals",1080,(r 687)),("same_slots",1089,(r 694)),("same_dots",1102,(r 701)),("same_kernel",1112,(r 708)),("identical",1120,(r 715)),("item_key",1130,(r 722)),("is_listed",1137,(r 729)),("list_place",1147,(r 736)),("first_places",1159,(r 743)),("unique_places",1165,(r 748)),("turned",1172,(r 755)),("duplicated_flags",1178,(r 761)),("plain",1185,(r 768)),("both_kinds",1196,(r 775)),("match_places",1202,(r 780)),("distinct",1208,(r 785)),("union_of",1218,(r 792)),("intersect_of",1224,(r 797)),("setdiff_of",1230,(r 802)),("same_sets",1238,(r 809)),("needed_arg",1248,(r 816)),("flag_arg",1257,(r 823)),("without_names",1264,(r 830)),("b_unique",1274,(r 837)),("b_duplicated",1287,(r 844)),("b_any_duplicated",1298,(r 851)),("b_match",1304,(r 856)),("b_in",1310,(r 861)),("set_arg",1317,(r 868)),("set_args",1326,(r 875)),("b_union",1337,(r 882)),("b_intersect",1348,(r 889)),("b_setdiff",1359,(r 896)),("b_setequal",1370,(r 903)),("_law_reel",1384,(r 910)),("_law_vector",1390,(r 915)),("_law_once",1399,(r 922)),("_law_wider",1408,(r 929)),("_law_is",1414,(r 934)),("_law_alone_right",1420,(r 939)),("_law_both_right",1426,(r 944)),("_law_nothing_right",1436,(r 951)),("_law_refused",1445,(r 958)),("law",1457,(r 965))]
def o1002:Obj:=fx [1,0,20,5,0,27,7,0,40,12,0,59,65,0,120,67,0,127,76,0,132,82,0,138,91,0,144,106,0,154,110,0,161,120,0,168,124,0,175,126,0,182,128,0,189,132,0,196,137,0,203,143,0,210,156,0,217,167,0,224,175,0,231,180,0,238,189,0,245,194,0,252,201,0,259,209,0,266,216,0,273,236,0,280,243,0,285,247,0,293,249,0,300,254,0,307,258,0,314,268,0,321,278,0,328,310,0,335,328,0,342,333,0,363,344,0,392,350,0,413,352,0,420,354,0,427,356,0,434,358,0,441,360,0,448,371,0,455,373,0,462,375,0,469,380,0,476,384,0,483,389,0,490,393,0,497,401,0,504,405,0,509,411,0,514,429,0,519,445,0,526,450,0,531,455,0,538,462,0,545,467,0,552,473,0,559,476,0,566,482,0,573,490,0,580,496,0,587,506,0,594,514,0,601,520,0,608,528,0,615,542,0,622,544,0,629,550,0,636,552,0,641,566,0,648,570,0,653,578,0,660,580,0,665,592,0,672,601,0,679,608,0,686,615,0,693,622,0,700,631,0,707,653,0,714,658,0,721,666,0,728,668,0,735,673,0,742,689,0,747,692,0,754,694,0,760,701,0,767,709,0,774,714,0,779,723,0,784,725,0,791,728,0,796,732,0,801,736,0,808,739,0,815,743,0,822,752,0,829,756,0,836,763,0,843,771,0,850,775,0,855,782,0,860,786,0,867,790,0,874,793,0,881,798,0,888,803,0,895,808,0,902,812,0,909,825,0,914,835,0,921,841,0,928,844,0,933,847,0,938,868,0,943,888,0,950,904,0,957,910,0,964]
def o1005:Obj:=f0 "_law_alone_right" "_law_alone_right" (cell 136) 0
def o1006:Obj:=co "_law_alone_right" 1415 "_law_alone_right" 1416 1417 847 2 0 0 3 935 T 181 936 N N N (r 937) 1418 847 1419
def o1007:Obj:=f1 "_law_alone_right" "_law_alone_right" (cell 136) 3 N N (u "law_pq1345_01" 1371) 938 0
def o1010:Obj:=f0 "_law_both_right" "_law_both_right" (cell 137) 0
def o1011:Obj:=co "_law_both_right" 1421 "_law_both_right" 1422 1423 868 4 0 0 3 940 T 181 941 N N N (r 942) 1424 868 1425
def o1012:Obj:=f1 "_law_both_right" "_law_both_right" (cell 137) 3 N N (u "law_pq1345_01" 1371) 943 0
def o1015:Obj:=ts [("u",1430),("left",1431),("empty",1432),("deed",1433)]
def o1017:Obj:=f0 "_law_nothing_right" "_law_nothing_right" (cell 138) 0
def o1018:Obj:=co "_law_nothing_right" 1427 "_law_nothing_right" 1428 1429 888 2 0 0 3 945 T 181 946 N (r 947) (r 948) (r 949) 1434 888 1435
def o1019:Obj:=f1 "_law_nothing_right" "_law_nothing_right" (cell 138) 3 N N (u "law_pq1345_01" 1371) 950 0
def o1022:Obj:=ts [("deed",1440),("args",1441),("refusal",1442)]
def o1024:Obj:=f0 "_law_refused" "_law_refused" (cell 139) 0
def o1025:Obj:=co "_law_refused" 1437 "_law_refused" 1438 1439 904 2 0 0 3 952 T 181 953 N (r 954) (r 955) (r 956) 1443 904 1444
def o1026:Obj:=f1 "_law_refused" "_law_refused" (cell 139) 3 N N (u "law_pq1345_01" 1371) 957 0
def o1029:Obj:=ts [("script",1449),("spool",1450),("u",1451),("left",1452),("v",1453),("right",1454)]
def o1031:Obj:=f0 "law" "law" (cell 140) 0
def o1032:Obj:=co "law" 1446 "law" 1447 1448 910 1 0 0 3 959 T 181 960 N (r 961) (r 962) (r 963) 1455 910 1456
def o1033:Obj:=f1 "law" "law" (cell 140) 3 N N (u "law_pq1345_01" 1371) 964 0
def t47 (P:Params):BT:=(nd (boot_o_0 P) (nd (boot_o_1 P) (nd (boot_o_3 P) (lf (boot_o_7 P)) (lf o43)) (nd (boot_o_5 P) (lf (boot_o_9 P)) (lf o45))) (nd (boot_o_2 P) (nd (boot_o_4 P) (lf (boot_o_8 P)) (lf o44)) (nd (boot_o_6 P) (lf (boot_o_10 P)) (lf o46))))
def t71 (P:Params):BT:=(nd (boot_o_0 P) (nd (boot_o_1 P) (nd (o50 P) (nd (boot_o_7 P) (nd o43 (lf o68) e) (lf o60)) (nd o43 (lf o56) (lf o64))) (nd (boot_o_5 P) (nd (boot_o_9 P) (nd o54 (lf o70) e) (lf o43)) (nd o45 (lf o58) (lf o43)))) (nd (o49 P) (nd (boot_o_4 P) (nd (boot_o_8 P) (nd o44 (lf o69) e) (lf (o61 P))) (nd o51 (lf o57) (lf o65))) (nd (boot_o_6 P) (nd (boot_o_10 P) (nd o43 (lf o71) e) (lf o44)) (nd o46 (lf o59) (lf (o67 P))))))
def t93 (P:Params):BT:=(nd (boot_o_0 P) (nd (boot_o_1 P) (nd (o72 P) (nd (boot_o_7 P) (nd o43 (lf o74) (lf o87)) (nd o60 (lf o79) e)) (nd o43 (nd o56 (lf o75) (lf o91)) (nd o64 (lf o44) e))) (nd (boot_o_5 P) (nd (boot_o_9 P) (nd o54 (lf o70) (lf o89)) (nd o43 (lf o81) e)) (nd o45 (nd o58 (lf (o77 P)) (lf o93)) (nd o43 (lf o43) e)))) (nd (o49 P) (nd (boot_o_4 P) (nd (boot_o_8 P) (nd o44 (lf o69) (lf o88)) (nd (o61 P) (lf o80) e)) (nd o73 (nd o57 (lf o60) (lf o92)) (nd o65 (lf o84) e))) (nd (boot_o_6 P) (nd (boot_o_10 P) (nd o43 (lf o71) (lf (o90 P))) (nd o44 (lf o43) e)) (nd o46 (nd o59 (lf o43) e) (nd (o67 P) (lf o86) e)))))
def t156 (P:Params):BT:=(nd (boot_o_0 P) (nd (boot_o_1 P) (nd (o94 P) (nd (boot_o_7 P) (nd o43 (nd o74 (lf o105) (lf o137)) (nd o87 (lf o121) (lf o153))) (nd o60 (nd o79 (lf o43) (lf o43)) (nd o60 (lf o129) e))) (nd o43 (nd o56 (nd o75 (lf o109) (lf o43)) (nd o91 (lf o44) e)) (nd o64 (nd o44 (lf o43) (lf o149)) (nd o101 (lf o133) e)))) (nd (boot_o_5 P) (nd (boot_o_9 P) (nd o54 (nd o70 (lf o107) (lf o44)) (nd o89 (lf o123) (lf o155))) (nd o43 (nd o81 (lf o115) (lf o147)) (nd o43 (lf o43) e))) (nd o45 (nd o58 (nd (o77 P) (lf o44) (lf o143)) (nd o93 (lf o43) e)) (nd o43 (nd o43 (lf o119) (lf (o151 P))) (nd o43 (lf o135) e))))) (nd (o49 P) (nd (boot_o_4 P) (nd (boot_o_8 P) (nd o44 (nd o69 (lf o43) (lf o43)) (nd o88 (lf o122) (lf o154))) (nd (o61 P) (nd o80 (lf o114) (lf o44)) (nd (o98 P) (lf o130) e))) (nd o95 (nd o57 (nd o60 (lf o43) (lf o142)) (nd o92 (lf o126) e)) (nd o65 (nd o84 (lf o44) (lf o150)) (nd o102 (lf o43) e)))) (nd (boot_o_6 P) (nd (boot_o_10 P) (nd o43 (nd o71 (lf o108) (lf o140)) (nd (o90 P) (lf o43) (lf o156))) (nd o44 (nd o43 (lf o116) (lf o148)) (nd o100 (lf o44) e))) (nd o46 (nd o59 (nd o43 (lf o112) (lf o144)) (nd o43 (lf o128) e)) (nd (o67 P) (nd o86 (lf o43) (lf o152)) (nd o44 (lf o136) e))))))
def t241 (P:Params):BT:=(nd (boot_o_0 P) (nd (boot_o_1 P) (nd (o157 P) (nd (boot_o_7 P) (nd o43 (nd o74 (nd o105 (lf o171) (lf o43)) (nd o137 (lf o43) e)) (nd o87 (nd o121 (lf o187) e) (nd o153 (lf o219) e))) (nd o60 (nd o79 (nd o43 (lf o43) e) (nd o43 (lf o211) e)) (nd o60 (nd o129 (lf o195) e) (nd o163 (lf o227) e)))) (nd o43 (nd o56 (nd o75 (nd o109 (lf o175) (lf o239)) (nd o43 (lf o43) e)) (nd o91 (nd o44 (lf o191) e) (nd o43 (lf o223) e))) (nd o64 (nd o44 (nd o43 (lf o183) e) (nd o149 (lf o44) e)) (nd o101 (nd o133 (lf o199) e) (nd o44 (lf o43) e))))) (nd (boot_o_5 P) (nd (boot_o_9 P) (nd o54 (nd o70 (nd o107 (lf o43) (lf o237)) (nd o44 (lf o205) e)) (nd o89 (nd o123 (lf o189) e) (nd o155 (lf o43) e))) (nd o43 (nd o81 (nd o115 (lf o181) e) (nd o147 (lf o213) e)) (nd o43 (nd o43 (lf o197) e) (nd o165 (lf o44) e)))) (nd o45 (nd o58 (nd (o77 P) (nd o44 (lf o177) (lf o241)) (nd o143 (lf o209) e)) (nd o93 (nd o43 (lf o43) e) (nd o161 (lf o225) e))) (nd o43 (nd o43 (nd o119 (lf o43) e) (nd (o151 P) (lf o43) e)) (nd o43 (nd o135 (lf o44) e) (nd o43 (lf o233) e)))))) (nd (o49 P) (nd (boot_o_4 P) (nd (boot_o_8 P) (nd o44 (nd o69 (nd o43 (lf o172) (lf o44)) (nd o43 (lf o204) e)) (nd o88 (nd o122 (lf o188) e) (nd o154 (lf o220) e))) (nd (o61 P) (nd o80 (nd o114 (lf o44) e) (nd o44 (lf o212) e)) (nd (o98 P) (nd o130 (lf o43) e) (nd o164 (lf o43) e)))) (nd o158 (nd o57 (nd o60 (nd o43 (lf o176) (lf o240)) (nd o142 (lf o44) e)) (nd o92 (nd o126 (lf o192) e) (nd o44 (lf o43) e))) (nd o65 (nd o84 (nd o44 (lf o178) e) (nd o150 (lf o216) e)) (nd o102 (nd o43 (lf o43) e) (nd o168 (lf o232) e))))) (nd (boot_o_6 P) (nd (boot_o_10 P) (nd o43 (nd o71 (nd o108 (lf o44) (lf o43)) (nd o140 (lf o206) e)) (nd (o90 P) (nd o43 (lf o190) e) (nd o156 (lf o44) e))) (nd o44 (nd o43 (nd o116 (lf o182) e) (nd o148 (lf o43) e)) (nd o100 (nd o44 (lf o198) e) (nd o43 (lf o230) e)))) (nd o46 (nd o59 (nd o43 (nd o112 (lf o178) e) (nd o144 (lf o43) e)) (nd o43 (nd o128 (lf o44) e) (nd o43 (lf o226) e))) (nd (o67 P) (nd o86 (nd o43 (lf o44) e) (nd o152 (lf o218) e)) (nd o44 (nd o136 (lf o202) e) (nd o170 (lf o234) e)))))))
def t320 (P:Params):BT:=(nd (boot_o_0 P) (nd (boot_o_1 P) (nd (o242 P) (nd (boot_o_7 P) (nd o43 (nd o74 (nd o105 (nd o171 (lf o44) e) (lf o43)) (nd o137 (lf o43) (lf o269))) (nd o87 (nd o121 (nd o187 (lf o43) e) (lf o253)) (nd o153 (lf o219) (lf o285)))) (nd o60 (nd o79 (nd o43 (nd o43 (lf o309) e) (lf o44)) (nd o43 (lf o211) (lf o277))) (nd o60 (nd o129 (lf o195) (lf o43)) (nd o163 (lf o227) (lf o43))))) (nd o43 (nd o56 (nd o75 (nd o109 (nd o175 (lf o305) e) (lf o239)) (nd o43 (lf o43) (lf o44))) (nd o91 (nd o44 (lf o191) (lf o257)) (nd o43 (lf o223) (lf o43)))) (nd o64 (nd o44 (nd o43 (nd o183 (lf o313) e) (lf o249)) (nd o149 (lf o44) (lf o281))) (nd o101 (nd o133 (lf o199) (lf o43)) (nd o44 (lf o43) (lf o297)))))) (nd (boot_o_5 P) (nd (boot_o_9 P) (nd o54 (nd o70 (nd o107 (nd o43 (lf o43) e) (lf o237)) (nd o44 (lf o205) (lf o271))) (nd o89 (nd o123 (nd o189 (lf o319) e) (lf o255)) (nd o155 (lf o43) (lf o44)))) (nd o43 (nd o81 (nd o115 (nd o181 (lf o311) e) (lf o43)) (nd o147 (lf o213) (lf o43))) (nd o43 (nd o43 (lf o197) (lf o263)) (nd o165 (lf o44) (lf o295))))) (nd o45 (nd o58 (nd (o77 P) (nd o44 (nd o177 (lf o43) e) (lf o241)) (nd o143 (lf o209) (lf o43))) (nd o93 (nd o43 (lf o43) (lf o44)) (nd o161 (lf o225) (lf o291)))) (nd o43 (nd o43 (nd o119 (nd o43 (lf o44) e) (lf o43)) (nd (o151 P) (lf o43) (lf o283))) (nd o43 (nd o135 (lf o44) (lf o267)) (nd o43 (lf o233) (lf o299))))))) (nd (o49 P) (nd (boot_o_4 P) (nd (boot_o_8 P) (nd o44 (nd o69 (nd o43 (nd o172 (lf o302) e) (lf o44)) (nd o43 (lf o204) (lf o270))) (nd o88 (nd o122 (nd o188 (lf o318) e) (lf o43)) (nd o154 (lf o220) (lf o43)))) (nd (o61 P) (nd o80 (nd o114 (nd o44 (lf o43) e) (lf o246)) (nd o44 (lf o212) (lf o278))) (nd (o98 P) (nd o130 (lf o43) (lf o262)) (nd o164 (lf o43) (lf o44))))) (nd o243 (nd o57 (nd o60 (nd o43 (nd o176 (lf o306) e) (lf o240)) (nd o142 (lf o44) (lf o274))) (nd o92 (nd o126 (lf o192) (lf o43)) (nd o44 (lf o43) (lf o290)))) (nd o65 (nd o84 (nd o44 (nd o178 (lf o43) e) (lf o250)) (nd o150 (lf o216) (lf o43))) (nd o102 (nd o43 (lf o43) (lf o44)) (nd o168 (lf o232) (lf o298)))))) (nd (boot_o_6 P) (nd (boot_o_10 P) (nd o43 (nd o71 (nd o108 (nd o44 (lf o304) e) (lf o43)) (nd o140 (lf o206) (lf o43))) (nd (o90 P) (nd o43 (nd o190 (lf o320) e) (lf o256)) (nd o156 (lf o44) (lf o288)))) (nd o44 (nd o43 (nd o116 (nd o182 (lf o312) e) (lf o248)) (nd o148 (lf o43) (lf o44))) (nd o100 (nd o44 (lf o198) (lf o264)) (nd o43 (lf o230) (lf o43))))) (nd o46 (nd o59 (nd o43 (nd o112 (nd o178 (lf o44) e) (lf o43)) (nd o144 (lf o43) (lf o276))) (nd o43 (nd o128 (lf o44) (lf o260)) (nd o43 (lf o226) (lf o292)))) (nd (o67 P) (nd o86 (nd o43 (nd o44 (lf o316) e) (lf o44)) (nd o152 (lf o218) (lf o284))) (nd o44 (nd o136 (lf o202) (lf o43)) (nd o170 (lf o234) (lf o43))))))))
def t384 (P:Params):BT:=(nd (boot_o_0 P) (nd (boot_o_1 P) (nd (o321 P) (nd (boot_o_7 P) (nd o43 (nd o74 (nd o105 (nd o171 (lf o44) e) (nd o43 (lf o43) e)) (nd o137 (nd o43 (lf o335) e) (lf o269))) (nd o87 (nd o121 (nd o187 (lf o43) e) (nd o253 (lf o383) e)) (nd o153 (nd o219 (lf o44) e) (lf o285)))) (nd o60 (nd o79 (nd o43 (nd o43 (lf o309) e) (nd o44 (lf o375) e)) (nd o43 (nd o211 (lf o43) e) (lf o277))) (nd o60 (nd o129 (nd o195 (lf o327) e) (lf o43)) (nd o163 (nd o227 (lf o359) e) (lf o43))))) (nd o43 (nd o56 (nd o75 (nd o109 (nd o175 (lf o305) e) (nd o239 (lf o43) e)) (nd o43 (nd o43 (lf o43) e) (lf o44))) (nd o91 (nd o44 (nd o191 (lf o43) e) (lf o257)) (nd o43 (nd o223 (lf o355) e) (lf o43)))) (nd o64 (nd o44 (nd o43 (nd o183 (lf o313) e) (nd o249 (lf o44) e)) (nd o149 (nd o44 (lf o347) e) (lf o281))) (nd o101 (nd o133 (nd o199 (lf o44) e) (lf o43)) (nd o44 (nd o43 (lf o363) e) (lf o297)))))) (nd (boot_o_5 P) (nd (boot_o_9 P) (nd o54 (nd o70 (nd o107 (nd o43 (lf o43) e) (nd o237 (lf o369) e)) (nd o44 (nd o205 (lf o44) e) (lf o271))) (nd o89 (nd o123 (nd o189 (lf o319) e) (lf o255)) (nd o155 (nd o43 (lf o43) e) (lf o44)))) (nd o43 (nd o81 (nd o115 (nd o181 (lf o311) e) (nd o43 (lf o377) e)) (nd o147 (nd o213 (lf o345) e) (lf o43))) (nd o43 (nd o43 (nd o197 (lf o329) e) (lf o263)) (nd o165 (nd o44 (lf o361) e) (lf o295))))) (nd o45 (nd o58 (nd (o77 P) (nd o44 (nd o177 (lf o43) e) (nd o241 (lf o373) e)) (nd o143 (nd o209 (lf o341) e) (lf o43))) (nd o93 (nd o43 (nd o43 (lf o325) e) (lf o44)) (nd o161 (nd o225 (lf o43) e) (lf o291)))) (nd o43 (nd o43 (nd o119 (nd o43 (lf o44) e) (nd o43 (lf o43) e)) (nd (o151 P) (nd o43 (lf o349) e) (lf o283))) (nd o43 (nd o135 (nd o44 (lf o333) e) (lf o267)) (nd o43 (nd o233 (lf o44) e) (lf o299))))))) (nd (o49 P) (nd (boot_o_4 P) (nd (boot_o_8 P) (nd o44 (nd o69 (nd o43 (nd o172 (lf o302) e) (nd o44 (lf o368) e)) (nd o43 (nd o204 (lf o43) e) (lf o270))) (nd o88 (nd o122 (nd o188 (lf o318) e) (nd o43 (lf o384) e)) (nd o154 (nd o220 (lf o352) e) (lf o43)))) (nd (o61 P) (nd o80 (nd o114 (nd o44 (lf o43) e) (nd o246 (lf o376) e)) (nd o44 (nd o212 (lf o44) e) (lf o278))) (nd (o98 P) (nd o130 (nd o43 (lf o328) e) (lf o262)) (nd o164 (nd o43 (lf o43) e) (lf o44))))) (nd o322 (nd o57 (nd o60 (nd o43 (nd o176 (lf o306) e) (nd o240 (lf o44) e)) (nd o142 (nd o44 (lf o340) e) (lf o274))) (nd o92 (nd o126 (nd o192 (lf o44) e) (lf o43)) (nd o44 (nd o43 (lf o356) e) (lf o290)))) (nd o65 (nd o84 (nd o44 (nd o178 (lf o43) e) (nd o250 (lf o380) e)) (nd o150 (nd o216 (lf o348) e) (lf o43))) (nd o102 (nd o43 (nd o43 (lf o332) e) (lf o44)) (nd o168 (nd o232 (lf o43) e) (lf o298)))))) (nd (boot_o_6 P) (nd (boot_o_10 P) (nd o43 (nd o71 (nd o108 (nd o44 (lf o304) e) (nd o43 (lf o370) e)) (nd o140 (nd o206 (lf o338) e) (lf o43))) (nd (o90 P) (nd o43 (nd o190 (lf o320) e) (lf o256)) (nd o156 (nd o44 (lf o354) e) (lf o288)))) (nd o44 (nd o43 (nd o116 (nd o182 (lf o312) e) (nd o248 (lf o43) e)) (nd o148 (nd o43 (lf o43) e) (lf o44))) (nd o100 (nd o44 (nd o198 (lf o43) e) (lf o264)) (nd o43 (nd o230 (lf o362) e) (lf o43))))) (nd o46 (nd o59 (nd o43 (nd o112 (nd o178 (lf o44) e) (nd o43 (lf o43) e)) (nd o144 (nd o43 (lf o342) e) (lf o276))) (nd o43 (nd o128 (nd o44 (lf o43) e) (lf o260)) (nd o43 (nd o226 (lf o44) e) (lf o292)))) (nd (o67 P) (nd o86 (nd o43 (nd o44 (lf o316) e) (nd o44 (lf o382) e)) (nd o152 (nd o218 (lf o43) e) (lf o284))) (nd o44 (nd o136 (nd o202 (lf o334) e) (lf o43)) (nd o170 (nd o234 (lf o366) e) (lf o43))))))))
def t407 (P:Params):BT:=(nd (boot_o_0 P) (nd (boot_o_1 P) (nd (o385 P) (nd (boot_o_7 P) (nd o43 (nd o74 (nd o105 (nd o171 (lf o44) e) (nd o43 (lf o43) e)) (nd o137 (nd o43 (lf o335) e) (nd o269 (lf o401) e))) (nd o87 (nd o121 (nd o187 (lf o43) e) (nd o253 (lf o383) e)) (nd o153 (nd o219 (lf o44) e) (lf o285)))) (nd o60 (nd o79 (nd o43 (nd o43 (lf o309) e) (nd o44 (lf o375) e)) (nd o43 (nd o211 (lf o43) e) (lf o277))) (nd o60 (nd o129 (nd o195 (lf o327) e) (nd o43 (lf o393) e)) (nd o163 (nd o227 (lf o359) e) (lf o43))))) (nd o43 (nd o56 (nd o75 (nd o109 (nd o175 (lf o305) e) (nd o239 (lf o43) e)) (nd o43 (nd o43 (lf o43) e) (nd o44 (lf o405) e))) (nd o91 (nd o44 (nd o191 (lf o43) e) (nd o257 (lf (o389 P)) e)) (nd o43 (nd o223 (lf o355) e) (lf o43)))) (nd o64 (nd o44 (nd o43 (nd o183 (lf o313) e) (nd o249 (lf o44) e)) (nd o149 (nd o44 (lf o347) e) (lf o281))) (nd o101 (nd o133 (nd o199 (lf o44) e) (nd o43 (lf o43) e)) (nd o44 (nd o43 (lf o363) e) (lf o297)))))) (nd (boot_o_5 P) (nd (boot_o_9 P) (nd o54 (nd o70 (nd o107 (nd o43 (lf o43) e) (nd o237 (lf o369) e)) (nd o44 (nd o205 (lf o44) e) (nd o271 (lf o403) e))) (nd o89 (nd o123 (nd o189 (lf o319) e) (nd o255 (lf o43) e)) (nd o155 (nd o43 (lf o43) e) (lf o44)))) (nd o43 (nd o81 (nd o115 (nd o181 (lf o311) e) (nd o43 (lf o377) e)) (nd o147 (nd o213 (lf o345) e) (lf o43))) (nd o43 (nd o43 (nd o197 (lf o329) e) (nd o263 (lf o44) e)) (nd o165 (nd o44 (lf o361) e) (lf o295))))) (nd o45 (nd o58 (nd (o77 P) (nd o44 (nd o177 (lf o43) e) (nd o241 (lf o373) e)) (nd o143 (nd o209 (lf o341) e) (nd o43 (lf o407) e))) (nd o93 (nd o43 (nd o43 (lf o325) e) (nd o44 (lf o391) e)) (nd o161 (nd o225 (lf o43) e) (lf o291)))) (nd o43 (nd o43 (nd o119 (nd o43 (lf o44) e) (nd o43 (lf o43) e)) (nd (o151 P) (nd o43 (lf o349) e) (lf o283))) (nd o43 (nd o135 (nd o44 (lf o333) e) (nd o267 (lf o399) e)) (nd o43 (nd o233 (lf o44) e) (lf o299))))))) (nd (o49 P) (nd (boot_o_4 P) (nd (boot_o_8 P) (nd o44 (nd o69 (nd o43 (nd o172 (lf o302) e) (nd o44 (lf o368) e)) (nd o43 (nd o204 (lf o43) e) (nd o270 (lf (o402 P)) e))) (nd o88 (nd o122 (nd o188 (lf o318) e) (nd o43 (lf o384) e)) (nd o154 (nd o220 (lf o352) e) (lf o43)))) (nd (o61 P) (nd o80 (nd o114 (nd o44 (lf o43) e) (nd o246 (lf o376) e)) (nd o44 (nd o212 (lf o44) e) (lf o278))) (nd (o98 P) (nd o130 (nd o43 (lf o328) e) (nd o262 (lf o43) e)) (nd o164 (nd o43 (lf o43) e) (lf o44))))) (nd o386 (nd o57 (nd o60 (nd o43 (nd o176 (lf o306) e) (nd o240 (lf o44) e)) (nd o142 (nd o44 (lf o340) e) (nd o274 (lf o406) e))) (nd o92 (nd o126 (nd o192 (lf o44) e) (nd o43 (lf o43) e)) (nd o44 (nd o43 (lf o356) e) (lf o290)))) (nd o65 (nd o84 (nd o44 (nd o178 (lf o43) e) (nd o250 (lf o380) e)) (nd o150 (nd o216 (lf o348) e) (lf o43))) (nd o102 (nd o43 (nd o43 (lf o332) e) (nd o44 (lf o398) e)) (nd o168 (nd o232 (lf o43) e) (lf o298)))))) (nd (boot_o_6 P) (nd (boot_o_10 P) (nd o43 (nd o71 (nd o108 (nd o44 (lf o304) e) (nd o43 (lf o370) e)) (nd o140 (nd o206 (lf o338) e) (nd o43 (lf o404) e))) (nd (o90 P) (nd o43 (nd o190 (lf o320) e) (nd o256 (lf o60) e)) (nd o156 (nd o44 (lf o354) e) (lf o288)))) (nd o44 (nd o43 (nd o116 (nd o182 (lf o312) e) (nd o248 (lf o43) e)) (nd o148 (nd o43 (lf o43) e) (lf o44))) (nd o100 (nd o44 (nd o198 (lf o43) e) (nd o264 (lf o396) e)) (nd o43 (nd o230 (lf o362) e) (lf o43))))) (nd o46 (nd o59 (nd o43 (nd o112 (nd o178 (lf o44) e) (nd o43 (lf o43) e)) (nd o144 (nd o43 (lf o342) e) (lf o276))) (nd o43 (nd o128 (nd o44 (lf o43) e) (nd o260 (lf o392) e)) (nd o43 (nd o226 (lf o44) e) (lf o292)))) (nd (o67 P) (nd o86 (nd o43 (nd o44 (lf o316) e) (nd o44 (lf o382) e)) (nd o152 (nd o218 (lf o43) e) (lf o284))) (nd o44 (nd o136 (nd o202 (lf o334) e) (nd o43 (lf o400) e)) (nd o170 (nd o234 (lf o366) e) (lf o43))))))))
def t438 (P:Params):BT:=(nd (boot_o_0 P) (nd (boot_o_1 P) (nd (o408 P) (nd (boot_o_7 P) (nd o43 (nd o74 (nd o105 (nd o171 (lf o44) (lf o435)) (nd o43 (lf o43) e)) (nd o137 (nd o43 (lf o335) e) (nd o269 (lf o401) e))) (nd o87 (nd o121 (nd o187 (lf o43) e) (nd o253 (lf o383) e)) (nd o153 (nd o219 (lf o44) e) (nd o285 (lf o44) e)))) (nd o60 (nd o79 (nd o43 (nd o43 (lf o309) e) (nd o44 (lf o375) e)) (nd o43 (nd o211 (lf o43) e) (nd o277 (lf o60) e))) (nd o60 (nd o129 (nd o195 (lf o327) e) (nd o43 (lf o393) e)) (nd o163 (nd o227 (lf o359) e) (nd o43 (lf o427) e))))) (nd o43 (nd o56 (nd o75 (nd o109 (nd o175 (lf o305) e) (nd o239 (lf o43) e)) (nd o43 (nd o43 (lf o43) e) (nd o44 (lf o405) e))) (nd o91 (nd o44 (nd o191 (lf o43) e) (nd o257 (lf (o389 P)) e)) (nd o43 (nd o223 (lf o355) e) (nd o43 (lf o423) e)))) (nd o64 (nd o44 (nd o43 (nd o183 (lf o313) e) (nd o249 (lf o44) e)) (nd o149 (nd o44 (lf o347) e) (nd o281 (lf o415) e))) (nd o101 (nd o133 (nd o199 (lf o44) e) (nd o43 (lf o43) e)) (nd o44 (nd o43 (lf o363) e) (nd o297 (lf o431) e)))))) (nd (boot_o_5 P) (nd (boot_o_9 P) (nd o54 (nd o70 (nd o107 (nd o43 (lf o43) (lf o437)) (nd o237 (lf o369) e)) (nd o44 (nd o205 (lf o44) e) (nd o271 (lf o403) e))) (nd o89 (nd o123 (nd o189 (lf o319) e) (nd o255 (lf o43) e)) (nd o155 (nd o43 (lf o43) e) (nd o44 (lf o43) e)))) (nd o43 (nd o81 (nd o115 (nd o181 (lf o311) e) (nd o43 (lf o377) e)) (nd o147 (nd o213 (lf o345) e) (nd o43 (lf o43) e))) (nd o43 (nd o43 (nd o197 (lf o329) e) (nd o263 (lf o44) e)) (nd o165 (nd o44 (lf o361) e) (nd o295 (lf o429) e))))) (nd o45 (nd o58 (nd (o77 P) (nd o44 (nd o177 (lf o43) e) (nd o241 (lf o373) e)) (nd o143 (nd o209 (lf o341) e) (nd o43 (lf o407) e))) (nd o93 (nd o43 (nd o43 (lf o325) e) (nd o44 (lf o391) e)) (nd o161 (nd o225 (lf o43) e) (nd o291 (lf o43) e)))) (nd o43 (nd o43 (nd o119 (nd o43 (lf o44) e) (nd o43 (lf o43) e)) (nd (o151 P) (nd o43 (lf o349) e) (nd o283 (lf o178) e))) (nd o43 (nd o135 (nd o44 (lf o333) e) (nd o267 (lf o399) e)) (nd o43 (nd o233 (lf o44) e) (nd o299 (lf (o433 P)) e))))))) (nd (o49 P) (nd (boot_o_4 P) (nd (boot_o_8 P) (nd o44 (nd o69 (nd o43 (nd o172 (lf o302) (lf o436)) (nd o44 (lf o368) e)) (nd o43 (nd o204 (lf o43) e) (nd o270 (lf (o402 P)) e))) (nd o88 (nd o122 (nd o188 (lf o318) e) (nd o43 (lf o384) e)) (nd o154 (nd o220 (lf o352) e) (nd o43 (lf o420) e)))) (nd (o61 P) (nd o80 (nd o114 (nd o44 (lf o43) e) (nd o246 (lf o376) e)) (nd o44 (nd o212 (lf o44) e) (nd o278 (lf (o412 P)) e))) (nd (o98 P) (nd o130 (nd o43 (lf o328) e) (nd o262 (lf o43) e)) (nd o164 (nd o43 (lf o43) e) (nd o44 (lf o43) e))))) (nd o409 (nd o57 (nd o60 (nd o43 (nd o176 (lf o306) e) (nd o240 (lf o44) e)) (nd o142 (nd o44 (lf o340) e) (nd o274 (lf o406) e))) (nd o92 (nd o126 (nd o192 (lf o44) e) (nd o43 (lf o43) e)) (nd o44 (nd o43 (lf o356) e) (nd o290 (lf o424) e)))) (nd o65 (nd o84 (nd o44 (nd o178 (lf o43) e) (nd o250 (lf o380) e)) (nd o150 (nd o216 (lf o348) e) (nd o43 (lf o416) e))) (nd o102 (nd o43 (nd o43 (lf o332) e) (nd o44 (lf o398) e)) (nd o168 (nd o232 (lf o43) e) (nd o298 (lf o432) e)))))) (nd (boot_o_6 P) (nd (boot_o_10 P) (nd o43 (nd o71 (nd o108 (nd o44 (lf o304) (lf o438)) (nd o43 (lf o370) e)) (nd o140 (nd o206 (lf o338) e) (nd o43 (lf o404) e))) (nd (o90 P) (nd o43 (nd o190 (lf o320) e) (nd o256 (lf o60) e)) (nd o156 (nd o44 (lf o354) e) (nd o288 (lf o422) e)))) (nd o44 (nd o43 (nd o116 (nd o182 (lf o312) e) (nd o248 (lf o43) e)) (nd o148 (nd o43 (lf o43) e) (nd o44 (lf o414) e))) (nd o100 (nd o44 (nd o198 (lf o43) e) (nd o264 (lf o396) e)) (nd o43 (nd o230 (lf o362) e) (nd o43 (lf o430) e))))) (nd o46 (nd o59 (nd o43 (nd o112 (nd o178 (lf o44) e) (nd o43 (lf o43) e)) (nd o144 (nd o43 (lf o342) e) (nd o276 (lf o43) e))) (nd o43 (nd o128 (nd o44 (lf o43) e) (nd o260 (lf o392) e)) (nd o43 (nd o226 (lf o44) e) (nd o292 (lf o44) e)))) (nd (o67 P) (nd o86 (nd o43 (nd o44 (lf o316) e) (nd o44 (lf o382) e)) (nd o152 (nd o218 (lf o43) e) (nd o284 (lf o43) e))) (nd o44 (nd o136 (nd o202 (lf o334) e) (nd o43 (lf o400) e)) (nd o170 (nd o234 (lf o366) e) (nd o43 (lf o434) e))))))))
def t503 (P:Params):BT:=(nd (boot_o_0 P) (nd (boot_o_1 P) (nd (o439 P) (nd (boot_o_7 P) (nd o43 (nd o74 (nd o105 (nd o171 (lf o44) (lf o435)) (nd o43 (lf o43) (lf o501))) (nd o137 (nd o43 (lf o335) (lf o43)) (nd o269 (lf o401) e))) (nd o87 (nd o121 (nd o187 (lf o43) (lf o453)) (nd o253 (lf o383) e)) (nd o153 (nd o219 (lf o44) (lf o485)) (nd o285 (lf o44) e)))) (nd o60 (nd o79 (nd o43 (nd o43 (lf o309) (lf o445)) (nd o44 (lf o375) e)) (nd o43 (nd o211 (lf o43) (lf o44)) (nd o277 (lf o60) e))) (nd o60 (nd o129 (nd o195 (lf o327) (lf o461)) (nd o43 (lf o393) e)) (nd o163 (nd o227 (lf o359) (lf o43)) (nd o43 (lf o427) e))))) (nd o43 (nd o56 (nd o75 (nd o109 (nd o175 (lf o305) (lf o43)) (nd o239 (lf o43) e)) (nd o43 (nd o43 (lf o43) (lf o473)) (nd o44 (lf o405) e))) (nd o91 (nd o44 (nd o191 (lf o43) (lf o457)) (nd o257 (lf (o389 P)) e)) (nd o43 (nd o223 (lf o355) (lf o489)) (nd o43 (lf o423) e)))) (nd o64 (nd o44 (nd o43 (nd o183 (lf o313) (lf o44)) (nd o249 (lf o44) e)) (nd o149 (nd o44 (lf o347) (lf o481)) (nd o281 (lf o415) e))) (nd o101 (nd o133 (nd o199 (lf o44) (lf o43)) (nd o43 (lf o43) e)) (nd o44 (nd o43 (lf o363) (lf o43)) (nd o297 (lf o431) e)))))) (nd (boot_o_5 P) (nd (boot_o_9 P) (nd o54 (nd o70 (nd o107 (nd o43 (lf o43) (lf o437)) (nd o237 (lf o369) (lf o503))) (nd o44 (nd o205 (lf o44) (lf o471)) (nd o271 (lf o403) e))) (nd o89 (nd o123 (nd o189 (lf o319) (lf o455)) (nd o255 (lf o43) e)) (nd o155 (nd o43 (lf o43) (lf o487)) (nd o44 (lf o43) e)))) (nd o43 (nd o81 (nd o115 (nd o181 (lf o311) (lf o447)) (nd o43 (lf o377) e)) (nd o147 (nd o213 (lf o345) (lf o43)) (nd o43 (lf o43) e))) (nd o43 (nd o43 (nd o197 (lf o329) (lf o44)) (nd o263 (lf o44) e)) (nd o165 (nd o44 (lf o361) (lf o495)) (nd o295 (lf o429) e))))) (nd o45 (nd o58 (nd (o77 P) (nd o44 (nd o177 (lf o43) (lf (o443 P))) (nd o241 (lf o373) e)) (nd o143 (nd o209 (lf o341) (lf o475)) (nd o43 (lf o407) e))) (nd o93 (nd o43 (nd o43 (lf o325) (lf o459)) (nd o44 (lf o391) e)) (nd o161 (nd o225 (lf o43) (lf o44)) (nd o291 (lf o43) e)))) (nd o43 (nd o43 (nd o119 (nd o43 (lf o44) (lf o43)) (nd o43 (lf o43) e)) (nd (o151 P) (nd o43 (lf o349) (lf o43)) (nd o283 (lf o178) e))) (nd o43 (nd o135 (nd o44 (lf o333) (lf o467)) (nd o267 (lf o399) e)) (nd o43 (nd o233 (lf o44) (lf o499)) (nd o299 (lf (o433 P)) e))))))) (nd (o49 P) (nd (boot_o_4 P) (nd (boot_o_8 P) (nd o44 (nd o69 (nd o43 (nd o172 (lf o302) (lf o436)) (nd o44 (lf o368) (lf o502))) (nd o43 (nd o204 (lf o43) (lf o44)) (nd o270 (lf (o402 P)) e))) (nd o88 (nd o122 (nd o188 (lf o318) (lf o454)) (nd o43 (lf o384) e)) (nd o154 (nd o220 (lf o352) (lf o43)) (nd o43 (lf o420) e)))) (nd (o61 P) (nd o80 (nd o114 (nd o44 (lf o43) (lf o446)) (nd o246 (lf o376) e)) (nd o44 (nd o212 (lf o44) (lf o478)) (nd o278 (lf (o412 P)) e))) (nd (o98 P) (nd o130 (nd o43 (lf o328) (lf o43)) (nd o262 (lf o43) e)) (nd o164 (nd o43 (lf o43) (lf o494)) (nd o44 (lf o43) e))))) (nd o440 (nd o57 (nd o60 (nd o43 (nd o176 (lf o306) (lf o60)) (nd o240 (lf o44) e)) (nd o142 (nd o44 (lf o340) (lf o474)) (nd o274 (lf o406) e))) (nd o92 (nd o126 (nd o192 (lf o44) (lf o458)) (nd o43 (lf o43) e)) (nd o44 (nd o43 (lf o356) (lf o43)) (nd o290 (lf o424) e)))) (nd o65 (nd o84 (nd o44 (nd o178 (lf o43) (lf o450)) (nd o250 (lf o380) e)) (nd o150 (nd o216 (lf o348) (lf o482)) (nd o43 (lf o416) e))) (nd o102 (nd o43 (nd o43 (lf o332) (lf o466)) (nd o44 (lf o398) e)) (nd o168 (nd o232 (lf o43) (lf o44)) (nd o298 (lf o432) e)))))) (nd (boot_o_6 P) (nd (boot_o_10 P) (nd o43 (nd o71 (nd o108 (nd o44 (lf o304) (lf o438)) (nd o43 (lf o370) e)) (nd o140 (nd o206 (lf o338) (lf o43)) (nd o43 (lf o404) e))) (nd (o90 P) (nd o43 (nd o190 (lf o320) (lf (o456 P))) (nd o256 (lf o60) e)) (nd o156 (nd o44 (lf o354) (lf o488)) (nd o288 (lf o422) e)))) (nd o44 (nd o43 (nd o116 (nd o182 (lf o312) (lf o43)) (nd o248 (lf o43) e)) (nd o148 (nd o43 (lf o43) (lf o480)) (nd o44 (lf o414) e))) (nd o100 (nd o44 (nd o198 (lf o43) (lf o43)) (nd o264 (lf o396) e)) (nd o43 (nd o230 (lf o362) (lf o496)) (nd o43 (lf o430) e))))) (nd o46 (nd o59 (nd o43 (nd o112 (nd o178 (lf o44) (lf o43)) (nd o43 (lf o43) e)) (nd o144 (nd o43 (lf o342) (lf o43)) (nd o276 (lf o43) e))) (nd o43 (nd o128 (nd o44 (lf o43) (lf o460)) (nd o260 (lf o392) e)) (nd o43 (nd o226 (lf o44) (lf o492)) (nd o292 (lf o44) e)))) (nd (o67 P) (nd o86 (nd o43 (nd o44 (lf o316) (lf o452)) (nd o44 (lf o382) e)) (nd o152 (nd o218 (lf o43) (lf o44)) (nd o284 (lf o43) e))) (nd o44 (nd o136 (nd o202 (lf o334) (lf o468)) (nd o43 (lf o400) e)) (nd o170 (nd o234 (lf o366) (lf o43)) (nd o43 (lf o434) e))))))))
def t588 (P:Params):BT:=(nd (boot_o_0 P) (nd (boot_o_1 P) (nd (o504 P) (nd (boot_o_7 P) (nd o43 (nd o74 (nd o105 (nd o171 (nd o44 (lf o43) e) (lf o435)) (nd o43 (lf o43) (lf o501))) (nd o137 (nd o43 (lf o335) (lf o43)) (nd o269 (lf o401) (lf o44)))) (nd o87 (nd o121 (nd o187 (nd o43 (lf o583) e) (lf o453)) (nd o253 (lf o383) (lf o519))) (nd o153 (nd o219 (lf o44) (lf o485)) (nd o285 (lf o44) (lf o43))))) (nd o60 (nd o79 (nd o43 (nd o43 (nd o309 (lf o575) e) (lf o445)) (nd o44 (lf o375) (lf o511))) (nd o43 (nd o211 (lf o43) (lf o44)) (nd o277 (lf o60) (lf o543)))) (nd o60 (nd o129 (nd o195 (lf o327) (lf o461)) (nd o43 (lf o393) (lf o43))) (nd o163 (nd o227 (lf o359) (lf o43)) (nd o43 (lf o427) (lf o559)))))) (nd o43 (nd o56 (nd o75 (nd o109 (nd o175 (nd o305 (lf o571) e) (lf o43)) (nd o239 (lf o43) (lf o44))) (nd o43 (nd o43 (lf o43) (lf o473)) (nd o44 (lf o405) (lf o539)))) (nd o91 (nd o44 (nd o191 (nd o43 (lf o587) e) (lf o457)) (nd o257 (lf (o389 P)) (lf o43))) (nd o43 (nd o223 (lf o355) (lf o489)) (nd o43 (lf o423) (lf o43))))) (nd o64 (nd o44 (nd o43 (nd o183 (nd o313 (lf o579) e) (lf o44)) (nd o249 (lf o44) (lf o515))) (nd o149 (nd o44 (lf o347) (lf o481)) (nd o281 (lf o415) (lf o547)))) (nd o101 (nd o133 (nd o199 (lf o44) (lf o43)) (nd o43 (lf o43) (lf o531))) (nd o44 (nd o43 (lf o363) (lf o43)) (nd o297 (lf o431) (lf o44))))))) (nd (boot_o_5 P) (nd (boot_o_9 P) (nd o54 (nd o70 (nd o107 (nd o43 (nd o43 (lf o569) e) (lf o437)) (nd o237 (lf o369) (lf o503))) (nd o44 (nd o205 (lf o44) (lf o471)) (nd o271 (lf o403) (lf o43)))) (nd o89 (nd o123 (nd o189 (nd o319 (lf o44) e) (lf o455)) (nd o255 (lf o43) (lf o44))) (nd o155 (nd o43 (lf o43) (lf o487)) (nd o44 (lf o43) (lf o553))))) (nd o43 (nd o81 (nd o115 (nd o181 (nd o311 (lf o43) e) (lf o447)) (nd o43 (lf o377) (lf o43))) (nd o147 (nd o213 (lf o345) (lf o43)) (nd o43 (lf o43) (lf o545)))) (nd o43 (nd o43 (nd o197 (lf o329) (lf o44)) (nd o263 (lf o44) (lf o529))) (nd o165 (nd o44 (lf o361) (lf o495)) (nd o295 (lf o429) (lf o561)))))) (nd o45 (nd o58 (nd (o77 P) (nd o44 (nd o177 (nd o43 (lf o44) e) (lf (o443 P))) (nd o241 (lf o373) (lf o43))) (nd o143 (nd o209 (lf o341) (lf o475)) (nd o43 (lf o407) (lf o43)))) (nd o93 (nd o43 (nd o43 (lf o325) (lf o459)) (nd o44 (lf o391) (lf o525))) (nd o161 (nd o225 (lf o43) (lf o44)) (nd o291 (lf o43) (lf o557))))) (nd o43 (nd o43 (nd o119 (nd o43 (nd o44 (lf o581) e) (lf o43)) (nd o43 (lf o43) (lf o517))) (nd (o151 P) (nd o43 (lf o349) (lf o43)) (nd o283 (lf o178) (lf o44)))) (nd o43 (nd o135 (nd o44 (lf o333) (lf o467)) (nd o267 (lf o399) (lf o533))) (nd o43 (nd o233 (lf o44) (lf o499)) (nd o299 (lf (o433 P)) (lf o565)))))))) (nd (o49 P) (nd (boot_o_4 P) (nd (boot_o_8 P) (nd o44 (nd o69 (nd o43 (nd o172 (nd o302 (lf o44) e) (lf o436)) (nd o44 (lf o368) (lf o502))) (nd o43 (nd o204 (lf o43) (lf o44)) (nd o270 (lf (o402 P)) (lf o536)))) (nd o88 (nd o122 (nd o188 (nd o318 (lf o43) e) (lf o454)) (nd o43 (lf o384) (lf o43))) (nd o154 (nd o220 (lf o352) (lf o43)) (nd o43 (lf o420) (lf o552))))) (nd (o61 P) (nd o80 (nd o114 (nd o44 (nd o43 (lf o576) e) (lf o446)) (nd o246 (lf o376) (lf o512))) (nd o44 (nd o212 (lf o44) (lf o478)) (nd o278 (lf (o412 P)) (lf o43)))) (nd (o98 P) (nd o130 (nd o43 (lf o328) (lf o43)) (nd o262 (lf o43) (lf o44))) (nd o164 (nd o43 (lf o43) (lf o494)) (nd o44 (lf o43) (lf o560)))))) (nd o505 (nd o57 (nd o60 (nd o43 (nd o176 (nd o306 (lf o43) e) (lf o60)) (nd o240 (lf o44) (lf o508))) (nd o142 (nd o44 (lf o340) (lf o474)) (nd o274 (lf o406) (lf o540)))) (nd o92 (nd o126 (nd o192 (nd o44 (lf o588) e) (lf o458)) (nd o43 (lf o43) (lf o524))) (nd o44 (nd o43 (lf o356) (lf o43)) (nd o290 (lf o424) (lf o44))))) (nd o65 (nd o84 (nd o44 (nd o178 (nd o43 (lf o43) e) (lf o450)) (nd o250 (lf o380) (lf o43))) (nd o150 (nd o216 (lf o348) (lf o482)) (nd o43 (lf o416) (lf o43)))) (nd o102 (nd o43 (nd o43 (lf o332) (lf o466)) (nd o44 (lf o398) (lf o532))) (nd o168 (nd o232 (lf o43) (lf o44)) (nd o298 (lf o432) (lf o564))))))) (nd (boot_o_6 P) (nd (boot_o_10 P) (nd o43 (nd o71 (nd o108 (nd o44 (nd o304 (lf o570) e) (lf o438)) (nd o43 (lf o370) (lf o43))) (nd o140 (nd o206 (lf o338) (lf o43)) (nd o43 (lf o404) (lf o538)))) (nd (o90 P) (nd o43 (nd o190 (nd o320 (lf o586) e) (lf (o456 P))) (nd o256 (lf o60) (lf o522))) (nd o156 (nd o44 (lf o354) (lf o488)) (nd o288 (lf o422) (lf o554))))) (nd o44 (nd o43 (nd o116 (nd o182 (nd o312 (lf o44) e) (lf o43)) (nd o248 (lf o43) (lf o44))) (nd o148 (nd o43 (lf o43) (lf o480)) (nd o44 (lf o414) (lf o546)))) (nd o100 (nd o44 (nd o198 (lf o43) (lf o43)) (nd o264 (lf o396) (lf o43))) (nd o43 (nd o230 (lf o362) (lf o496)) (nd o43 (lf o430) (lf o43)))))) (nd o46 (nd o59 (nd o43 (nd o112 (nd o178 (nd o44 (lf o574) e) (lf o43)) (nd o43 (lf o43) (lf o510))) (nd o144 (nd o43 (lf o342) (lf o43)) (nd o276 (lf o43) (lf o44)))) (nd o43 (nd o128 (nd o44 (lf o43) (lf o460)) (nd o260 (lf o392) (lf o526))) (nd o43 (nd o226 (lf o44) (lf o492)) (nd o292 (lf o44) (lf o43))))) (nd (o67 P) (nd o86 (nd o43 (nd o44 (nd o316 (lf o582) e) (lf o452)) (nd o44 (lf o382) (lf o518))) (nd o152 (nd o218 (lf o43) (lf o44)) (nd o284 (lf o43) (lf o550)))) (nd o44 (nd o136 (nd o202 (lf o334) (lf o468)) (nd o43 (lf o400) (lf o43))) (nd o170 (nd o234 (lf o366) (lf o43)) (nd o43 (lf o434) (lf o566)))))))))
def t674 (P:Params):BT:=(nd (boot_o_0 P) (nd (boot_o_1 P) (nd (o589 P) (nd (boot_o_7 P) (nd o43 (nd o74 (nd o105 (nd o171 (nd o44 (lf o43) e) (lf o435)) (nd o43 (nd o43 (lf o43) e) (lf o501))) (nd o137 (nd o43 (nd o335 (lf o43) e) (lf o43)) (nd o269 (nd o401 (lf o665) e) (lf o44)))) (nd o87 (nd o121 (nd o187 (nd o43 (lf o583) e) (lf o453)) (nd o253 (nd o383 (lf o649) e) (lf o519))) (nd o153 (nd o219 (nd o44 (lf o617) e) (lf o485)) (nd o285 (lf o44) (lf o43))))) (nd o60 (nd o79 (nd o43 (nd o43 (nd o309 (lf o575) e) (lf o445)) (nd o44 (nd o375 (lf o44) e) (lf o511))) (nd o43 (nd o211 (nd o43 (lf o609) e) (lf o44)) (nd o277 (nd o60 (lf o673) e) (lf o543)))) (nd o60 (nd o129 (nd o195 (nd o327 (lf o593) e) (lf o461)) (nd o43 (nd o393 (lf o43) e) (lf o43))) (nd o163 (nd o227 (nd o359 (lf o625) e) (lf o43)) (nd o43 (lf o427) (lf o559)))))) (nd o43 (nd o56 (nd o75 (nd o109 (nd o175 (nd o305 (lf o571) e) (lf o43)) (nd o239 (nd o43 (lf o637) e) (lf o44))) (nd o43 (nd o43 (nd o43 (lf o43) e) (lf o473)) (nd o44 (nd o405 (lf o44) e) (lf o539)))) (nd o91 (nd o44 (nd o191 (nd o43 (lf o587) e) (lf o457)) (nd o257 (nd (o389 P) (lf o653) e) (lf o43))) (nd o43 (nd o223 (nd o355 (lf o621) e) (lf o489)) (nd o43 (lf o423) (lf o43))))) (nd o64 (nd o44 (nd o43 (nd o183 (nd o313 (lf o579) e) (lf o44)) (nd o249 (nd o44 (lf o645) e) (lf o515))) (nd o149 (nd o44 (nd o347 (lf o44) e) (lf o481)) (nd o281 (lf o415) (lf o547)))) (nd o101 (nd o133 (nd o199 (nd o44 (lf o597) e) (lf o43)) (nd o43 (nd o43 (lf o43) e) (lf o531))) (nd o44 (nd o43 (nd o363 (lf o43) e) (lf o43)) (nd o297 (lf o431) (lf o44))))))) (nd (boot_o_5 P) (nd (boot_o_9 P) (nd o54 (nd o70 (nd o107 (nd o43 (nd o43 (lf o569) e) (lf o437)) (nd o237 (nd o369 (lf o635) e) (lf o503))) (nd o44 (nd o205 (nd o44 (lf o603) e) (lf o471)) (nd o271 (nd o403 (lf o667) e) (lf o43)))) (nd o89 (nd o123 (nd o189 (nd o319 (lf o44) e) (lf o455)) (nd o255 (nd o43 (lf o651) e) (lf o44))) (nd o155 (nd o43 (nd o43 (lf o43) e) (lf o487)) (nd o44 (lf o43) (lf o553))))) (nd o43 (nd o81 (nd o115 (nd o181 (nd o311 (lf o43) e) (lf o447)) (nd o43 (nd o377 (lf o43) e) (lf o43))) (nd o147 (nd o213 (nd o345 (lf o611) e) (lf o43)) (nd o43 (lf o43) (lf o545)))) (nd o43 (nd o43 (nd o197 (nd o329 (lf o595) e) (lf o44)) (nd o263 (nd o44 (lf o659) e) (lf o529))) (nd o165 (nd o44 (nd o361 (lf o44) e) (lf o495)) (nd o295 (lf o429) (lf o561)))))) (nd o45 (nd o58 (nd (o77 P) (nd o44 (nd o177 (nd o43 (lf o44) e) (lf (o443 P))) (nd o241 (nd o373 (lf o639) e) (lf o43))) (nd o143 (nd o209 (nd o341 (lf o607) e) (lf o475)) (nd o43 (nd o407 (lf o43) e) (lf o43)))) (nd o93 (nd o43 (nd o43 (nd o325 (lf o43) e) (lf o459)) (nd o44 (nd o391 (lf o44) e) (lf o525))) (nd o161 (nd o225 (nd o43 (lf o623) e) (lf o44)) (nd o291 (lf o43) (lf o557))))) (nd o43 (nd o43 (nd o119 (nd o43 (nd o44 (lf o581) e) (lf o43)) (nd o43 (nd o43 (lf o43) e) (lf o517))) (nd (o151 P) (nd o43 (nd o349 (lf o43) e) (lf o43)) (nd o283 (lf o178) (lf o44)))) (nd o43 (nd o135 (nd o44 (nd o333 (lf o44) e) (lf o467)) (nd o267 (nd o399 (lf o663) e) (lf o533))) (nd o43 (nd o233 (nd o44 (lf o631) e) (lf o499)) (nd o299 (lf (o433 P)) (lf o565)))))))) (nd (o49 P) (nd (boot_o_4 P) (nd (boot_o_8 P) (nd o44 (nd o69 (nd o43 (nd o172 (nd o302 (lf o44) e) (lf o436)) (nd o44 (nd o368 (lf o44) e) (lf o502))) (nd o43 (nd o204 (nd o43 (lf o602) e) (lf o44)) (nd o270 (nd (o402 P) (lf o666) e) (lf o536)))) (nd o88 (nd o122 (nd o188 (nd o318 (lf o43) e) (lf o454)) (nd o43 (nd o384 (lf o43) e) (lf o43))) (nd o154 (nd o220 (nd o352 (lf o618) e) (lf o43)) (nd o43 (lf o420) (lf o552))))) (nd (o61 P) (nd o80 (nd o114 (nd o44 (nd o43 (lf o576) e) (lf o446)) (nd o246 (nd o376 (lf o642) e) (lf o512))) (nd o44 (nd o212 (nd o44 (lf o610) e) (lf o478)) (nd o278 (nd (o412 P) (lf o674) e) (lf o43)))) (nd (o98 P) (nd o130 (nd o43 (nd o328 (lf o43) e) (lf o43)) (nd o262 (nd o43 (lf o658) e) (lf o44))) (nd o164 (nd o43 (nd o43 (lf o43) e) (lf o494)) (nd o44 (lf o43) (lf o560)))))) (nd o590 (nd o57 (nd o60 (nd o43 (nd o176 (nd o306 (lf o43) e) (lf o60)) (nd o240 (nd o44 (lf o638) e) (lf o508))) (nd o142 (nd o44 (nd o340 (lf o44) e) (lf o474)) (nd o274 (nd o406 (lf o670) e) (lf o540)))) (nd o92 (nd o126 (nd o192 (nd o44 (lf o588) e) (lf o458)) (nd o43 (nd o43 (lf o43) e) (lf o524))) (nd o44 (nd o43 (nd o356 (lf o43) e) (lf o43)) (nd o290 (lf o424) (lf o44))))) (nd o65 (nd o84 (nd o44 (nd o178 (nd o43 (lf o43) e) (lf o450)) (nd o250 (nd o380 (lf o646) e) (lf o43))) (nd o150 (nd o216 (nd o348 (lf o614) e) (lf o482)) (nd o43 (lf o416) (lf o43)))) (nd o102 (nd o43 (nd o43 (nd o332 (lf o43) e) (lf o466)) (nd o44 (nd o398 (lf o44) e) (lf o532))) (nd o168 (nd o232 (nd o43 (lf o630) e) (lf o44)) (nd o298 (lf o432) (lf o564))))))) (nd (boot_o_6 P) (nd (boot_o_10 P) (nd o43 (nd o71 (nd o108 (nd o44 (nd o304 (lf o570) e) (lf o438)) (nd o43 (nd o370 (lf o43) e) (lf o43))) (nd o140 (nd o206 (nd o338 (lf o604) e) (lf o43)) (nd o43 (nd o404 (lf o43) e) (lf o538)))) (nd (o90 P) (nd o43 (nd o190 (nd o320 (lf o586) e) (lf (o456 P))) (nd o256 (nd o60 (lf o652) e) (lf o522))) (nd o156 (nd o44 (nd o354 (lf o44) e) (lf o488)) (nd o288 (lf o422) (lf o554))))) (nd o44 (nd o43 (nd o116 (nd o182 (nd o312 (lf o44) e) (lf o43)) (nd o248 (nd o43 (lf o644) e) (lf o44))) (nd o148 (nd o43 (nd o43 (lf o43) e) (lf o480)) (nd o44 (lf o414) (lf o546)))) (nd o100 (nd o44 (nd o198 (nd o43 (lf o596) e) (lf o43)) (nd o264 (nd o396 (lf o660) e) (lf o43))) (nd o43 (nd o230 (nd o362 (lf o628) e) (lf o496)) (nd o43 (lf o430) (lf o43)))))) (nd o46 (nd o59 (nd o43 (nd o112 (nd o178 (nd o44 (lf o574) e) (lf o43)) (nd o43 (nd o43 (lf o43) e) (lf o510))) (nd o144 (nd o43 (nd o342 (lf o43) e) (lf o43)) (nd o276 (nd o43 (lf o672) e) (lf o44)))) (nd o43 (nd o128 (nd o44 (nd o43 (lf o44) e) (lf o460)) (nd o260 (nd o392 (lf o656) e) (lf o526))) (nd o43 (nd o226 (nd o44 (lf o624) e) (lf o492)) (nd o292 (lf o44) (lf o43))))) (nd (o67 P) (nd o86 (nd o43 (nd o44 (nd o316 (lf o582) e) (lf o452)) (nd o44 (nd o382 (lf o44) e) (lf o518))) (nd o152 (nd o218 (nd o43 (lf o616) e) (lf o44)) (nd o284 (lf o43) (lf o550)))) (nd o44 (nd o136 (nd o202 (nd o334 (lf o600) e) (lf o468)) (nd o43 (nd o400 (lf o43) e) (lf o43))) (nd o170 (nd o234 (nd o366 (lf o632) e) (lf o43)) (nd o43 (lf o434) (lf o566)))))))))
def t754 (P:Params):BT:=(nd (boot_o_0 P) (nd (boot_o_1 P) (nd (o675 P) (nd (boot_o_7 P) (nd o43 (nd o74 (nd o105 (nd o171 (nd o44 (lf o43) e) (nd o435 (lf o44) e)) (nd o43 (nd o43 (lf o43) e) (lf o501))) (nd o137 (nd o43 (nd o335 (lf o43) e) (nd o43 (lf o731) e)) (nd o269 (nd o401 (lf o665) e) (lf o44)))) (nd o87 (nd o121 (nd o187 (nd o43 (lf o583) e) (nd o453 (lf o43) e)) (nd o253 (nd o383 (lf o649) e) (lf o519))) (nd o153 (nd o219 (nd o44 (lf o617) e) (nd o485 (lf o747) e)) (nd o285 (nd o44 (lf o683) e) (lf o43))))) (nd o60 (nd o79 (nd o43 (nd o43 (nd o309 (lf o575) e) (nd o445 (lf o707) e)) (nd o44 (nd o375 (lf o44) e) (lf o511))) (nd o43 (nd o211 (nd o43 (lf o609) e) (nd o44 (lf o739) e)) (nd o277 (nd o60 (lf o673) e) (lf o543)))) (nd o60 (nd o129 (nd o195 (nd o327 (lf o593) e) (nd o461 (lf o44) e)) (nd o43 (nd o393 (lf o43) e) (lf o43))) (nd o163 (nd o227 (nd o359 (lf o625) e) (lf o43)) (nd o43 (nd o427 (lf o43) e) (lf o559)))))) (nd o43 (nd o56 (nd o75 (nd o109 (nd o175 (nd o305 (lf o571) e) (nd o43 (lf o43) e)) (nd o239 (nd o43 (lf o637) e) (lf o44))) (nd o43 (nd o43 (nd o43 (lf o43) e) (nd o473 (lf o44) e)) (nd o44 (nd o405 (lf o44) e) (lf o539)))) (nd o91 (nd o44 (nd o191 (nd o43 (lf o587) e) (nd o457 (lf o719) e)) (nd o257 (nd (o389 P) (lf o653) e) (lf o43))) (nd o43 (nd o223 (nd o355 (lf o621) e) (nd o489 (lf o43) e)) (nd o43 (nd o423 (lf o43) e) (lf o43))))) (nd o64 (nd o44 (nd o43 (nd o183 (nd o313 (lf o579) e) (nd o44 (lf o44) e)) (nd o249 (nd o44 (lf o645) e) (lf o515))) (nd o149 (nd o44 (nd o347 (lf o44) e) (nd o481 (lf o743) e)) (nd o281 (nd o415 (lf o679) e) (lf o547)))) (nd o101 (nd o133 (nd o199 (nd o44 (lf o597) e) (nd o43 (lf o43) e)) (nd o43 (nd o43 (lf o43) e) (lf o531))) (nd o44 (nd o43 (nd o363 (lf o43) e) (lf o43)) (nd o297 (nd o431 (lf o695) e) (lf o44))))))) (nd (boot_o_5 P) (nd (boot_o_9 P) (nd o54 (nd o70 (nd o107 (nd o43 (nd o43 (lf o569) e) (nd o437 (lf o701) e)) (nd o237 (nd o369 (lf o635) e) (lf o503))) (nd o44 (nd o205 (nd o44 (lf o603) e) (nd o471 (lf o733) e)) (nd o271 (nd o403 (lf o667) e) (lf o43)))) (nd o89 (nd o123 (nd o189 (nd o319 (lf o44) e) (nd o455 (lf o717) e)) (nd o255 (nd o43 (lf o651) e) (lf o44))) (nd o155 (nd o43 (nd o43 (lf o43) e) (nd o487 (lf o44) e)) (nd o44 (nd o43 (lf o44) e) (lf o553))))) (nd o43 (nd o81 (nd o115 (nd o181 (nd o311 (lf o43) e) (nd o447 (lf o709) e)) (nd o43 (nd o377 (lf o43) e) (lf o43))) (nd o147 (nd o213 (nd o345 (lf o611) e) (nd o43 (lf o43) e)) (nd o43 (nd o43 (lf o43) e) (lf o545)))) (nd o43 (nd o43 (nd o197 (nd o329 (lf o595) e) (nd o44 (lf o725) e)) (nd o263 (nd o44 (lf o659) e) (lf o529))) (nd o165 (nd o44 (nd o361 (lf o44) e) (lf o495)) (nd o295 (nd o429 (lf o693) e) (lf o561)))))) (nd o45 (nd o58 (nd (o77 P) (nd o44 (nd o177 (nd o43 (lf o44) e) (nd (o443 P) (lf o705) e)) (nd o241 (nd o373 (lf o639) e) (lf o43))) (nd o143 (nd o209 (nd o341 (lf o607) e) (nd o475 (lf o43) e)) (nd o43 (nd o407 (lf o43) e) (lf o43)))) (nd o93 (nd o43 (nd o43 (nd o325 (lf o43) e) (nd o459 (lf o721) e)) (nd o44 (nd o391 (lf o44) e) (lf o525))) (nd o161 (nd o225 (nd o43 (lf o623) e) (nd o44 (lf o753) e)) (nd o291 (nd o43 (lf o689) e) (lf o557))))) (nd o43 (nd o43 (nd o119 (nd o43 (nd o44 (lf o581) e) (nd o43 (lf o713) e)) (nd o43 (nd o43 (lf o43) e) (lf o517))) (nd (o151 P) (nd o43 (nd o349 (lf o43) e) (nd o43 (lf o745) e)) (nd o283 (nd o178 (lf o681) e) (lf o44)))) (nd o43 (nd o135 (nd o44 (nd o333 (lf o44) e) (nd o467 (lf o729) e)) (nd o267 (nd o399 (lf o663) e) (lf o533))) (nd o43 (nd o233 (nd o44 (lf o631) e) (lf o499)) (nd o299 (nd (o433 P) (lf o697) e) (lf o565)))))))) (nd (o49 P) (nd (boot_o_4 P) (nd (boot_o_8 P) (nd o44 (nd o69 (nd o43 (nd o172 (nd o302 (lf o44) e) (nd o436 (lf o700) e)) (nd o44 (nd o368 (lf o44) e) (lf o502))) (nd o43 (nd o204 (nd o43 (lf o602) e) (nd o44 (lf o732) e)) (nd o270 (nd (o402 P) (lf o666) e) (lf o536)))) (nd o88 (nd o122 (nd o188 (nd o318 (lf o43) e) (nd o454 (lf o44) e)) (nd o43 (nd o384 (lf o43) e) (lf o43))) (nd o154 (nd o220 (nd o352 (lf o618) e) (nd o43 (lf o43) e)) (nd o43 (nd o420 (lf o43) e) (lf o552))))) (nd (o61 P) (nd o80 (nd o114 (nd o44 (nd o43 (lf o576) e) (nd o446 (lf o708) e)) (nd o246 (nd o376 (lf o642) e) (lf o512))) (nd o44 (nd o212 (nd o44 (lf o610) e) (nd o478 (lf o740) e)) (nd o278 (nd (o412 P) (lf o674) e) (lf o43)))) (nd (o98 P) (nd o130 (nd o43 (nd o328 (lf o43) e) (nd o43 (lf o724) e)) (nd o262 (nd o43 (lf o658) e) (lf o44))) (nd o164 (nd o43 (nd o43 (lf o43) e) (lf o494)) (nd o44 (nd o43 (lf o44) e) (lf o560)))))) (nd o676 (nd o57 (nd o60 (nd o43 (nd o176 (nd o306 (lf o43) e) (nd o60 (lf o44) e)) (nd o240 (nd o44 (lf o638) e) (lf o508))) (nd o142 (nd o44 (nd o340 (lf o44) e) (nd o474 (lf o736) e)) (nd o274 (nd o406 (lf o670) e) (lf o540)))) (nd o92 (nd o126 (nd o192 (nd o44 (lf o588) e) (nd o458 (lf o720) e)) (nd o43 (nd o43 (lf o43) e) (lf o524))) (nd o44 (nd o43 (nd o356 (lf o43) e) (nd o43 (lf o752) e)) (nd o290 (nd o424 (lf o688) e) (lf o44))))) (nd o65 (nd o84 (nd o44 (nd o178 (nd o43 (lf o43) e) (nd o450 (lf o712) e)) (nd o250 (nd o380 (lf o646) e) (lf o43))) (nd o150 (nd o216 (nd o348 (lf o614) e) (nd o482 (lf o43) e)) (nd o43 (nd o416 (lf o43) e) (lf o43)))) (nd o102 (nd o43 (nd o43 (nd o332 (lf o43) e) (nd o466 (lf o44) e)) (nd o44 (nd o398 (lf o44) e) (lf o532))) (nd o168 (nd o232 (nd o43 (lf o630) e) (lf o44)) (nd o298 (nd o432 (lf o696) e) (lf o564))))))) (nd (boot_o_6 P) (nd (boot_o_10 P) (nd o43 (nd o71 (nd o108 (nd o44 (nd o304 (lf o570) e) (nd o438 (lf o702) e)) (nd o43 (nd o370 (lf o43) e) (lf o43))) (nd o140 (nd o206 (nd o338 (lf o604) e) (nd o43 (lf o43) e)) (nd o43 (nd o404 (lf o43) e) (lf o538)))) (nd (o90 P) (nd o43 (nd o190 (nd o320 (lf o586) e) (nd (o456 P) (lf o43) e)) (nd o256 (nd o60 (lf o652) e) (lf o522))) (nd o156 (nd o44 (nd o354 (lf o44) e) (nd o488 (lf o750) e)) (nd o288 (nd o422 (lf o686) e) (lf o554))))) (nd o44 (nd o43 (nd o116 (nd o182 (nd o312 (lf o44) e) (nd o43 (lf o43) e)) (nd o248 (nd o43 (lf o644) e) (lf o44))) (nd o148 (nd o43 (nd o43 (lf o43) e) (nd o480 (lf o44) e)) (nd o44 (nd o414 (lf o44) e) (lf o546)))) (nd o100 (nd o44 (nd o198 (nd o43 (lf o596) e) (nd o43 (lf o726) e)) (nd o264 (nd o396 (lf o660) e) (lf o43))) (nd o43 (nd o230 (nd o362 (lf o628) e) (lf o496)) (nd o43 (nd o430 (lf o43) e) (lf o43)))))) (nd o46 (nd o59 (nd o43 (nd o112 (nd o178 (nd o44 (lf o574) e) (nd o43 (lf o43) e)) (nd o43 (nd o43 (lf o43) e) (lf o510))) (nd o144 (nd o43 (nd o342 (lf o43) e) (nd o43 (lf o738) e)) (nd o276 (nd o43 (lf o672) e) (lf o44)))) (nd o43 (nd o128 (nd o44 (nd o43 (lf o44) e) (nd o460 (lf o43) e)) (nd o260 (nd o392 (lf o656) e) (lf o526))) (nd o43 (nd o226 (nd o44 (lf o624) e) (nd o492 (lf o754) e)) (nd o292 (nd o44 (lf o690) e) (lf o43))))) (nd (o67 P) (nd o86 (nd o43 (nd o44 (nd o316 (lf o582) e) (nd o452 (lf o714) e)) (nd o44 (nd o382 (lf o44) e) (lf o518))) (nd o152 (nd o218 (nd o43 (lf o616) e) (nd o44 (lf o746) e)) (nd o284 (nd o43 (lf o682) e) (lf o550)))) (nd o44 (nd o136 (nd o202 (nd o334 (lf o600) e) (nd o468 (lf o43) e)) (nd o43 (nd o400 (lf o43) e) (lf o43))) (nd o170 (nd o234 (nd o366 (lf o632) e) (lf o43)) (nd o43 (nd o434 (lf o43) e) (lf o566)))))))))
def t837 (P:Params):BT:=(nd (boot_o_0 P) (nd (boot_o_1 P) (nd (o755 P) (nd (boot_o_7 P) (nd o43 (nd o74 (nd o105 (nd o171 (nd o44 (lf o43) (lf o829)) (nd o435 (lf o44) e)) (nd o43 (nd o43 (lf o43) e) (nd o501 (lf o44) e))) (nd o137 (nd o43 (nd o335 (lf o43) e) (nd o43 (lf o731) e)) (nd o269 (nd o401 (lf o665) e) (nd o44 (lf o797) e)))) (nd o87 (nd o121 (nd o187 (nd o43 (lf o583) e) (nd o453 (lf o43) e)) (nd o253 (nd o383 (lf o649) e) (nd o519 (lf o43) e))) (nd o153 (nd o219 (nd o44 (lf o617) e) (nd o485 (lf o747) e)) (nd o285 (nd o44 (lf o683) e) (nd o43 (lf o813) e))))) (nd o60 (nd o79 (nd o43 (nd o43 (nd o309 (lf o575) (lf o837)) (nd o445 (lf o707) e)) (nd o44 (nd o375 (lf o44) e) (nd o511 (lf o773) e))) (nd o43 (nd o211 (nd o43 (lf o609) e) (nd o44 (lf o739) e)) (nd o277 (nd o60 (lf o673) e) (nd o543 (lf o805) e)))) (nd o60 (nd o129 (nd o195 (nd o327 (lf o593) e) (nd o461 (lf o44) e)) (nd o43 (nd o393 (lf o43) e) (nd o43 (lf o789) e))) (nd o163 (nd o227 (nd o359 (lf o625) e) (nd o43 (lf o43) e)) (nd o43 (nd o427 (lf o43) e) (nd o559 (lf o821) e)))))) (nd o43 (nd o56 (nd o75 (nd o109 (nd o175 (nd o305 (lf o571) (lf o833)) (nd o43 (lf o43) e)) (nd o239 (nd o43 (lf o637) e) (nd o44 (lf o769) e))) (nd o43 (nd o43 (nd o43 (lf o43) e) (nd o473 (lf o44) e)) (nd o44 (nd o405 (lf o44) e) (nd o539 (lf o801) e)))) (nd o91 (nd o44 (nd o191 (nd o43 (lf o587) e) (nd o457 (lf o719) e)) (nd o257 (nd (o389 P) (lf o653) e) (nd o43 (lf o43) e))) (nd o43 (nd o223 (nd o355 (lf o621) e) (nd o489 (lf o43) e)) (nd o43 (nd o423 (lf o43) e) (nd o43 (lf o817) e))))) (nd o64 (nd o44 (nd o43 (nd o183 (nd o313 (lf o579) e) (nd o44 (lf o44) e)) (nd o249 (nd o44 (lf o645) e) (nd o515 (lf o777) e))) (nd o149 (nd o44 (nd o347 (lf o44) e) (nd o481 (lf o743) e)) (nd o281 (nd o415 (lf o679) e) (nd o547 (lf o809) e)))) (nd o101 (nd o133 (nd o199 (nd o44 (lf o597) e) (nd o43 (lf o43) e)) (nd o43 (nd o43 (lf o43) e) (nd o531 (lf o44) e))) (nd o44 (nd o43 (nd o363 (lf o43) e) (nd o43 (lf o761) e)) (nd o297 (nd o431 (lf o695) e) (nd o44 (lf o44) e))))))) (nd (boot_o_5 P) (nd (boot_o_9 P) (nd o54 (nd o70 (nd o107 (nd o43 (nd o43 (lf o569) (lf o43)) (nd o437 (lf o701) e)) (nd o237 (nd o369 (lf o635) e) (nd o503 (lf o43) e))) (nd o44 (nd o205 (nd o44 (lf o603) e) (nd o471 (lf o733) e)) (nd o271 (nd o403 (lf o667) e) (nd o43 (lf o43) e)))) (nd o89 (nd o123 (nd o189 (nd o319 (lf o44) e) (nd o455 (lf o717) e)) (nd o255 (nd o43 (lf o651) e) (nd o44 (lf o783) e))) (nd o155 (nd o43 (nd o43 (lf o43) e) (nd o487 (lf o44) e)) (nd o44 (nd o43 (lf o44) e) (nd o553 (lf o815) e))))) (nd o43 (nd o81 (nd o115 (nd o181 (nd o311 (lf o43) e) (nd o447 (lf o709) e)) (nd o43 (nd o377 (lf o43) e) (nd o43 (lf o775) e))) (nd o147 (nd o213 (nd o345 (lf o611) e) (nd o43 (lf o43) e)) (nd o43 (nd o43 (lf o43) e) (nd o545 (lf o44) e)))) (nd o43 (nd o43 (nd o197 (nd o329 (lf o595) e) (nd o44 (lf o725) e)) (nd o263 (nd o44 (lf o659) e) (nd o529 (lf o791) e))) (nd o165 (nd o44 (nd o361 (lf o44) e) (nd o495 (lf o759) e)) (nd o295 (nd o429 (lf o693) e) (nd o561 (lf o823) e)))))) (nd o45 (nd o58 (nd (o77 P) (nd o44 (nd o177 (nd o43 (lf o44) (lf o835)) (nd (o443 P) (lf o705) e)) (nd o241 (nd o373 (lf o639) e) (nd o43 (lf o43) e))) (nd o143 (nd o209 (nd o341 (lf o607) e) (nd o475 (lf o43) e)) (nd o43 (nd o407 (lf o43) e) (nd o43 (lf o803) e)))) (nd o93 (nd o43 (nd o43 (nd o325 (lf o43) e) (nd o459 (lf o721) e)) (nd o44 (nd o391 (lf o44) e) (nd o525 (lf o787) e))) (nd o161 (nd o225 (nd o43 (lf o623) e) (nd o44 (lf o753) e)) (nd o291 (nd o43 (lf o689) e) (nd o557 (lf o43) e))))) (nd o43 (nd o43 (nd o119 (nd o43 (nd o44 (lf o581) e) (nd o43 (lf o713) e)) (nd o43 (nd o43 (lf o43) e) (nd o517 (lf o44) e))) (nd (o151 P) (nd o43 (nd o349 (lf o43) e) (nd o43 (lf o745) e)) (nd o283 (nd o178 (lf o681) e) (nd o44 (lf o43) e)))) (nd o43 (nd o135 (nd o44 (nd o333 (lf o44) e) (nd o467 (lf o729) e)) (nd o267 (nd o399 (lf o663) e) (nd o533 (lf o43) e))) (nd o43 (nd o233 (nd o44 (lf o631) e) (nd o499 (lf o763) e)) (nd o299 (nd (o433 P) (lf o697) e) (nd o565 (lf o43) e)))))))) (nd (o49 P) (nd (boot_o_4 P) (nd (boot_o_8 P) (nd o44 (nd o69 (nd o43 (nd o172 (nd o302 (lf o44) (lf o830)) (nd o436 (lf o700) e)) (nd o44 (nd o368 (lf o44) e) (nd o502 (lf o766) e))) (nd o43 (nd o204 (nd o43 (lf o602) e) (nd o44 (lf o732) e)) (nd o270 (nd (o402 P) (lf o666) e) (nd o536 (lf o798) e)))) (nd o88 (nd o122 (nd o188 (nd o318 (lf o43) e) (nd o454 (lf o44) e)) (nd o43 (nd o384 (lf o43) e) (nd o43 (lf o782) e))) (nd o154 (nd o220 (nd o352 (lf o618) e) (nd o43 (lf o43) e)) (nd o43 (nd o420 (lf o43) e) (nd o552 (lf o43) e))))) (nd (o61 P) (nd o80 (nd o114 (nd o44 (nd o43 (lf o576) e) (nd o446 (lf o708) e)) (nd o246 (nd o376 (lf o642) e) (nd o512 (lf o43) e))) (nd o44 (nd o212 (nd o44 (lf o610) e) (nd o478 (lf o740) e)) (nd o278 (nd (o412 P) (lf o674) e) (nd o43 (lf o43) e)))) (nd (o98 P) (nd o130 (nd o43 (nd o328 (lf o43) e) (nd o43 (lf o724) e)) (nd o262 (nd o43 (lf o658) e) (nd o44 (lf o790) e))) (nd o164 (nd o43 (nd o43 (lf o43) e) (nd o494 (lf o44) e)) (nd o44 (nd o43 (lf o44) e) (nd o560 (lf o822) e)))))) (nd o756 (nd o57 (nd o60 (nd o43 (nd o176 (nd o306 (lf o43) (lf o43)) (nd o60 (lf o44) e)) (nd o240 (nd o44 (lf o638) e) (nd o508 (lf o770) e))) (nd o142 (nd o44 (nd o340 (lf o44) e) (nd o474 (lf o736) e)) (nd o274 (nd o406 (lf o670) e) (nd o540 (lf o43) e)))) (nd o92 (nd o126 (nd o192 (nd o44 (lf o588) e) (nd o458 (lf o720) e)) (nd o43 (nd o43 (lf o43) e) (nd o524 (lf o44) e))) (nd o44 (nd o43 (nd o356 (lf o43) e) (nd o43 (lf o752) e)) (nd o290 (nd o424 (lf o688) e) (nd o44 (lf o818) e))))) (nd o65 (nd o84 (nd o44 (nd o178 (nd o43 (lf o43) e) (nd o450 (lf o712) e)) (nd o250 (nd o380 (lf o646) e) (nd o43 (lf o43) e))) (nd o150 (nd o216 (nd o348 (lf o614) e) (nd o482 (lf o43) e)) (nd o43 (nd o416 (lf o43) e) (nd o43 (lf o810) e)))) (nd o102 (nd o43 (nd o43 (nd o332 (lf o43) e) (nd o466 (lf o44) e)) (nd o44 (nd o398 (lf o44) e) (nd o532 (lf o794) e))) (nd o168 (nd o232 (nd o43 (lf o630) e) (nd o44 (lf o762) e)) (nd o298 (nd o432 (lf o696) e) (nd o564 (lf o826) e))))))) (nd (boot_o_6 P) (nd (boot_o_10 P) (nd o43 (nd o71 (nd o108 (nd o44 (nd o304 (lf o570) (lf o44)) (nd o438 (lf o702) e)) (nd o43 (nd o370 (lf o43) e) (nd o43 (lf o768) e))) (nd o140 (nd o206 (nd o338 (lf o604) e) (nd o43 (lf o43) e)) (nd o43 (nd o404 (lf o43) e) (nd o538 (lf o44) e)))) (nd (o90 P) (nd o43 (nd o190 (nd o320 (lf o586) e) (nd (o456 P) (lf o43) e)) (nd o256 (nd o60 (lf o652) e) (nd o522 (lf o784) e))) (nd o156 (nd o44 (nd o354 (lf o44) e) (nd o488 (lf o750) e)) (nd o288 (nd o422 (lf o686) e) (nd o554 (lf o816) e))))) (nd o44 (nd o43 (nd o116 (nd o182 (nd o312 (lf o44) e) (nd o43 (lf o43) e)) (nd o248 (nd o43 (lf o644) e) (nd o44 (lf o776) e))) (nd o148 (nd o43 (nd o43 (lf o43) e) (nd o480 (lf o44) e)) (nd o44 (nd o414 (lf o44) e) (nd o546 (lf o808) e)))) (nd o100 (nd o44 (nd o198 (nd o43 (lf o596) e) (nd o43 (lf o726) e)) (nd o264 (nd o396 (lf o660) e) (nd o43 (lf o43) e))) (nd o43 (nd o230 (nd o362 (lf o628) e) (nd o496 (lf o43) e)) (nd o43 (nd o430 (lf o43) e) (nd o43 (lf o43) e)))))) (nd o46 (nd o59 (nd o43 (nd o112 (nd o178 (nd o44 (lf o574) (lf o836)) (nd o43 (lf o43) e)) (nd o43 (nd o43 (lf o43) e) (nd o510 (lf o44) e))) (nd o144 (nd o43 (nd o342 (lf o43) e) (nd o43 (lf o738) e)) (nd o276 (nd o43 (lf o672) e) (nd o44 (lf o804) e)))) (nd o43 (nd o128 (nd o44 (nd o43 (lf o44) e) (nd o460 (lf o43) e)) (nd o260 (nd o392 (lf o656) e) (nd o526 (lf o43) e))) (nd o43 (nd o226 (nd o44 (lf o624) e) (nd o492 (lf o754) e)) (nd o292 (nd o44 (lf o690) e) (nd o43 (lf o44) e))))) (nd (o67 P) (nd o86 (nd o43 (nd o44 (nd o316 (lf o582) e) (nd o452 (lf o714) e)) (nd o44 (nd o382 (lf o44) e) (nd o518 (lf o780) e))) (nd o152 (nd o218 (nd o43 (lf o616) e) (nd o44 (lf o746) e)) (nd o284 (nd o43 (lf o682) e) (nd o550 (lf o44) e)))) (nd o44 (nd o136 (nd o202 (nd o334 (lf o600) e) (nd o468 (lf o43) e)) (nd o43 (nd o400 (lf o43) e) (nd o43 (lf o796) e))) (nd o170 (nd o234 (nd o366 (lf o632) e) (nd o43 (lf o43) e)) (nd o43 (nd o434 (lf o43) e) (nd o566 (lf o828) e)))))))))
def t920 (P:Params):BT:=(nd (boot_o_0 P) (nd (boot_o_1 P) (nd (o838 P) (nd (boot_o_7 P) (nd o43 (nd o74 (nd o105 (nd o171 (nd o44 (lf o43) (lf o829)) (nd o435 (lf o44) e)) (nd o43 (nd o43 (lf o43) (lf o43)) (nd o501 (lf o44) e))) (nd o137 (nd o43 (nd o335 (lf o43) (lf o44)) (nd o43 (lf o731) e)) (nd o269 (nd o401 (lf o665) e) (nd o44 (lf o797) e)))) (nd o87 (nd o121 (nd o187 (nd o43 (lf o583) (lf o847)) (nd o453 (lf o43) e)) (nd o253 (nd o383 (lf o649) (lf o911)) (nd o519 (lf o43) e))) (nd o153 (nd o219 (nd o44 (lf o617) (lf o879)) (nd o485 (lf o747) e)) (nd o285 (nd o44 (lf o683) e) (nd o43 (lf o813) e))))) (nd o60 (nd o79 (nd o43 (nd o43 (nd o309 (lf o575) (lf o837)) (nd o445 (lf o707) e)) (nd o44 (nd o375 (lf o44) (lf o44)) (nd o511 (lf o773) e))) (nd o43 (nd o211 (nd o43 (lf o609) (lf o871)) (nd o44 (lf o739) e)) (nd o277 (nd o60 (lf o673) e) (nd o543 (lf o805) e)))) (nd o60 (nd o129 (nd o195 (nd o327 (lf o593) (lf o855)) (nd o461 (lf o44) e)) (nd o43 (nd o393 (lf o43) (lf o919)) (nd o43 (lf o789) e))) (nd o163 (nd o227 (nd o359 (lf o625) (lf o887)) (nd o43 (lf o43) e)) (nd o43 (nd o427 (lf o43) e) (nd o559 (lf o821) e)))))) (nd o43 (nd o56 (nd o75 (nd o109 (nd o175 (nd o305 (lf o571) (lf o833)) (nd o43 (lf o43) e)) (nd o239 (nd o43 (lf o637) (lf o899)) (nd o44 (lf o769) e))) (nd o43 (nd o43 (nd o43 (lf o43) (lf o43)) (nd o473 (lf o44) e)) (nd o44 (nd o405 (lf o44) e) (nd o539 (lf o801) e)))) (nd o91 (nd o44 (nd o191 (nd o43 (lf o587) (lf o44)) (nd o457 (lf o719) e)) (nd o257 (nd (o389 P) (lf o653) (lf o915)) (nd o43 (lf o43) e))) (nd o43 (nd o223 (nd o355 (lf o621) (lf o883)) (nd o489 (lf o43) e)) (nd o43 (nd o423 (lf o43) e) (nd o43 (lf o817) e))))) (nd o64 (nd o44 (nd o43 (nd o183 (nd o313 (lf o579) (lf o843)) (nd o44 (lf o44) e)) (nd o249 (nd o44 (lf o645) (lf o907)) (nd o515 (lf o777) e))) (nd o149 (nd o44 (nd o347 (lf o44) (lf o44)) (nd o481 (lf o743) e)) (nd o281 (nd o415 (lf o679) e) (nd o547 (lf o809) e)))) (nd o101 (nd o133 (nd o199 (nd o44 (lf o597) (lf o859)) (nd o43 (lf o43) e)) (nd o43 (nd o43 (lf o43) e) (nd o531 (lf o44) e))) (nd o44 (nd o43 (nd o363 (lf o43) (lf o43)) (nd o43 (lf o761) e)) (nd o297 (nd o431 (lf o695) e) (nd o44 (lf o44) e))))))) (nd (boot_o_5 P) (nd (boot_o_9 P) (nd o54 (nd o70 (nd o107 (nd o43 (nd o43 (lf o569) (lf o43)) (nd o437 (lf o701) e)) (nd o237 (nd o369 (lf o635) (lf o897)) (nd o503 (lf o43) e))) (nd o44 (nd o205 (nd o44 (lf o603) (lf o865)) (nd o471 (lf o733) e)) (nd o271 (nd o403 (lf o667) e) (nd o43 (lf o43) e)))) (nd o89 (nd o123 (nd o189 (nd o319 (lf o44) (lf o849)) (nd o455 (lf o717) e)) (nd o255 (nd o43 (lf o651) (lf o913)) (nd o44 (lf o783) e))) (nd o155 (nd o43 (nd o43 (lf o43) (lf o43)) (nd o487 (lf o44) e)) (nd o44 (nd o43 (lf o44) e) (nd o553 (lf o815) e))))) (nd o43 (nd o81 (nd o115 (nd o181 (nd o311 (lf o43) (lf o44)) (nd o447 (lf o709) e)) (nd o43 (nd o377 (lf o43) (lf o43)) (nd o43 (lf o775) e))) (nd o147 (nd o213 (nd o345 (lf o611) (lf o873)) (nd o43 (lf o43) e)) (nd o43 (nd o43 (lf o43) e) (nd o545 (lf o44) e)))) (nd o43 (nd o43 (nd o197 (nd o329 (lf o595) (lf o43)) (nd o44 (lf o725) e)) (nd o263 (nd o44 (lf o659) e) (nd o529 (lf o791) e))) (nd o165 (nd o44 (nd o361 (lf o44) (lf o44)) (nd o495 (lf o759) e)) (nd o295 (nd o429 (lf o693) e) (nd o561 (lf o823) e)))))) (nd o45 (nd o58 (nd (o77 P) (nd o44 (nd o177 (nd o43 (lf o44) (lf o835)) (nd (o443 P) (lf o705) e)) (nd o241 (nd o373 (lf o639) (lf o901)) (nd o43 (lf o43) e))) (nd o143 (nd o209 (nd o341 (lf o607) (lf o869)) (nd o475 (lf o43) e)) (nd o43 (nd o407 (lf o43) e) (nd o43 (lf o803) e)))) (nd o93 (nd o43 (nd o43 (nd o325 (lf o43) (lf o43)) (nd o459 (lf o721) e)) (nd o44 (nd o391 (lf o44) (lf o44)) (nd o525 (lf o787) e))) (nd o161 (nd o225 (nd o43 (lf o623) (lf o885)) (nd o44 (lf o753) e)) (nd o291 (nd o43 (lf o689) e) (nd o557 (lf o43) e))))) (nd o43 (nd o43 (nd o119 (nd o43 (nd o44 (lf o581) (lf o43)) (nd o43 (lf o713) e)) (nd o43 (nd o43 (lf o43) (lf o43)) (nd o517 (lf o44) e))) (nd (o151 P) (nd o43 (nd o349 (lf o43) (lf o43)) (nd o43 (lf o745) e)) (nd o283 (nd o178 (lf o681) e) (nd o44 (lf o43) e)))) (nd o43 (nd o135 (nd o44 (nd o333 (lf o44) (lf o861)) (nd o467 (lf o729) e)) (nd o267 (nd o399 (lf o663) e) (nd o533 (lf o43) e))) (nd o43 (nd o233 (nd o44 (lf o631) (lf o893)) (nd o499 (lf o763) e)) (nd o299 (nd (o433 P) (lf o697) e) (nd o565 (lf o43) e)))))))) (nd (o49 P) (nd (boot_o_4 P) (nd (boot_o_8 P) (nd o44 (nd o69 (nd o43 (nd o172 (nd o302 (lf o44) (lf o830)) (nd o436 (lf o700) e)) (nd o44 (nd o368 (lf o44) (lf o44)) (nd o502 (lf o766) e))) (nd o43 (nd o204 (nd o43 (lf o602) (lf o864)) (nd o44 (lf o732) e)) (nd o270 (nd (o402 P) (lf o666) e) (nd o536 (lf o798) e)))) (nd o88 (nd o122 (nd o188 (nd o318 (lf o43) (lf o848)) (nd o454 (lf o44) e)) (nd o43 (nd o384 (lf o43) (lf o43)) (nd o43 (lf o782) e))) (nd o154 (nd o220 (nd o352 (lf o618) (lf o880)) (nd o43 (lf o43) e)) (nd o43 (nd o420 (lf o43) e) (nd o552 (lf o43) e))))) (nd (o61 P) (nd o80 (nd o114 (nd o44 (nd o43 (lf o576) (lf o43)) (nd o446 (lf o708) e)) (nd o246 (nd o376 (lf o642) (lf o904)) (nd o512 (lf o43) e))) (nd o44 (nd o212 (nd o44 (lf o610) (lf o872)) (nd o478 (lf o740) e)) (nd o278 (nd (o412 P) (lf o674) e) (nd o43 (lf o43) e)))) (nd (o98 P) (nd o130 (nd o43 (nd o328 (lf o43) (lf o856)) (nd o43 (lf o724) e)) (nd o262 (nd o43 (lf o658) (lf o920)) (nd o44 (lf o790) e))) (nd o164 (nd o43 (nd o43 (lf o43) (lf o43)) (nd o494 (lf o44) e)) (nd o44 (nd o43 (lf o44) e) (nd o560 (lf o822) e)))))) (nd o839 (nd o57 (nd o60 (nd o43 (nd o176 (nd o306 (lf o43) (lf o43)) (nd o60 (lf o44) e)) (nd o240 (nd o44 (lf o638) (lf o900)) (nd o508 (lf o770) e))) (nd o142 (nd o44 (nd o340 (lf o44) (lf o44)) (nd o474 (lf o736) e)) (nd o274 (nd o406 (lf o670) e) (nd o540 (lf o43) e)))) (nd o92 (nd o126 (nd o192 (nd o44 (lf o588) (lf o852)) (nd o458 (lf o720) e)) (nd o43 (nd o43 (lf o43) (lf o43)) (nd o524 (lf o44) e))) (nd o44 (nd o43 (nd o356 (lf o43) (lf o43)) (nd o43 (lf o752) e)) (nd o290 (nd o424 (lf o688) e) (nd o44 (lf o818) e))))) (nd o65 (nd o84 (nd o44 (nd o178 (nd o43 (lf o43) (lf o844)) (nd o450 (lf o712) e)) (nd o250 (nd o380 (lf o646) (lf o908)) (nd o43 (lf o43) e))) (nd o150 (nd o216 (nd o348 (lf o614) (lf o876)) (nd o482 (lf o43) e)) (nd o43 (nd o416 (lf o43) e) (nd o43 (lf o810) e)))) (nd o102 (nd o43 (nd o43 (nd o332 (lf o43) (lf o860)) (nd o466 (lf o44) e)) (nd o44 (nd o398 (lf o44) e) (nd o532 (lf o794) e))) (nd o168 (nd o232 (nd o43 (lf o630) (lf o892)) (nd o44 (lf o762) e)) (nd o298 (nd o432 (lf o696) e) (nd o564 (lf o826) e))))))) (nd (boot_o_6 P) (nd (boot_o_10 P) (nd o43 (nd o71 (nd o108 (nd o44 (nd o304 (lf o570) (lf o44)) (nd o438 (lf o702) e)) (nd o43 (nd o370 (lf o43) (lf o43)) (nd o43 (lf o768) e))) (nd o140 (nd o206 (nd o338 (lf o604) (lf o866)) (nd o43 (lf o43) e)) (nd o43 (nd o404 (lf o43) e) (nd o538 (lf o44) e)))) (nd (o90 P) (nd o43 (nd o190 (nd o320 (lf o586) (lf o43)) (nd (o456 P) (lf o43) e)) (nd o256 (nd o60 (lf o652) (lf o914)) (nd o522 (lf o784) e))) (nd o156 (nd o44 (nd o354 (lf o44) (lf o44)) (nd o488 (lf o750) e)) (nd o288 (nd o422 (lf o686) e) (nd o554 (lf o816) e))))) (nd o44 (nd o43 (nd o116 (nd o182 (nd o312 (lf o44) (lf o842)) (nd o43 (lf o43) e)) (nd o248 (nd o43 (lf o644) (lf o906)) (nd o44 (lf o776) e))) (nd o148 (nd o43 (nd o43 (lf o43) (lf o43)) (nd o480 (lf o44) e)) (nd o44 (nd o414 (lf o44) e) (nd o546 (lf o808) e)))) (nd o100 (nd o44 (nd o198 (nd o43 (lf o596) (lf o44)) (nd o43 (lf o726) e)) (nd o264 (nd o396 (lf o660) e) (nd o43 (lf o43) e))) (nd o43 (nd o230 (nd o362 (lf o628) (lf o890)) (nd o496 (lf o43) e)) (nd o43 (nd o430 (lf o43) e) (nd o43 (lf o43) e)))))) (nd o46 (nd o59 (nd o43 (nd o112 (nd o178 (nd o44 (lf o574) (lf o836)) (nd o43 (lf o43) e)) (nd o43 (nd o43 (lf o43) (lf o43)) (nd o510 (lf o44) e))) (nd o144 (nd o43 (nd o342 (lf o43) (lf o43)) (nd o43 (lf o738) e)) (nd o276 (nd o43 (lf o672) e) (nd o44 (lf o804) e)))) (nd o43 (nd o128 (nd o44 (nd o43 (lf o44) (lf o854)) (nd o460 (lf o43) e)) (nd o260 (nd o392 (lf o656) (lf o918)) (nd o526 (lf o43) e))) (nd o43 (nd o226 (nd o44 (lf o624) (lf o886)) (nd o492 (lf o754) e)) (nd o292 (nd o44 (lf o690) e) (nd o43 (lf o44) e))))) (nd (o67 P) (nd o86 (nd o43 (nd o44 (nd o316 (lf o582) (lf o44)) (nd o452 (lf o714) e)) (nd o44 (nd o382 (lf o44) (lf o44)) (nd o518 (lf o780) e))) (nd o152 (nd o218 (nd o43 (lf o616) (lf o878)) (nd o44 (lf o746) e)) (nd o284 (nd o43 (lf o682) e) (nd o550 (lf o44) e)))) (nd o44 (nd o136 (nd o202 (nd o334 (lf o600) (lf o43)) (nd o468 (lf o43) e)) (nd o43 (nd o400 (lf o43) e) (nd o43 (lf o796) e))) (nd o170 (nd o234 (nd o366 (lf o632) (lf o894)) (nd o43 (lf o43) e)) (nd o43 (nd o434 (lf o43) e) (nd o566 (lf o828) e)))))))))
def t1000 (P:Params):BT:=(nd (boot_o_0 P) (nd (boot_o_1 P) (nd (o921 P) (nd (boot_o_7 P) (nd o43 (nd o74 (nd o105 (nd o171 (nd o44 (lf o43) (lf o829)) (nd o435 (lf o44) (lf o961))) (nd o43 (nd o43 (lf o43) (lf o43)) (nd o501 (lf o44) e))) (nd o137 (nd o43 (nd o335 (lf o43) (lf o44)) (nd o43 (lf o731) (lf o993))) (nd o269 (nd o401 (lf o665) (lf o44)) (nd o44 (lf o797) e)))) (nd o87 (nd o121 (nd o187 (nd o43 (lf o583) (lf o847)) (nd o453 (lf o43) (lf o43))) (nd o253 (nd o383 (lf o649) (lf o911)) (nd o519 (lf o43) e))) (nd o153 (nd o219 (nd o44 (lf o617) (lf o879)) (nd o485 (lf o747) e)) (nd o285 (nd o44 (lf o683) (lf o43)) (nd o43 (lf o813) e))))) (nd o60 (nd o79 (nd o43 (nd o43 (nd o309 (lf o575) (lf o837)) (nd o445 (lf o707) (lf o969))) (nd o44 (nd o375 (lf o44) (lf o44)) (nd o511 (lf o773) e))) (nd o43 (nd o211 (nd o43 (lf o609) (lf o871)) (nd o44 (lf o739) e)) (nd o277 (nd o60 (lf o673) (lf o937)) (nd o543 (lf o805) e)))) (nd o60 (nd o129 (nd o195 (nd o327 (lf o593) (lf o855)) (nd o461 (lf o44) (lf o43))) (nd o43 (nd o393 (lf o43) (lf o919)) (nd o43 (lf o789) e))) (nd o163 (nd o227 (nd o359 (lf o625) (lf o887)) (nd o43 (lf o43) e)) (nd o43 (nd o427 (lf o43) (lf o953)) (nd o559 (lf o821) e)))))) (nd o43 (nd o56 (nd o75 (nd o109 (nd o175 (nd o305 (lf o571) (lf o833)) (nd o43 (lf o43) (lf o965))) (nd o239 (nd o43 (lf o637) (lf o899)) (nd o44 (lf o769) e))) (nd o43 (nd o43 (nd o43 (lf o43) (lf o43)) (nd o473 (lf o44) (lf o44))) (nd o44 (nd o405 (lf o44) (lf o933)) (nd o539 (lf o801) e)))) (nd o91 (nd o44 (nd o191 (nd o43 (lf o587) (lf o44)) (nd o457 (lf o719) (lf o981))) (nd o257 (nd (o389 P) (lf o653) (lf o915)) (nd o43 (lf o43) e))) (nd o43 (nd o223 (nd o355 (lf o621) (lf o883)) (nd o489 (lf o43) e)) (nd o43 (nd o423 (lf o43) (lf o43)) (nd o43 (lf o817) e))))) (nd o64 (nd o44 (nd o43 (nd o183 (nd o313 (lf o579) (lf o843)) (nd o44 (lf o44) (lf o43))) (nd o249 (nd o44 (lf o645) (lf o907)) (nd o515 (lf o777) e))) (nd o149 (nd o44 (nd o347 (lf o44) (lf o44)) (nd o481 (lf o743) e)) (nd o281 (nd o415 (lf o679) (lf o941)) (nd o547 (lf o809) e)))) (nd o101 (nd o133 (nd o199 (nd o44 (lf o597) (lf o859)) (nd o43 (lf o43) (lf o43))) (nd o43 (nd o43 (lf o43) (lf o925)) (nd o531 (lf o44) e))) (nd o44 (nd o43 (nd o363 (lf o43) (lf o43)) (nd o43 (lf o761) e)) (nd o297 (nd o431 (lf o695) (lf o44)) (nd o44 (lf o44) e))))))) (nd (boot_o_5 P) (nd (boot_o_9 P) (nd o54 (nd o70 (nd o107 (nd o43 (nd o43 (lf o569) (lf o43)) (nd o437 (lf o701) (lf o43))) (nd o237 (nd o369 (lf o635) (lf o897)) (nd o503 (lf o43) e))) (nd o44 (nd o205 (nd o44 (lf o603) (lf o865)) (nd o471 (lf o733) (lf o995))) (nd o271 (nd o403 (lf o667) (lf o43)) (nd o43 (lf o43) e)))) (nd o89 (nd o123 (nd o189 (nd o319 (lf o44) (lf o849)) (nd o455 (lf o717) (lf o979))) (nd o255 (nd o43 (lf o651) (lf o913)) (nd o44 (lf o783) e))) (nd o155 (nd o43 (nd o43 (lf o43) (lf o43)) (nd o487 (lf o44) e)) (nd o44 (nd o43 (lf o44) (lf o947)) (nd o553 (lf o815) e))))) (nd o43 (nd o81 (nd o115 (nd o181 (nd o311 (lf o43) (lf o44)) (nd o447 (lf o709) (lf o44))) (nd o43 (nd o377 (lf o43) (lf o43)) (nd o43 (lf o775) e))) (nd o147 (nd o213 (nd o345 (lf o611) (lf o873)) (nd o43 (lf o43) e)) (nd o43 (nd o43 (lf o43) (lf o939)) (nd o545 (lf o44) e)))) (nd o43 (nd o43 (nd o197 (nd o329 (lf o595) (lf o43)) (nd o44 (lf o725) (lf o987))) (nd o263 (nd o44 (lf o659) (lf o43)) (nd o529 (lf o791) e))) (nd o165 (nd o44 (nd o361 (lf o44) (lf o44)) (nd o495 (lf o759) e)) (nd o295 (nd o429 (lf o693) (lf o955)) (nd o561 (lf o823) e)))))) (nd o45 (nd o58 (nd (o77 P) (nd o44 (nd o177 (nd o43 (lf o44) (lf o835)) (nd (o443 P) (lf o705) (lf o967))) (nd o241 (nd o373 (lf o639) (lf o901)) (nd o43 (lf o43) e))) (nd o143 (nd o209 (nd o341 (lf o607) (lf o869)) (nd o475 (lf o43) (lf o999))) (nd o43 (nd o407 (lf o43) (lf o43)) (nd o43 (lf o803) e)))) (nd o93 (nd o43 (nd o43 (nd o325 (lf o43) (lf o43)) (nd o459 (lf o721) (lf o44))) (nd o44 (nd o391 (lf o44) (lf o44)) (nd o525 (lf o787) e))) (nd o161 (nd o225 (nd o43 (lf o623) (lf o885)) (nd o44 (lf o753) e)) (nd o291 (nd o43 (lf o689) (lf o951)) (nd o557 (lf o43) e))))) (nd o43 (nd o43 (nd o119 (nd o43 (nd o44 (lf o581) (lf o43)) (nd o43 (lf o713) (lf o975))) (nd o43 (nd o43 (lf o43) (lf o43)) (nd o517 (lf o44) e))) (nd (o151 P) (nd o43 (nd o349 (lf o43) (lf o43)) (nd o43 (lf o745) e)) (nd o283 (nd o178 (lf o681) (lf o44)) (nd o44 (lf o43) e)))) (nd o43 (nd o135 (nd o44 (nd o333 (lf o44) (lf o861)) (nd o467 (lf o729) (lf o991))) (nd o267 (nd o399 (lf o663) (lf o927)) (nd o533 (lf o43) e))) (nd o43 (nd o233 (nd o44 (lf o631) (lf o893)) (nd o499 (lf o763) e)) (nd o299 (nd (o433 P) (lf o697) (lf o43)) (nd o565 (lf o43) e)))))))) (nd (o49 P) (nd (boot_o_4 P) (nd (boot_o_8 P) (nd o44 (nd o69 (nd o43 (nd o172 (nd o302 (lf o44) (lf o830)) (nd o436 (lf o700) (lf o962))) (nd o44 (nd o368 (lf o44) (lf o44)) (nd o502 (lf o766) e))) (nd o43 (nd o204 (nd o43 (lf o602) (lf o864)) (nd o44 (lf o732) (lf o994))) (nd o270 (nd (o402 P) (lf o666) (lf o930)) (nd o536 (lf o798) e)))) (nd o88 (nd o122 (nd o188 (nd o318 (lf o43) (lf o848)) (nd o454 (lf o44) (lf o44))) (nd o43 (nd o384 (lf o43) (lf o43)) (nd o43 (lf o782) e))) (nd o154 (nd o220 (nd o352 (lf o618) (lf o880)) (nd o43 (lf o43) e)) (nd o43 (nd o420 (lf o43) (lf o946)) (nd o552 (lf o43) e))))) (nd (o61 P) (nd o80 (nd o114 (nd o44 (nd o43 (lf o576) (lf o43)) (nd o446 (lf o708) (lf o43))) (nd o246 (nd o376 (lf o642) (lf o904)) (nd o512 (lf o43) e))) (nd o44 (nd o212 (nd o44 (lf o610) (lf o872)) (nd o478 (lf o740) e)) (nd o278 (nd (o412 P) (lf o674) (lf o43)) (nd o43 (lf o43) e)))) (nd (o98 P) (nd o130 (nd o43 (nd o328 (lf o43) (lf o856)) (nd o43 (lf o724) (lf o986))) (nd o262 (nd o43 (lf o658) (lf o920)) (nd o44 (lf o790) e))) (nd o164 (nd o43 (nd o43 (lf o43) (lf o43)) (nd o494 (lf o44) e)) (nd o44 (nd o43 (lf o44) (lf o954)) (nd o560 (lf o822) e)))))) (nd o922 (nd o57 (nd o60 (nd o43 (nd o176 (nd o306 (lf o43) (lf o43)) (nd o60 (lf o44) (lf o43))) (nd o240 (nd o44 (lf o638) (lf o900)) (nd o508 (lf o770) e))) (nd o142 (nd o44 (nd o340 (lf o44) (lf o44)) (nd o474 (lf o736) (lf o998))) (nd o274 (nd o406 (lf o670) (lf o934)) (nd o540 (lf o43) e)))) (nd o92 (nd o126 (nd o192 (nd o44 (lf o588) (lf o852)) (nd o458 (lf o720) (lf o43))) (nd o43 (nd o43 (lf o43) (lf o43)) (nd o524 (lf o44) e))) (nd o44 (nd o43 (nd o356 (lf o43) (lf o43)) (nd o43 (lf o752) e)) (nd o290 (nd o424 (lf o688) (lf o44)) (nd o44 (lf o818) e))))) (nd o65 (nd o84 (nd o44 (nd o178 (nd o43 (lf o43) (lf o844)) (nd o450 (lf o712) (lf o974))) (nd o250 (nd o380 (lf o646) (lf o908)) (nd o43 (lf o43) e))) (nd o150 (nd o216 (nd o348 (lf o614) (lf o876)) (nd o482 (lf o43) e)) (nd o43 (nd o416 (lf o43) (lf o43)) (nd o43 (lf o810) e)))) (nd o102 (nd o43 (nd o43 (nd o332 (lf o43) (lf o860)) (nd o466 (lf o44) (lf o44))) (nd o44 (nd o398 (lf o44) (lf o926)) (nd o532 (lf o794) e))) (nd o168 (nd o232 (nd o43 (lf o630) (lf o892)) (nd o44 (lf o762) e)) (nd o298 (nd o432 (lf o696) (lf o958)) (nd o564 (lf o826) e))))))) (nd (boot_o_6 P) (nd (boot_o_10 P) (nd o43 (nd o71 (nd o108 (nd o44 (nd o304 (lf o570) (lf o44)) (nd o438 (lf o702) (lf o44))) (nd o43 (nd o370 (lf o43) (lf o43)) (nd o43 (lf o768) e))) (nd o140 (nd o206 (nd o338 (lf o604) (lf o866)) (nd o43 (lf o43) (lf o43))) (nd o43 (nd o404 (lf o43) (lf o932)) (nd o538 (lf o44) e)))) (nd (o90 P) (nd o43 (nd o190 (nd o320 (lf o586) (lf o43)) (nd (o456 P) (lf o43) (lf o980))) (nd o256 (nd o60 (lf o652) (lf o914)) (nd o522 (lf o784) e))) (nd o156 (nd o44 (nd o354 (lf o44) (lf o44)) (nd o488 (lf o750) e)) (nd o288 (nd o422 (lf o686) (lf o948)) (nd o554 (lf o816) e))))) (nd o44 (nd o43 (nd o116 (nd o182 (nd o312 (lf o44) (lf o842)) (nd o43 (lf o43) (lf o972))) (nd o248 (nd o43 (lf o644) (lf o906)) (nd o44 (lf o776) e))) (nd o148 (nd o43 (nd o43 (lf o43) (lf o43)) (nd o480 (lf o44) e)) (nd o44 (nd o414 (lf o44) (lf o940)) (nd o546 (lf o808) e)))) (nd o100 (nd o44 (nd o198 (nd o43 (lf o596) (lf o44)) (nd o43 (lf o726) (lf o988))) (nd o264 (nd o396 (lf o660) (lf o44)) (nd o43 (lf o43) e))) (nd o43 (nd o230 (nd o362 (lf o628) (lf o890)) (nd o496 (lf o43) e)) (nd o43 (nd o430 (lf o43) (lf o43)) (nd o43 (lf o43) e)))))) (nd o46 (nd o59 (nd o43 (nd o112 (nd o178 (nd o44 (lf o574) (lf o836)) (nd o43 (lf o43) (lf o968))) (nd o43 (nd o43 (lf o43) (lf o43)) (nd o510 (lf o44) e))) (nd o144 (nd o43 (nd o342 (lf o43) (lf o43)) (nd o43 (lf o738) (lf o1000))) (nd o276 (nd o43 (lf o672) (lf o44)) (nd o44 (lf o804) e)))) (nd o43 (nd o128 (nd o44 (nd o43 (lf o44) (lf o854)) (nd o460 (lf o43) (lf o984))) (nd o260 (nd o392 (lf o656) (lf o918)) (nd o526 (lf o43) e))) (nd o43 (nd o226 (nd o44 (lf o624) (lf o886)) (nd o492 (lf o754) e)) (nd o292 (nd o44 (lf o690) (lf o43)) (nd o43 (lf o44) e))))) (nd (o67 P) (nd o86 (nd o43 (nd o44 (nd o316 (lf o582) (lf o44)) (nd o452 (lf o714) (lf o976))) (nd o44 (nd o382 (lf o44) (lf o44)) (nd o518 (lf o780) e))) (nd o152 (nd o218 (nd o43 (lf o616) (lf o878)) (nd o44 (lf o746) e)) (nd o284 (nd o43 (lf o682) (lf o944)) (nd o550 (lf o44) e)))) (nd o44 (nd o136 (nd o202 (nd o334 (lf o600) (lf o43)) (nd o468 (lf o43) (lf o43))) (nd o43 (nd o400 (lf o43) (lf o43)) (nd o43 (lf o796) e))) (nd o170 (nd o234 (nd o366 (lf o632) (lf o894)) (nd o43 (lf o43) e)) (nd o43 (nd o434 (lf o43) (lf o960)) (nd o566 (lf o828) e)))))))))
def t1033 (P:Params):BT:=(nd (boot_o_0 P) (nd (boot_o_1 P) (nd (o1001 P) (nd (boot_o_7 P) (nd o43 (nd o74 (nd o105 (nd o171 (nd o44 (lf o43) (lf o829)) (nd o435 (lf o44) (lf o961))) (nd o43 (nd o43 (lf o43) (lf o43)) (nd o501 (lf o44) (lf o43)))) (nd o137 (nd o43 (nd o335 (lf o43) (lf o44)) (nd o43 (lf o731) (lf o993))) (nd o269 (nd o401 (lf o665) (lf o44)) (nd o44 (lf o797) e)))) (nd o87 (nd o121 (nd o187 (nd o43 (lf o583) (lf o847)) (nd o453 (lf o43) (lf o43))) (nd o253 (nd o383 (lf o649) (lf o911)) (nd o519 (lf o43) e))) (nd o153 (nd o219 (nd o44 (lf o617) (lf o879)) (nd o485 (lf o747) (lf o1011))) (nd o285 (nd o44 (lf o683) (lf o43)) (nd o43 (lf o813) e))))) (nd o60 (nd o79 (nd o43 (nd o43 (nd o309 (lf o575) (lf o837)) (nd o445 (lf o707) (lf o969))) (nd o44 (nd o375 (lf o44) (lf o44)) (nd o511 (lf o773) e))) (nd o43 (nd o211 (nd o43 (lf o609) (lf o871)) (nd o44 (lf o739) (lf o43))) (nd o277 (nd o60 (lf o673) (lf o937)) (nd o543 (lf o805) e)))) (nd o60 (nd o129 (nd o195 (nd o327 (lf o593) (lf o855)) (nd o461 (lf o44) (lf o43))) (nd o43 (nd o393 (lf o43) (lf o919)) (nd o43 (lf o789) e))) (nd o163 (nd o227 (nd o359 (lf o625) (lf o887)) (nd o43 (lf o43) (lf o1019))) (nd o43 (nd o427 (lf o43) (lf o953)) (nd o559 (lf o821) e)))))) (nd o43 (nd o56 (nd o75 (nd o109 (nd o175 (nd o305 (lf o571) (lf o833)) (nd o43 (lf o43) (lf o965))) (nd o239 (nd o43 (lf o637) (lf o899)) (nd o44 (lf o769) (lf o1031)))) (nd o43 (nd o43 (nd o43 (lf o43) (lf o43)) (nd o473 (lf o44) (lf o44))) (nd o44 (nd o405 (lf o44) (lf o933)) (nd o539 (lf o801) e)))) (nd o91 (nd o44 (nd o191 (nd o43 (lf o587) (lf o44)) (nd o457 (lf o719) (lf o981))) (nd o257 (nd (o389 P) (lf o653) (lf o915)) (nd o43 (lf o43) e))) (nd o43 (nd o223 (nd o355 (lf o621) (lf o883)) (nd o489 (lf o43) (lf o1015))) (nd o43 (nd o423 (lf o43) (lf o43)) (nd o43 (lf o817) e))))) (nd o64 (nd o44 (nd o43 (nd o183 (nd o313 (lf o579) (lf o843)) (nd o44 (lf o44) (lf o43))) (nd o249 (nd o44 (lf o645) (lf o907)) (nd o515 (lf o777) e))) (nd o149 (nd o44 (nd o347 (lf o44) (lf o44)) (nd o481 (lf o743) (lf o1007))) (nd o281 (nd o415 (lf o679) (lf o941)) (nd o547 (lf o809) e)))) (nd o101 (nd o133 (nd o199 (nd o44 (lf o597) (lf o859)) (nd o43 (lf o43) (lf o43))) (nd o43 (nd o43 (lf o43) (lf o925)) (nd o531 (lf o44) e))) (nd o44 (nd o43 (nd o363 (lf o43) (lf o43)) (nd o43 (lf o761) (lf o43))) (nd o297 (nd o431 (lf o695) (lf o44)) (nd o44 (lf o44) e))))))) (nd (boot_o_5 P) (nd (boot_o_9 P) (nd o54 (nd o70 (nd o107 (nd o43 (nd o43 (lf o569) (lf o43)) (nd o437 (lf o701) (lf o43))) (nd o237 (nd o369 (lf o635) (lf o897)) (nd o503 (lf o43) (lf o1029)))) (nd o44 (nd o205 (nd o44 (lf o603) (lf o865)) (nd o471 (lf o733) (lf o995))) (nd o271 (nd o403 (lf o667) (lf o43)) (nd o43 (lf o43) e)))) (nd o89 (nd o123 (nd o189 (nd o319 (lf o44) (lf o849)) (nd o455 (lf o717) (lf o979))) (nd o255 (nd o43 (lf o651) (lf o913)) (nd o44 (lf o783) e))) (nd o155 (nd o43 (nd o43 (lf o43) (lf o43)) (nd o487 (lf o44) (lf o43))) (nd o44 (nd o43 (lf o44) (lf o947)) (nd o553 (lf o815) e))))) (nd o43 (nd o81 (nd o115 (nd o181 (nd o311 (lf o43) (lf o44)) (nd o447 (lf o709) (lf o44))) (nd o43 (nd o377 (lf o43) (lf o43)) (nd o43 (lf o775) e))) (nd o147 (nd o213 (nd o345 (lf o611) (lf o873)) (nd o43 (lf o43) (lf o1005))) (nd o43 (nd o43 (lf o43) (lf o939)) (nd o545 (lf o44) e)))) (nd o43 (nd o43 (nd o197 (nd o329 (lf o595) (lf o43)) (nd o44 (lf o725) (lf o987))) (nd o263 (nd o44 (lf o659) (lf o43)) (nd o529 (lf o791) e))) (nd o165 (nd o44 (nd o361 (lf o44) (lf o44)) (nd o495 (lf o759) (lf o44))) (nd o295 (nd o429 (lf o693) (lf o955)) (nd o561 (lf o823) e)))))) (nd o45 (nd o58 (nd (o77 P) (nd o44 (nd o177 (nd o43 (lf o44) (lf o835)) (nd (o443 P) (lf o705) (lf o967))) (nd o241 (nd o373 (lf o639) (lf o901)) (nd o43 (lf o43) (lf o1033)))) (nd o143 (nd o209 (nd o341 (lf o607) (lf o869)) (nd o475 (lf o43) (lf o999))) (nd o43 (nd o407 (lf o43) (lf o43)) (nd o43 (lf o803) e)))) (nd o93 (nd o43 (nd o43 (nd o325 (lf o43) (lf o43)) (nd o459 (lf o721) (lf o44))) (nd o44 (nd o391 (lf o44) (lf o44)) (nd o525 (lf o787) e))) (nd o161 (nd o225 (nd o43 (lf o623) (lf o885)) (nd o44 (lf o753) (lf o1017))) (nd o291 (nd o43 (lf o689) (lf o951)) (nd o557 (lf o43) e))))) (nd o43 (nd o43 (nd o119 (nd o43 (nd o44 (lf o581) (lf o43)) (nd o43 (lf o713) (lf o975))) (nd o43 (nd o43 (lf o43) (lf o43)) (nd o517 (lf o44) e))) (nd (o151 P) (nd o43 (nd o349 (lf o43) (lf o43)) (nd o43 (lf o745) (lf o44))) (nd o283 (nd o178 (lf o681) (lf o44)) (nd o44 (lf o43) e)))) (nd o43 (nd o135 (nd o44 (nd o333 (lf o44) (lf o861)) (nd o467 (lf o729) (lf o991))) (nd o267 (nd o399 (lf o663) (lf o927)) (nd o533 (lf o43) e))) (nd o43 (nd o233 (nd o44 (lf o631) (lf o893)) (nd o499 (lf o763) (lf o1025))) (nd o299 (nd (o433 P) (lf o697) (lf o43)) (nd o565 (lf o43) e)))))))) (nd (o49 P) (nd (boot_o_4 P) (nd (boot_o_8 P) (nd o44 (nd o69 (nd o43 (nd o172 (nd o302 (lf o44) (lf o830)) (nd o436 (lf o700) (lf o962))) (nd o44 (nd o368 (lf o44) (lf o44)) (nd o502 (lf o766) (lf o44)))) (nd o43 (nd o204 (nd o43 (lf o602) (lf o864)) (nd o44 (lf o732) (lf o994))) (nd o270 (nd (o402 P) (lf o666) (lf o930)) (nd o536 (lf o798) e)))) (nd o88 (nd o122 (nd o188 (nd o318 (lf o43) (lf o848)) (nd o454 (lf o44) (lf o44))) (nd o43 (nd o384 (lf o43) (lf o43)) (nd o43 (lf o782) e))) (nd o154 (nd o220 (nd o352 (lf o618) (lf o880)) (nd o43 (lf o43) (lf o1012))) (nd o43 (nd o420 (lf o43) (lf o946)) (nd o552 (lf o43) e))))) (nd (o61 P) (nd o80 (nd o114 (nd o44 (nd o43 (lf o576) (lf o43)) (nd o446 (lf o708) (lf o43))) (nd o246 (nd o376 (lf o642) (lf o904)) (nd o512 (lf o43) e))) (nd o44 (nd o212 (nd o44 (lf o610) (lf o872)) (nd o478 (lf o740) (lf o44))) (nd o278 (nd (o412 P) (lf o674) (lf o43)) (nd o43 (lf o43) e)))) (nd (o98 P) (nd o130 (nd o43 (nd o328 (lf o43) (lf o856)) (nd o43 (lf o724) (lf o986))) (nd o262 (nd o43 (lf o658) (lf o920)) (nd o44 (lf o790) e))) (nd o164 (nd o43 (nd o43 (lf o43) (lf o43)) (nd o494 (lf o44) (lf o43))) (nd o44 (nd o43 (lf o44) (lf o954)) (nd o560 (lf o822) e)))))) (nd o1002 (nd o57 (nd o60 (nd o43 (nd o176 (nd o306 (lf o43) (lf o43)) (nd o60 (lf o44) (lf o43))) (nd o240 (nd o44 (lf o638) (lf o900)) (nd o508 (lf o770) (lf o1032)))) (nd o142 (nd o44 (nd o340 (lf o44) (lf o44)) (nd o474 (lf o736) (lf o998))) (nd o274 (nd o406 (lf o670) (lf o934)) (nd o540 (lf o43) e)))) (nd o92 (nd o126 (nd o192 (nd o44 (lf o588) (lf o852)) (nd o458 (lf o720) (lf o43))) (nd o43 (nd o43 (lf o43) (lf o43)) (nd o524 (lf o44) e))) (nd o44 (nd o43 (nd o356 (lf o43) (lf o43)) (nd o43 (lf o752) (lf o43))) (nd o290 (nd o424 (lf o688) (lf o44)) (nd o44 (lf o818) e))))) (nd o65 (nd o84 (nd o44 (nd o178 (nd o43 (lf o43) (lf o844)) (nd o450 (lf o712) (lf o974))) (nd o250 (nd o380 (lf o646) (lf o908)) (nd o43 (lf o43) e))) (nd o150 (nd o216 (nd o348 (lf o614) (lf o876)) (nd o482 (lf o43) (lf o43))) (nd o43 (nd o416 (lf o43) (lf o43)) (nd o43 (lf o810) e)))) (nd o102 (nd o43 (nd o43 (nd o332 (lf o43) (lf o860)) (nd o466 (lf o44) (lf o44))) (nd o44 (nd o398 (lf o44) (lf o926)) (nd o532 (lf o794) e))) (nd o168 (nd o232 (nd o43 (lf o630) (lf o892)) (nd o44 (lf o762) (lf o1024))) (nd o298 (nd o432 (lf o696) (lf o958)) (nd o564 (lf o826) e))))))) (nd (boot_o_6 P) (nd (boot_o_10 P) (nd o43 (nd o71 (nd o108 (nd o44 (nd o304 (lf o570) (lf o44)) (nd o438 (lf o702) (lf o44))) (nd o43 (nd o370 (lf o43) (lf o43)) (nd o43 (lf o768) (lf o43)))) (nd o140 (nd o206 (nd o338 (lf o604) (lf o866)) (nd o43 (lf o43) (lf o43))) (nd o43 (nd o404 (lf o43) (lf o932)) (nd o538 (lf o44) e)))) (nd (o90 P) (nd o43 (nd o190 (nd o320 (lf o586) (lf o43)) (nd (o456 P) (lf o43) (lf o980))) (nd o256 (nd o60 (lf o652) (lf o914)) (nd o522 (lf o784) e))) (nd o156 (nd o44 (nd o354 (lf o44) (lf o44)) (nd o488 (lf o750) (lf o44))) (nd o288 (nd o422 (lf o686) (lf o948)) (nd o554 (lf o816) e))))) (nd o44 (nd o43 (nd o116 (nd o182 (nd o312 (lf o44) (lf o842)) (nd o43 (lf o43) (lf o972))) (nd o248 (nd o43 (lf o644) (lf o906)) (nd o44 (lf o776) e))) (nd o148 (nd o43 (nd o43 (lf o43) (lf o43)) (nd o480 (lf o44) (lf o1006))) (nd o44 (nd o414 (lf o44) (lf o940)) (nd o546 (lf o808) e)))) (nd o100 (nd o44 (nd o198 (nd o43 (lf o596) (lf o44)) (nd o43 (lf o726) (lf o988))) (nd o264 (nd o396 (lf o660) (lf o44)) (nd o43 (lf o43) e))) (nd o43 (nd o230 (nd o362 (lf o628) (lf o890)) (nd o496 (lf o43) (lf o1022))) (nd o43 (nd o430 (lf o43) (lf o43)) (nd o43 (lf o43) e)))))) (nd o46 (nd o59 (nd o43 (nd o112 (nd o178 (nd o44 (lf o574) (lf o836)) (nd o43 (lf o43) (lf o968))) (nd o43 (nd o43 (lf o43) (lf o43)) (nd o510 (lf o44) e))) (nd o144 (nd o43 (nd o342 (lf o43) (lf o43)) (nd o43 (lf o738) (lf o1000))) (nd o276 (nd o43 (lf o672) (lf o44)) (nd o44 (lf o804) e)))) (nd o43 (nd o128 (nd o44 (nd o43 (lf o44) (lf o854)) (nd o460 (lf o43) (lf o984))) (nd o260 (nd o392 (lf o656) (lf o918)) (nd o526 (lf o43) e))) (nd o43 (nd o226 (nd o44 (lf o624) (lf o886)) (nd o492 (lf o754) (lf o1018))) (nd o292 (nd o44 (lf o690) (lf o43)) (nd o43 (lf o44) e))))) (nd (o67 P) (nd o86 (nd o43 (nd o44 (nd o316 (lf o582) (lf o44)) (nd o452 (lf o714) (lf o976))) (nd o44 (nd o382 (lf o44) (lf o44)) (nd o518 (lf o780) e))) (nd o152 (nd o218 (nd o43 (lf o616) (lf o878)) (nd o44 (lf o746) (lf o1010))) (nd o284 (nd o43 (lf o682) (lf o944)) (nd o550 (lf o44) e)))) (nd o44 (nd o136 (nd o202 (nd o334 (lf o600) (lf o43)) (nd o468 (lf o43) (lf o43))) (nd o43 (nd o400 (lf o43) (lf o43)) (nd o43 (lf o796) e))) (nd o170 (nd o234 (nd o366 (lf o632) (lf o894)) (nd o43 (lf o43) (lf o1026))) (nd o43 (nd o434 (lf o43) (lf o960)) (nd o566 (lf o828) e)))))))))
def h46 (P:Params):Heap:=⟨⟨[(boot_o_0 P),(boot_o_1 P),(boot_o_2 P),(boot_o_3 P),(boot_o_4 P),(boot_o_5 P),(boot_o_6 P),(boot_o_7 P),(boot_o_8 P),(boot_o_9 P),(boot_o_10 P),o43,o44,o45,o46]⟩,⟨[],[],[],0,[],[],Bool.false,⟨[]⟩,[],0,Bool.false,Bool.false,Bool.false,0,[2000,10,10],Bool.false,0,Bool.true,[],[],0,Bool.false⟩⟩
def h1034 (P:Params):Heap:=⟨⟨[(boot_o_0 P),(boot_o_1 P),(o49 P),(o1001 P),(boot_o_4 P),(boot_o_5 P),(boot_o_6 P),(boot_o_7 P),(boot_o_8 P),(boot_o_9 P),(boot_o_10 P),o43,o1002,o45,o46,o43,o44,o54,o43,o56,o57,o58,o59,o60,(o61 P),o43,o44,o64,o65,o43,(o67 P),o74,o69,o70,o71,o75,o60,(o77 P),o43,o79,o80,o81,o43,o44,o84,o43,o86,o87,o88,o89,(o90 P),o91,o92,o93,o43,o60,(o98 P),o43,o100,o101,o102,o43,o44,o105,o43,o107,o108,o109,o43,o44,o112,o43,o114,o115,o116,o43,o44,o119,o43,o121,o122,o123,o43,o44,o126,o43,o128,o129,o130,o43,o44,o133,o43,o135,o136,o137,o43,o44,o140,o43,o142,o143,o144,o43,o44,o147,o148,o149,o150,(o151 P),o152,o153,o154,o155,o156,o43,o44,o161,o43,o163,o164,o165,o43,o44,o168,o43,o170,o171,o172,o43,o44,o175,o176,o177,o178,o43,o44,o181,o182,o183,o178,o43,o44,o187,o188,o189,o190,o191,o192,o43,o44,o195,o43,o197,o198,o199,o43,o44,o202,o43,o204,o205,o206,o43,o44,o209,o43,o211,o212,o213,o43,o44,o216,o43,o218,o219,o220,o43,o44,o223,o43,o225,o226,o227,o43,o44,o230,o43,o232,o233,o234,o43,o44,o237,o43,o239,o240,o241,o43,o44,o246,o43,o248,o249,o250,o43,o44,o253,o43,o255,o256,o257,o43,o44,o260,o43,o262,o263,o264,o43,o44,o267,o43,o269,o270,o271,o43,o44,o274,o43,o276,o277,o278,o43,o44,o281,o43,o283,o284,o285,o43,o44,o288,o43,o290,o291,o292,o43,o44,o295,o43,o297,o298,o299,o43,o44,o302,o43,o304,o305,o306,o43,o44,o309,o43,o311,o312,o313,o43,o44,o316,o43,o318,o319,o320,o43,o44,o325,o43,o327,o328,o329,o43,o44,o332,o333,o334,o335,o43,o44,o338,o43,o340,o341,o342,o43,o44,o345,o43,o347,o348,o349,o43,o44,o352,o43,o354,o355,o356,o43,o44,o359,o43,o361,o362,o363,o43,o44,o366,o43,o368,o369,o370,o43,o44,o373,o43,o375,o376,o377,o43,o44,o380,o43,o382,o383,o384,o43,o60,(o389 P),o43,o391,o392,o393,o43,o44,o396,o43,o398,o399,o400,o401,(o402 P),o403,o404,o405,o406,o407,o43,o60,(o412 P),o43,o414,o415,o416,o178,o43,o44,o420,o43,o422,o423,o424,o43,o44,o427,o43,o429,o430,o431,o432,(o433 P),o434,o435,o436,o437,o438,o43,o60,(o443 P),o43,o445,o446,o447,o43,o44,o450,o43,o452,o453,o454,o455,(o456 P),o457,o458,o459,o460,o461,o43,o44,o43,o43,o466,o467,o468,o43,o44,o471,o43,o473,o474,o475,o43,o44,o478,o43,o480,o481,o482,o43,o44,o485,o43,o487,o488,o489,o43,o44,o492,o43,o494,o495,o496,o43,o44,o499,o43,o501,o502,o503,o43,o44,o508,o43,o510,o511,o512,o43,o44,o515,o43,o517,o518,o519,o43,o44,o522,o43,o524,o525,o526,o43,o44,o529,o43,o531,o532,o533,o43,o44,o536,o43,o538,o539,o540,o43,o44,o543,o43,o545,o546,o547,o43,o44,o550,o43,o552,o553,o554,o43,o44,o557,o43,o559,o560,o561,o43,o44,o564,o565,o566,o43,o44,o569,o570,o571,o43,o44,o574,o575,o576,o43,o44,o579,o43,o581,o582,o583,o43,o44,o586,o587,o588,o43,o44,o593,o43,o595,o596,o597,o43,o44,o600,o43,o602,o603,o604,o43,o44,o607,o43,o609,o610,o611,o43,o44,o614,o43,o616,o617,o618,o43,o44,o621,o43,o623,o624,o625,o43,o44,o628,o43,o630,o631,o632,o43,o44,o635,o43,o637,o638,o639,o43,o44,o642,o43,o644,o645,o646,o43,o44,o649,o43,o651,o652,o653,o43,o44,o656,o43,o658,o659,o660,o43,o44,o663,o43,o665,o666,o667,o43,o44,o670,o43,o672,o673,o674,o43,o44,o679,o43,o681,o682,o683,o43,o44,o686,o43,o688,o689,o690,o43,o44,o693,o43,o695,o696,o697,o43,o44,o700,o701,o702,o43,o44,o705,o43,o707,o708,o709,o43,o44,o712,o713,o714,o43,o44,o717,o43,o719,o720,o721,o43,o44,o724,o725,o726,o43,o44,o729,o43,o731,o732,o733,o43,o44,o736,o43,o738,o739,o740,o43,o44,o743,o43,o745,o746,o747,o43,o44,o750,o43,o752,o753,o754,o43,o44,o759,o43,o761,o762,o763,o43,o44,o766,o43,o768,o769,o770,o43,o44,o773,o43,o775,o776,o777,o43,o44,o780,o43,o782,o783,o784,o43,o44,o787,o43,o789,o790,o791,o43,o44,o794,o43,o796,o797,o798,o43,o44,o801,o43,o803,o804,o805,o43,o44,o808,o809,o810,o43,o44,o813,o43,o815,o816,o817,o818,o43,o44,o821,o822,o823,o43,o44,o826,o43,o828,o829,o830,o43,o44,o833,o43,o835,o836,o837,o43,o44,o842,o843,o844,o43,o44,o847,o848,o849,o43,o44,o852,o43,o854,o855,o856,o43,o44,o859,o860,o861,o43,o44,o864,o865,o866,o43,o44,o869,o43,o871,o872,o873,o43,o44,o876,o43,o878,o879,o880,o43,o44,o883,o43,o885,o886,o887,o43,o44,o890,o43,o892,o893,o894,o43,o44,o897,o43,o899,o900,o901,o43,o44,o904,o43,o906,o907,o908,o43,o44,o911,o43,o913,o914,o915,o43,o44,o918,o919,o920,o43,o44,o925,o926,o927,o43,o44,o930,o43,o932,o933,o934,o43,o44,o937,o43,o939,o940,o941,o43,o44,o944,o43,o946,o947,o948,o43,o44,o951,o43,o953,o954,o955,o43,o44,o958,o43,o960,o961,o962,o43,o44,o965,o43,o967,o968,o969,o43,o44,o972,o43,o974,o975,o976,o43,o44,o979,o980,o981,o43,o44,o984,o43,o986,o987,o988,o43,o44,o991,o43,o993,o994,o995,o43,o44,o998,o999,o1000,o43,o44,o1005,o1006,o1007,o43,o44,o1010,o1011,o1012,o43,o44,o1015,o43,o1017,o1018,o1019,o43,o44,o1022,o43,o1024,o1025,o1026,o43,o44,o1029,o43,o1031,o1032,o1033]⟩,⟨[],[],[],0,[],[],Bool.false,⟨[]⟩,[],0,Bool.false,Bool.false,Bool.false,0,[2000,10,10],Bool.false,0,Bool.true,[],[],0,Bool.false⟩⟩
def env:Env:={ scope:=pw.main.scope,locals:=mainNs,globals:=mainNs,cells:=[],code:=.ref 13,frame:=some 14 }
def p0:Pos:=⟨0,0,0,0⟩
abbrev cd:Code:=.body (behindTheImports pw) env
def st (t:Params → BT) (n k:Nat) (w:World) (os:OsState):SharedT:=⟨t w.params,n,{},⟨[]⟩,{},k,os⟩
theorem pre_:(fun (w:World) (os:OsState)=>topGo treeTable pw w 11 (some (.ref 6)) 12 ⟨boot_heap w.params,⟨[]⟩,boot_drawn,boot_toks,os⟩ (topStub pw)) = fun w os=>some (⟨h46 w.params,⟨[]⟩,{},187,os⟩,⟨denote treeTable cd,cd,p0,[topFrame p0]⟩):=by
  rewrite [PySem.W.Fast.te15667345088766844465,PySem.W.Fast.te14364793385576792824,PySem.W.Fast.te11892475500146522536]; kernel_rfl
theorem block_:(fun (w:World) (os:OsState)=>segRun treeTable pw w 11 (some (.ref 6)) 1 1 ⟨h46 w.params,⟨[]⟩,{},187,os⟩ (blockOf (behindTheImports pw) env cd p0 [topFrame p0])) = fun w os=>some (.next,(st t47 15 187 w os).abs,cd,p0):=by
  rewrite [PySem.W.Fast.te14374325043358763698,PySem.W.Fast.te14364793385576792824]; kernel_rfl
def g0:List Stmt:=(pw.main.body.drop 0).take 3
theorem run0:(fun (w:World) (os:OsState)=>segRunT treeTable pw w 11 (some (.ref 6)) 1 235 (st t47 15 187 w os) (piecesOf g0 env cd p0 [topFrame p0])) = fun w os=>some (.next,st t71 35 216 w os,cd,⟨5,0,6,8⟩):=by
  rewrite [PySem.W.Fast.te10110043849684766642,PySem.W.Fast.te14364793385576792824]; kernel_rfl
def g1:List Stmt:=(pw.main.body.drop 3).take 2
theorem run1:(fun (w:World) (os:OsState)=>segRunT treeTable pw w 11 (some (.ref 6)) 1 255 (st t71 35 216 w os) (piecesOf g1 env cd ⟨5,0,6,8⟩ [topFrame p0])) = fun w os=>some (.next,st t93 54 243 w os,cd,⟨11,0,11,8⟩):=by
  rewrite [PySem.W.Fast.te10110043849684766642,PySem.W.Fast.te14364793385576792824]; kernel_rfl
def g2:List Stmt:=(pw.main.body.drop 5).take 1
theorem run2:(fun (w:World) (os:OsState)=>segRunT treeTable pw w 11 (some (.ref 6)) 1 419 (st t93 54 243 w os) (piecesOf g2 env cd ⟨11,0,11,8⟩ [topFrame p0])) = fun w os=>some (.next,st t156 115 326 w os,cd,⟨12,0,64,82⟩):=by
  rewrite [PySem.W.Fast.te10110043849684766642,PySem.W.Fast.te14364793385576792824]; kernel_rfl
def g3:List Stmt:=(pw.main.body.drop 6).take 16
theorem run3:(fun (w:World) (os:OsState)=>segRunT treeTable pw w 11 (some (.ref 6)) 1 395 (st t156 115 326 w os) (piecesOf g3 env cd ⟨12,0,64,82⟩ [topFrame p0])) = fun w os=>some (.next,st t241 198 426 w os,cd,⟨132,0,136,44⟩):=by
  rewrite [PySem.W.Fast.te10110043849684766642,PySem.W.Fast.te14364793385576792824]; kernel_rfl
def g4:List Stmt:=(pw.main.body.drop 22).take 13
theorem run4:(fun (w:World) (os:OsState)=>segRunT treeTable pw w 11 (some (.ref 6)) 1 378 (st t241 198 426 w os) (piecesOf g4 env cd ⟨132,0,136,44⟩ [topFrame p0])) = fun w os=>some (.next,st t320 275 547 w os,cd,⟨216,0,235,32⟩):=by
  rewrite [PySem.W.Fast.te10110043849684766642,PySem.W.Fast.te14364793385576792824]; kernel_rfl
def g5:List Stmt:=(pw.main.body.drop 35).take 10
theorem run5:(fun (w:World) (os:OsState)=>segRunT treeTable pw w 11 (some (.ref 6)) 1 299 (st t320 275 547 w os) (piecesOf g5 env cd ⟨216,0,235,32⟩ [topFrame p0])) = fun w os=>some (.next,st t384 337 641 w os,cd,⟨327,0,327,8⟩):=by
  rewrite [PySem.W.Fast.te10110043849684766642,PySem.W.Fast.te14364793385576792824]; kernel_rfl
def g6:List Stmt:=(pw.main.body.drop 45).take 1
theorem run6:(fun (w:World) (os:OsState)=>segRunT treeTable pw w 11 (some (.ref 6)) 1 223 (st t384 337 641 w os) (piecesOf g6 env cd ⟨327,0,327,8⟩ [topFrame p0])) = fun w os=>some (.next,st t407 358 670 w os,cd,⟨328,0,332,25⟩):=by
  rewrite [PySem.W.Fast.te10110043849684766642,PySem.W.Fast.te14364793385576792824]; kernel_rfl
def g7:List Stmt:=(pw.main.body.drop 46).take 1
theorem run7:(fun (w:World) (os:OsState)=>segRunT treeTable pw w 11 (some (.ref 6)) 1 261 (st t407 358 670 w os) (piecesOf g7 env cd ⟨328,0,332,25⟩ [topFrame p0])) = fun w os=>some (.next,st t438 387 712 w os,cd,⟨333,0,343,16⟩):=by
  rewrite [PySem.W.Fast.te10110043849684766642,PySem.W.Fast.te14364793385576792824]; kernel_rfl
def g8:List Stmt:=(pw.main.body.drop 47).take 7
theorem run8:(fun (w:World) (os:OsState)=>segRunT treeTable pw w 11 (some (.ref 6)) 1 399 (st t438 387 712 w os) (piecesOf g8 env cd ⟨333,0,343,16⟩ [topFrame p0])) = fun w os=>some (.next,st t503 450 785 w os,cd,⟨360,0,370,12⟩):=by
  rewrite [PySem.W.Fast.te10110043849684766642,PySem.W.Fast.te14364793385576792824]; kernel_rfl
def g9:List Stmt:=(pw.main.body.drop 54).take 14
theorem run9:(fun (w:World) (os:OsState)=>segRunT treeTable pw w 11 (some (.ref 6)) 1 382 (st t503 450 785 w os) (piecesOf g9 env cd ⟨360,0,370,12⟩ [topFrame p0])) = fun w os=>some (.next,st t588 533 881 w os,cd,⟨450,0,454,86⟩):=by
  rewrite [PySem.W.Fast.te10110043849684766642,PySem.W.Fast.te14364793385576792824]; kernel_rfl
def g10:List Stmt:=(pw.main.body.drop 68).take 14
theorem run10:(fun (w:World) (os:OsState)=>segRunT treeTable pw w 11 (some (.ref 6)) 1 387 (st t588 533 881 w os) (piecesOf g10 env cd ⟨450,0,454,86⟩ [topFrame p0])) = fun w os=>some (.next,st t674 617 989 w os,cd,⟨528,0,541,30⟩):=by
  rewrite [PySem.W.Fast.te10110043849684766642,PySem.W.Fast.te14364793385576792824]; kernel_rfl
def g11:List Stmt:=(pw.main.body.drop 82).take 14
theorem run11:(fun (w:World) (os:OsState)=>segRunT treeTable pw w 11 (some (.ref 6)) 1 374 (st t674 617 989 w os) (piecesOf g11 env cd ⟨528,0,541,30⟩ [topFrame p0])) = fun w os=>some (.next,st t754 695 1090 w os,cd,⟨615,0,621,15⟩):=by
  rewrite [PySem.W.Fast.te10110043849684766642,PySem.W.Fast.te14364793385576792824]; kernel_rfl
def g12:List Stmt:=(pw.main.body.drop 96).take 13
theorem run12:(fun (w:World) (os:OsState)=>segRunT treeTable pw w 11 (some (.ref 6)) 1 376 (st t754 695 1090 w os) (piecesOf g12 env cd ⟨615,0,621,15⟩ [topFrame p0])) = fun w os=>some (.next,st t837 776 1197 w os,cd,⟨709,0,713,102⟩):=by
  rewrite [PySem.W.Fast.te10110043849684766642,PySem.W.Fast.te14364793385576792824]; kernel_rfl
def g13:List Stmt:=(pw.main.body.drop 109).take 14
theorem run13:(fun (w:World) (os:OsState)=>segRunT treeTable pw w 11 (some (.ref 6)) 1 392 (st t837 776 1197 w os) (piecesOf g13 env cd ⟨709,0,713,102⟩ [topFrame p0])) = fun w os=>some (.next,st t920 857 1305 w os,cd,⟨775,0,781,79⟩):=by
  rewrite [PySem.W.Fast.te10110043849684766642,PySem.W.Fast.te14364793385576792824]; kernel_rfl
def g14:List Stmt:=(pw.main.body.drop 123).take 13
theorem run14:(fun (w:World) (os:OsState)=>segRunT treeTable pw w 11 (some (.ref 6)) 1 376 (st t920 857 1305 w os) (piecesOf g14 env cd ⟨775,0,781,79⟩ [topFrame p0])) = fun w os=>some (.next,st t1000 935 1415 w os,cd,⟨844,0,846,80⟩):=by
  rewrite [PySem.W.Fast.te10110043849684766642,PySem.W.Fast.te14364793385576792824]; kernel_rfl
def g15:List Stmt:=(pw.main.body.drop 136).take 5
theorem run15:(fun (w:World) (os:OsState)=>segRunT treeTable pw w 11 (some (.ref 6)) 1 150 (st t1000 935 1415 w os) (piecesOf g15 env cd ⟨844,0,846,80⟩ [topFrame p0])) = fun w os=>some (.next,st t1033 966 1458 w os,cd,⟨910,0,926,77⟩):=by
  rewrite [PySem.W.Fast.te10110043849684766642,PySem.W.Fast.te14364793385576792824]; kernel_rfl
theorem fin_:(fun (w:World) (os:OsState)=>topRun treeTable pw w 11 (some (.ref 6)) 2 (st t1033 966 1458 w os).abs ⟨doneF .next,cd,⟨910,0,926,77⟩,[topFrame p0]⟩) = fun w os=>some ⟨h1034 w.params,⟨[]⟩,{},1458,os⟩:=by
  rewrite [PySem.W.Fast.te14082659384304107361,PySem.W.Fast.te14364793385576792824]; kernel_rfl
end
end Mine
end
section
open PySem PySem.W PyProof.Rows
set_option maxHeartbeats 0
namespace Mine
abbrev rL:OpenRow:=PySem.Challenge.rw_pq1345_01.row
noncomputable def qv:Program:={ pw with main:={ pw.main with body:=[cell 140] } }
noncomputable def loose:List Str:=(pw.main.body.take 140).filterMap fun st=>match st with
  | .FunctionDef n _ _ _ _ _ _ _ _ _=>some n
  | .ClassDef n _ _ _ _ _ _ _ _ _ _=>some n
  | .Assign [.Name n _] _ _=>some n
  | _=>none
theorem run_ (w:World) (os:OsState):topRun treeTable pw w 11 (some (.ref 6)) (12 + (1 + (235 + (255 + (419 + (395 + (378 + (299 + (223 + (261 + (399 + (382 + (387 + (374 + (376 + (392 + (376 + (150 + 2)))))))))))))))))) ⟨boot_heap w.params,⟨[]⟩,boot_drawn,boot_toks,os⟩ (topStub pw) = some ⟨h1034 w.params,⟨[]⟩,{},1458,os⟩:=by
  have e:behindTheImports pw = g0 ++ (g1 ++ (g2 ++ (g3 ++ (g4 ++ (g5 ++ (g6 ++ (g7 ++ (g8 ++ (g9 ++ (g10 ++ (g11 ++ (g12 ++ (g13 ++ (g14 ++ (g15 ++ []))))))))))))))):=by kernel_rfl
  have k:topRun treeTable pw w 11 (some (.ref 6)) (235 + (255 + (419 + (395 + (378 + (299 + (223 + (261 + (399 + (382 + (387 + (374 + (376 + (392 + (376 + (150 + 2)))))))))))))))) (st t47 15 187 w os).abs (restOf (behindTheImports pw) env cd p0 [topFrame p0]) = some ⟨h1034 w.params,⟨[]⟩,{},1458,os⟩:=by
    conv=>lhs; rw [show restOf (behindTheImports pw) env cd p0 [topFrame p0] = restOf (g0 ++ (g1 ++ (g2 ++ (g3 ++ (g4 ++ (g5 ++ (g6 ++ (g7 ++ (g8 ++ (g9 ++ (g10 ++ (g11 ++ (g12 ++ (g13 ++ (g14 ++ (g15 ++ [])))))))))))))))) env cd p0 [topFrame p0] from congrArg (fun b=>restOf b env cd p0 [topFrame p0]) e]
    refine piece_app (segRun_of (congrFun (congrFun run0 w) os)) ?_
    refine piece_app (segRun_of (congrFun (congrFun run1 w) os)) ?_
    refine piece_app (segRun_of (congrFun (congrFun run2 w) os)) ?_
    refine piece_app (segRun_of (congrFun (congrFun run3 w) os)) ?_
    refine piece_app (segRun_of (congrFun (congrFun run4 w) os)) ?_
    refine piece_app (segRun_of (congrFun (congrFun run5 w) os)) ?_
    refine piece_app (segRun_of (congrFun (congrFun run6 w) os)) ?_
    refine piece_app (segRun_of (congrFun (congrFun run7 w) os)) ?_
    refine piece_app (segRun_of (congrFun (congrFun run8 w) os)) ?_
    refine piece_app (segRun_of (congrFun (congrFun run9 w) os)) ?_
    refine piece_app (segRun_of (congrFun (congrFun run10 w) os)) ?_
    refine piece_app (segRun_of (congrFun (congrFun run11 w) os)) ?_
    refine piece_app (segRun_of (congrFun (congrFun run12 w) os)) ?_
    refine piece_app (segRun_of (congrFun (congrFun run13 w) os)) ?_
    refine piece_app (segRun_of (congrFun (congrFun run14 w) os)) ?_
    refine piece_app (segRun_of (congrFun (congrFun run15 w) os)) ?_
    exact piece_nil (congrFun (congrFun fin_ w) os)
  exact go_top (congrFun (congrFun pre_ w) os) (piece_block (congrFun (congrFun block_ w) os) k)
theorem open_:∀ w:World,(fencedOpening treeTable pw w 6000).map (fun s=>(s.heap,s.gens,s.drawn,s.toks)) = some (boot_heap w.params,Array.mk [],boot_drawn,boot_toks) :=
  boot_open (by kernel_rfl) (by decide) (fun s=>by kernel_rfl)
theorem size_:(fun w:World=>((boot_heap w.params).isNs mainGlobals && (Array.mk ([]:List GenState)).size == 0,(boot_heap w.params).objs.size,(boot_heap w.params).nsMap mainGlobals "__annotations__")) = fun _=>(true,11,some (.ref 6)):=by kernel_rfl
end Mine
end
section
open PySem PySem.W PyProof.Rows
set_option maxHeartbeats 0
namespace Mine
noncomputable def kas:List Addr:=[2,3,15,17,18,20,21,22,29,30,31,32,35,42,44,45,47,48,49,50,51,61,63,64,66,67,68,70,71,73,74,75,77,78,80,81,82,84,85,87,88,89,91,92,94,95,96,98,99,101,102,103,106,107,108,109,110,111,112,115,117,118,120,121,122,124,125,127,128,129,132,133,134,135,138,139,140,141,144,145,146,147,148,149,151,152,154,155,156,158,159,161,162,163,165,166,168,169,170,172,173,175,176,177,179,180,182,183,184,186,187,189,190,191,193,194,196,197,198,200,201,203,204,205,207,208,210,211,212,214,215,217,218,219,221,222,224,225,226,228,229,231,232,233,235,236,238,239,240,242,243,245,246,247,249,250,252,253,254,256,257,259,260,261,263,264,266,267,268,270,271,273,274,275,277,278,280,281,282,285,286,287,288,290,291,293,294,295,297,298,300,301,302,304,305,307,308,309,311,312,314,315,316,318,319,321,322,323,325,326,328,329,330,332,333,335,336,344,346,347,349,350,351,352,353,354,355,365,366,368,369,371,372,373,375,376,378,379,380,381,382,383,384,394,396,397,399,400,401,402,403,404,405,408,410,411,413,414,415,417,418,420,421,422,424,425,427,428,429,431,432,434,435,436,438,439,441,442,443,445,446,448,449,450,452,453,455,456,457,459,460,462,463,464,466,467,469,470,471,473,474,476,477,478,480,481,483,484,485,487,488,490,491,492,494,495,497,498,499,501,502,504,505,506,509,510,511,514,515,516,519,520,521,523,524,526,527,528,531,532,533,535,536,538,539,540,542,543,545,546,547,549,550,552,553,554,556,557,559,560,561,563,564,566,567,568,570,571,573,574,575,577,578,580,581,582,584,585,587,588,589,591,592,594,595,596,598,599,601,602,603,605,606,608,609,610,612,613,615,616,617,619,620,622,623,624,626,627,629,630,631,633,634,636,637,638,641,642,643,645,646,648,649,650,653,654,655,657,658,660,661,662,665,666,667,669,670,672,673,674,676,677,679,680,681,683,684,686,687,688,690,691,693,694,695,697,698,700,701,702,704,705,707,708,709,711,712,714,715,716,718,719,721,722,723,725,726,728,729,730,732,733,735,736,737,739,740,742,743,744,747,748,749,751,752,754,755,756,757,760,761,762,764,765,767,768,769,771,772,774,775,776,779,780,781,784,785,786,788,789,791,792,793,796,797,798,801,802,803,805,806,808,809,810,812,813,815,816,817,819,820,822,823,824,826,827,829,830,831,833,834,836,837,838,840,841,843,844,845,847,848,850,851,852,855,856,857,860,861,862,864,865,867,868,869,871,872,874,875,876,878,879,881,882,883,885,886,888,889,890,892,893,895,896,897,899,900,902,903,904,906,907,909,910,911,914,915,916,918,919,921,922,923,925,926,928,929,930,933,934,935,938,939,940,943,944,945,947,948,950,951,952,954,955,957,958,959,961,962,964,965]
noncomputable def KP (P:Params):Frag:=kas.map fun a=>(a,((t1033 P).get a).getD ⟨.none,none,.freed,#[]⟩)
theorem kas_ (P:Params):kas = (KP P).map (·.1):=by kernel_rfl
noncomputable def KH:Hook:=kHook KP kas kas_
noncomputable def sf (w:World) (os:OsState):Shared:=⟨h1034 w.params,⟨[]⟩,{},1458,os⟩
theorem lookA:(fun (w:World) (os:OsState)=>(staticsOk (importedModules pw.main.body) (boot_heap w.params) (h1034 w.params) && namesBound pw (h1034 w.params) && gensDone (sf w os) && laidKept (boot_heap w.params) (h1034 w.params))) = fun _ _=>true:=by
  rewrite [PySem.W.Fast.te5923862056798008813]; kernel_rfl
noncomputable def pick (f:Obj → Option Obj):List Obj → Nat → List Addr → List (Option Obj)
  | [],_,as=>as.map fun _=>none
  | o :: os,i,as=>match as with
    | []=>[]
    | a :: r=>bif Nat.beq a i then f o :: pick f os (i + 1) r else pick f os (i + 1) (a :: r)
noncomputable def incr:Nat → List Addr → Bool
  | _,[]=>true
  | i,a :: r=>Nat.ble i a && incr (a + 1) r
theorem incr_mono {i j:Nat} (h:i ≤ j):∀ {as},incr j as = true → incr i as = true
  | [],_=>rfl
  | a :: r,e=>by
    have e:=Bool.and_eq_true_iff.mp e
    exact Bool.and_eq_true_iff.mpr ⟨Nat.ble_eq.mpr (Nat.le_trans h (Nat.ble_eq.mp e.1)),e.2⟩
theorem incr_ge:∀ {i:Nat} {as:List Addr},incr i as = true → ∀ a ∈ as,i ≤ a
  | _,[],_,a,h=>nomatch h
  | i,b :: r,e,a,h=>by
    have e:=Bool.and_eq_true_iff.mp e
    have hb:=Nat.ble_eq.mp e.1
    rcases List.mem_cons.mp h with rfl | h
    · exact hb
    · exact Nat.le_trans hb (Nat.le_of_lt (incr_ge e.2 a h))
theorem pick_eq (f:Obj → Option Obj):∀ (os:List Obj) (i:Nat) (as:List Addr),incr i as = true → as.map (fun a=>(os[a - i]?).bind f) = pick f os i as
  | [],_,as,_=>by
    show _ = as.map fun _=>none
    exact List.map_congr_left fun a _=>rfl
  | o :: os,i,[],_=>rfl
  | o :: os,i,a :: r,h=>by
    have e:=Bool.and_eq_true_iff.mp h
    have hi:=Nat.ble_eq.mp e.1
    have st:∀ as:List Addr,incr (i + 1) as = true → as.map (fun a=>((o :: os)[a - i]?).bind f) = pick f os (i + 1) as:=fun as h=>by
      rw [← pick_eq f os (i + 1) as h]
      refine List.map_congr_left fun b hb=>?_
      have:=incr_ge h b hb
      rw [show b - i = (b - (i + 1)) + 1 by omega]
      rfl
    show _ = bif Nat.beq a i then f o :: pick f os (i + 1) r else pick f os (i + 1) (a :: r)
    cases q:Nat.beq a i with
    | true =>
      obtain rfl:=Nat.eq_of_beq_eq_true q
      show ((o :: os)[a - a]?).bind f :: r.map _ = f o :: pick f os (a + 1) r
      rw [st r e.2,Nat.sub_self]
      rfl
    | false =>
      have hne:a ≠ i:=fun h=>by rw [h,Nat.beq_refl] at q; cases q
      exact st (a :: r) (Bool.and_eq_true_iff.mpr ⟨Nat.ble_eq.mpr (Nat.lt_of_le_of_ne hi (Ne.symm hne)),e.2⟩)
noncomputable def live (o:Obj):Option Obj:=bif o.isFreed then none else some o
theorem get_live (h:Heap) (a:Addr):h.get? a = (h.objs[a]?).bind live:=by
  refine Option.ext fun o=>?_
  rw [show (h.get? a = some o) = _ from propext Heap.get?_some_iff]
  cases h.objs[a]? with
  | none=>simp
  | some x =>
    constructor
    · rintro ⟨h1,h2⟩
      cases h1
      show live o = some o
      unfold live
      rw [h2]
      rfl
    · intro h
      have h:(bif x.isFreed then none else some x) = some o:=h
      cases q:x.isFreed with
      | true=>rw [q] at h; exact nomatch (show none = some o from h)
      | false=>rw [q] at h; obtain rfl:=Option.some.inj h; exact ⟨rfl,q⟩
theorem obs_pick (h:Heap) {as:List Addr} (hi:incr 0 as = true):as.map h.get? = pick live h.objs.toList 0 as:=by
  rw [← pick_eq live _ 0 as hi]
  refine List.map_congr_left fun a _=>?_
  rw [get_live,Nat.sub_zero,Array.getElem?_toList]
theorem kincr:incr 0 kas = true:=by kernel_rfl
theorem lookC2:(fun P:Params=>pick live (h1034 P).objs.toList 0 kas) = fun P=>(KP P).map fun p=>some p.2:=by kernel_rfl
theorem lookC:(fun (w:World) (os:OsState)=>KH.obs (sf w os)) = fun w _=>KH.val w:=by
  funext w os
  exact (obs_pick (h1034 w.params) kincr).trans (congrFun lookC2 w.params)
noncomputable abbrev xt:Shared → Bool:=fun s=>xlAt qv [] s && recOk (RowW.records rL.toRowW) s
theorem lookB:(fun (w:World) (os:OsState)=>openSeen qv loose (importedModules pw.main.body) xt true (sf w os)) = fun _ _=>openGood qv loose:=by
  unfold openSeen openGood
  (try rewrite [PySem.W.Fast.te5160383126252970620]); (try rewrite [PySem.W.R.mapR_eq]); (try rewrite [PySem.W.Fast.te3399658132070893891]); (try rewrite [PySem.W.Fast.te5991557255702980513]); (try rewrite [PySem.W.Fast.te10880121769531294198]); (try rewrite [PySem.W.Fast.te821141287760084731]); (try rewrite [PySem.W.Fast.te7409074990110511671]); (try rewrite [PySem.W.Fast.te13664370479719496447]); (try rewrite [PySem.W.Fast.te14722251495701143533]); (try rewrite [PySem.W.Fast.te10994771534591457954]); (try rewrite [PySem.W.Fast.te479339242167458305]); (try rewrite [PySem.W.Fast.te16090120013241838585]); (try rewrite [PySem.W.Fast.te3247288618530077131]); (try rewrite [PySem.W.Fast.te2386780881361962483]); (try rewrite [PySem.W.Fast.te11698064438423848299]); (try rewrite [PySem.W.Fast.te7317090234206586261]); (try rewrite [PySem.W.Fast.te7369524293546568484]); (try rewrite [PySem.W.Fast.te5923862056798008813])
  kernel_rfl
theorem left_:LeftO rL.prog qv loose xt KH.obs KH.val 6000 :=
  LeftO.of_pieces (p:=pw) open_ (fun w=>congrFun size_ w) run_ (by decide) fun w=>by
    funext os
    exact looks_pair (congrFun (congrFun lookA w) os) (looks_pair (congrFun (congrFun lookB w) os) (congrFun (congrFun lookC w) os))
end Mine
end
section
open PySem PySem.W PyProof.Rows
set_option maxHeartbeats 0
namespace Mine
noncomputable def dLaw:DefRec:=match cell 140 with
  | .FunctionDef n a b _ _ _ sc _ _ pos=>⟨n,a,b,sc,pos⟩
  | _=>⟨"",⟨[],[],none,[],[],none,[]⟩,[],default,⟨0,0,0,0⟩⟩
theorem def_:defOf qv rL.name = some (dLaw,[]):=by kernel_rfl
theorem the_:rL.prog.theDef rL.name = some (dLaw.params,dLaw.body,dLaw.scope):=by kernel_rfl
theorem kw_:kwWritten? dLaw.params.kwonlyargs dLaw.params.kw_defaults = some []:=by kernel_rfl
theorem chains_:chainsOk qv = true:=by kernel_rfl
theorem opens_:opensWell pw = true:=by kernel_rfl
theorem frees_:(frees rL.toRowW && rL.within.isEmpty) = true:=by kernel_rfl
theorem tabs_:Program.tablesWhole pw = true:=by kernel_rfl
theorem witness:rL.toRowW.promised:=by
  w_witness2
theorem head (call:WalkO qv loose (XL qv []) KH.says rL.toRowW dLaw [] fun f vs=>PySem.call f vs):PySem.Challenge.rw_pq1345_01.Holds :=
  holds_law said fun ok=>holds_open (r:=rL) left_ KH.of KH.keeps (fun s e=>xl_of s (Bool.and_eq_true_iff.mp e).1) XL.keeps def_ the_ kw_ (fun s e=>recFacts_of (Bool.and_eq_true_iff.mp e).2) rfl ok
    (look_both (look_both chains_ opens_) frees_) ⟨rfl,rfl,rfl,rfl,rfl,tabs_⟩ witness call
end Mine
end
section
open PySem PySem.W PyProof.Rows
namespace Mine
section
universe u v x y
variable {α:Type u} {β:Type v} {γ:Type x} {δ:Type y} {C:Prop}
theorem bd1 {o:Option α} {f:α → Option β} {r:β} (h:o.bind f = some r) (k:∀ a,o = some a → f a = some r → C):C:=by
  cases o with
  | none=>cases h
  | some a=>exact k a rfl h
theorem bd2 {o:Option (α × γ)} {f:α × γ → Option β} {r:β} (h:o.bind f = some r) (k:∀ a b,o = some (a,b) → f (a,b) = some r → C):C:=bd1 h fun a=>k a.1 a.2
theorem bd3 {o:Option (α × γ × δ)} {f:α × γ × δ → Option β} {r:β} (h:o.bind f = some r) (k:∀ a b c,o = some (a,b,c) → f (a,b,c) = some r → C):C:=bd1 h fun a=>k a.1 a.2.1 a.2.2
theorem mp1 {o:Option α} {f:α → β} {r:β} (h:o.map f = some r) (k:∀ a,o = some a → f a = r → C):C:=by
  cases o with
  | none=>cases h
  | some a=>exact k a rfl (Option.some.inj h)
theorem mp2 {o:Option (α × γ)} {f:α × γ → β} {r:β} (h:o.map f = some r) (k:∀ a b,o = some (a,b) → f (a,b) = r → C):C:=mp1 h fun a=>k a.1 a.2
theorem mp3 {o:Option (α × γ × δ)} {f:α × γ × δ → β} {r:β} (h:o.map f = some r) (k:∀ a b c,o = some (a,b,c) → f (a,b,c) = r → C):C:=mp1 h fun a=>k a.1 a.2.1 a.2.2
theorem mt (h:(none:Option α) = some a):C:=nomatch h
theorem ff (h:false = true):C:=nomatch h
@[elab_as_elim] theorem so1 {a b:α} {C:α → Prop} (h:some a = some b) (k:C a):C b:=by cases h; exact k
@[elab_as_elim] theorem so2 {a:α} {a':β} {b:α} {b':β} {C:α → β → Prop} (h:some (a,a') = some (b,b')) (k:C a a'):C b b':=by cases h; exact k
@[elab_as_elim] theorem so3 {a:α} {a':β} {a'':γ} {b:α} {b':β} {b'':γ} {C:α → β → γ → Prop} (h:some (a,a',a'') = some (b,b',b'')) (k:C a a' a''):C b b' b'':=by cases h; exact k
@[elab_as_elim] theorem pr2 {a:α} {a':β} {b:α} {b':β} {C:α → β → Prop} (h:(a,a') = (b,b')) (k:C a a'):C b b':=by cases h; exact k
@[elab_as_elim] theorem pr3 {a:α} {a':β} {a'':γ} {b:α} {b':β} {b'':γ} {C:α → β → γ → Prop} (h:(a,a',a'') = (b,b',b'')) (k:C a a' a''):C b b' b'':=by cases h; exact k
theorem ifs {c:Prop} [Decidable c] {a:Option α} {r:α} (h:(if c then a else none) = some r) (k:c → a = some r → C):C:=by
  split at h
  · exact k ‹_› h
  · cases h
theorem ifn {c:Prop} [Decidable c] {a:Option α} {r:α} (h:(if c then none else a) = some r) (k:¬c → a = some r → C):C:=by
  split at h
  · cases h
  · exact k ‹_› h
theorem ifb {b:Bool} {a:Option α} {r:α} (h:(if b = true then a else none) = some r) (k:b = true → a = some r → C):C:=ifs h k
theorem ifbn {b:Bool} {a:Option α} {r:α} (h:(if b = true then none else a) = some r) (k:b = false → a = some r → C):C:=ifn h fun q=>k (Bool.eq_false_iff.mpr q)
end
end Mine
end
section
open PySem PySem.W PyProof.Rows
namespace Mine
inductive V where
  | none
  | bool (b:Bool)
  | int (i:Int)
  | str (s:PySem.Str)
  | fn (v:Value)
  | tup (vs:List V)
  | list (vs:List V)
  | dict (es:List (PySem.Str × V))
  | inst (C:Addr) (fs:List (PySem.Str × V))
  | rng (n:Nat)
  | own (k:Nat)
inductive O where
  | list (vs:List V)
  | dict (es:List (PySem.Str × V))
  | inst (C:Addr) (fs:List (PySem.Str × V))
  | frz (t:V)
noncomputable abbrev S:=PySem.Str
noncomputable abbrev En:=List (S × V)
noncomputable abbrev Zo:=List O
noncomputable abbrev Ks:=List (S × NameKind)
noncomputable def setE (x:S) (v:V):List (S × V) → List (S × V)
  | []=>[(x,v)]
  | (y,w) :: r=>if y = x then (x,v) :: r else (y,w) :: setE x v r
noncomputable def O.mut:O → Bool
  | .frz _=>false
  | _=>true
noncomputable def mutAt (z:Zo) (k:Nat):Bool:=match z[k]? with
  | some o=>o.mut
  | none=>false
noncomputable def frzLf (f:V → Zo → Option (V × Zo)):List V → Zo → Option (List V × Zo)
  | [],z=>some ([],z)
  | v :: vs,z=>(f v z).bind fun (t,z')=>(frzLf f vs z').map fun (ts,z'')=>(t :: ts,z'')
noncomputable def frzEf (f:V → Zo → Option (V × Zo)):List (S × V) → Zo → Option (List (S × V) × Zo)
  | [],z=>some ([],z)
  | (x,v) :: vs,z=>(f v z).bind fun (t,z')=>(frzEf f vs z').map fun (ts,z'')=>((x,t) :: ts,z'')
noncomputable def frzV:Nat → V → Zo → Option (V × Zo)
  | 0,_,_=>none
  | d + 1,v,z=>match v with
    | .own k=>(match z[k]? with
      | some (.frz t)=>some (t,z)
      | some (.list vs)=>(frzLf (frzV d) vs z).bind fun (ts,z')=>if mutAt z' k then some (.list ts,z'.set k (.frz (.list ts))) else none
      | some (.dict es)=>(frzEf (frzV d) es z).bind fun (ts,z')=>if mutAt z' k then some (.dict ts,z'.set k (.frz (.dict ts))) else none
      | some (.inst C fs)=>(frzEf (frzV d) fs z).bind fun (ts,z')=>if mutAt z' k then some (.inst C ts,z'.set k (.frz (.inst C ts))) else none
      | none=>none)
    | v=>some (v,z)
noncomputable def frzL (d:Nat):List V → Zo → Option (List V × Zo):=frzLf (frzV d)
noncomputable def frzE (d:Nat):List (S × V) → Zo → Option (List (S × V) × Zo):=frzEf (frzV d)
noncomputable def frzDepth:Nat:=6
noncomputable def frz (v:V) (z:Zo):=frzV frzDepth v z
noncomputable def frzs (v:List V) (z:Zo):=frzL frzDepth v z
noncomputable def V.int?:V → Option Int
  | .none=>Option.none
  | .bool _=>Option.none
  | .int i=>some i
  | .str _=>Option.none
  | .fn _=>Option.none
  | .tup _=>Option.none
  | .list _=>Option.none
  | .dict _=>Option.none
  | .inst _ _=>Option.none
  | .rng _=>Option.none
  | .own _=>Option.none
noncomputable def V.str?:V → Option S
  | .none=>Option.none
  | .bool _=>Option.none
  | .int _=>Option.none
  | .str s=>some s
  | .fn _=>Option.none
  | .tup _=>Option.none
  | .list _=>Option.none
  | .dict _=>Option.none
  | .inst _ _=>Option.none
  | .rng _=>Option.none
  | .own _=>Option.none
noncomputable def V.fn?:V → Option Value
  | .none=>Option.none
  | .bool _=>Option.none
  | .int _=>Option.none
  | .str _=>Option.none
  | .fn v=>some v
  | .tup _=>Option.none
  | .list _=>Option.none
  | .dict _=>Option.none
  | .inst _ _=>Option.none
  | .rng _=>Option.none
  | .own _=>Option.none
noncomputable def V.tup?:V → Option (List V)
  | .none=>Option.none
  | .bool _=>Option.none
  | .int _=>Option.none
  | .str _=>Option.none
  | .fn _=>Option.none
  | .tup vs=>some vs
  | .list _=>Option.none
  | .dict _=>Option.none
  | .inst _ _=>Option.none
  | .rng _=>Option.none
  | .own _=>Option.none
noncomputable def V.lst?:V → Option (List V)
  | .none=>Option.none
  | .bool _=>Option.none
  | .int _=>Option.none
  | .str _=>Option.none
  | .fn _=>Option.none
  | .tup _=>Option.none
  | .list vs=>some vs
  | .dict _=>Option.none
  | .inst _ _=>Option.none
  | .rng _=>Option.none
  | .own _=>Option.none
noncomputable def V.dict?:V → Option (List (S × V))
  | .none=>Option.none
  | .bool _=>Option.none
  | .int _=>Option.none
  | .str _=>Option.none
  | .fn _=>Option.none
  | .tup _=>Option.none
  | .list _=>Option.none
  | .dict es=>some es
  | .inst _ _=>Option.none
  | .rng _=>Option.none
  | .own _=>Option.none
noncomputable def V.inst?:V → Option (Addr × List (S × V))
  | .none=>Option.none
  | .bool _=>Option.none
  | .int _=>Option.none
  | .str _=>Option.none
  | .fn _=>Option.none
  | .tup _=>Option.none
  | .list _=>Option.none
  | .dict _=>Option.none
  | .inst C fs=>some (C,fs)
  | .rng _=>Option.none
  | .own _=>Option.none
noncomputable def V.rng?:V → Option Nat
  | .none=>Option.none
  | .bool _=>Option.none
  | .int _=>Option.none
  | .str _=>Option.none
  | .fn _=>Option.none
  | .tup _=>Option.none
  | .list _=>Option.none
  | .dict _=>Option.none
  | .inst _ _=>Option.none
  | .rng n=>some n
  | .own _=>Option.none
noncomputable def V.own?:V → Option Nat
  | .none=>Option.none
  | .bool _=>Option.none
  | .int _=>Option.none
  | .str _=>Option.none
  | .fn _=>Option.none
  | .tup _=>Option.none
  | .list _=>Option.none
  | .dict _=>Option.none
  | .inst _ _=>Option.none
  | .rng _=>Option.none
  | .own k=>some k
noncomputable def V.nil:V → Bool
  | .none=>true
  | .bool _=>false
  | .int _=>false
  | .str _=>false
  | .fn _=>false
  | .tup _=>false
  | .list _=>false
  | .dict _=>false
  | .inst _ _=>false
  | .rng _=>false
  | .own _=>false
noncomputable def O.lst?:O → Option (List V)
  | .list vs=>some vs
  | .dict _=>none
  | .inst _ _=>none
  | .frz t=>t.lst?
noncomputable def O.dict?:O → Option (List (S × V))
  | .list _=>none
  | .dict es=>some es
  | .inst _ _=>none
  | .frz t=>t.dict?
noncomputable def O.inst?:O → Option (Addr × List (S × V))
  | .list _=>none
  | .dict _=>none
  | .inst C fs=>some (C,fs)
  | .frz t=>t.inst?
noncomputable def O.rawl?:O → Option (List V)
  | .list vs=>some vs
  | .dict _=>none
  | .inst _ _=>none
  | .frz _=>none
noncomputable def O.rawd?:O → Option (List (S × V))
  | .list _=>none
  | .dict es=>some es
  | .inst _ _=>none
  | .frz _=>none
noncomputable def O.rawi?:O → Option (Addr × List (S × V))
  | .list _=>none
  | .dict _=>none
  | .inst C fs=>some (C,fs)
  | .frz _=>none
noncomputable def one?:List V → Option V
  | []=>none
  | a :: r=>if r.isEmpty then some a else none
noncomputable def two?:List V → Option (V × V)
  | []=>none
  | a :: r=>(one? r).map fun b=>(a,b)
noncomputable def ints? (a b:V):Option (Int × Int):=a.int?.bind fun i=>b.int?.map fun j=>(i,j)
noncomputable def V.seq? (v:V):Option (List V):=match v.tup? with
  | .some vs=>.some vs
  | .none=>v.lst?
noncomputable def asList (z:Zo) (v:V):Option (List V):=match v.own? with
  | some k=>(z[k]?).bind O.lst?
  | none=>v.lst?
noncomputable def asSeq (z:Zo) (v:V):Option (List V):=match v.tup? with
  | some vs=>some vs
  | none=>asList z v
noncomputable def asDict (z:Zo) (v:V):Option (List (S × V)):=match v.own? with
  | some k=>(z[k]?).bind O.dict?
  | none=>v.dict?
noncomputable def asInst (z:Zo) (v:V):Option (Addr × List (S × V)):=match v.own? with
  | some k=>(z[k]?).bind O.inst?
  | none=>v.inst?
mutual
noncomputable def V.toD:V → Option PyData
  | .none=>some PyData.none
  | .bool b=>some (.bool b)
  | .int i=>some (.int i)
  | .str s=>some (.str s)
  | .fn _=>Option.none
  | .tup vs=>(V.toDs vs).map .tuple
  | .list vs=>(V.toDs vs).map .list
  | .dict _=>Option.none
  | .inst _ _=>Option.none
  | .rng _=>Option.none
  | .own _=>Option.none
noncomputable def V.toDs:List V → Option (List PyData)
  | []=>some []
  | v :: vs=>(V.toD v).bind fun d=>(V.toDs vs).map fun ds=>d :: ds
end
noncomputable def toDz (z:Zo) (v:V):Option PyData:=match v.own? with
  | some k=>((z[k]?).bind O.lst?).bind fun vs=>(V.toDs vs).map .list
  | none=>v.toD
noncomputable def dOk (d:PyData):Bool:=d.canLay0 && decide (d.depth ≤ 6)
noncomputable def both (z:Zo) (a b:V):Option (PyData × PyData):=(toDz z a).bind fun da=>(toDz z b).bind fun db=>if dOk da && dOk db then some (da,db) else none
noncomputable def eqz (z:Zo) (a b:V):Option Bool:=(both z a b).map fun p=>PyData.eqv p.1 p.2
noncomputable def dls?:PyData → Option (List PyData)
  | .none=>none
  | .bool _=>none
  | .int _=>none
  | .str _=>none
  | .list ds=>some ds
  | .tuple _=>none
  | .dict _=>none
noncomputable def dtp?:PyData → Option (List PyData)
  | .none=>none
  | .bool _=>none
  | .int _=>none
  | .str _=>none
  | .list _=>none
  | .tuple ds=>some ds
  | .dict _=>none
noncomputable def dsq? (d:PyData):Option (List PyData):=match dls? d with
  | some ds=>some ds
  | none=>dtp? d
noncomputable def inz (z:Zo) (a c:V):Option Bool:=match asDict z c with
  | some es=>a.str?.map fun k=>(es.lookup k).isSome
  | none=>(both z a c).bind fun p=>(dsq? p.2).map fun ds=>ds.any fun y=>PyData.eqv y p.1
noncomputable def truth:V → Option Bool
  | .none=>some false
  | .bool b=>some b
  | .int _=>none
  | .str _=>none
  | .fn _=>none
  | .tup _=>none
  | .list _=>none
  | .dict _=>none
  | .inst _ _=>none
  | .rng _=>none
  | .own _=>none
structure Cls where
  init:Addr
  fields:List S
  meths:List (S × Addr)
structure Prg where
  glob:S → Option V
  func:Addr → Option FuncData
  dfl:Addr → List V
  cls:Addr → Option Cls
  need:Nat
  orc:Addr → Option (List V → Option V)
  orb:Addr → Option (O → List V → Option (V × O))
inductive Fl where
  | next
  | ret (v:V)
noncomputable def lineMax:Nat:=1048576
noncomputable def intMax:Int:=10 ^ 80
noncomputable def addV (z:Zo) (a b:V):Option (V × Zo):=match a.int? with
  | some i=>b.int?.map fun j=>(.int (i + j),z)
  | none=>match a.str? with
    | some x=>b.str?.bind fun y=>if x.length + y.length ≤ lineMax then some (.str (x ++ y),z) else none
    | none=>(asList z a).bind fun xs=>(asList z b).bind fun ys=>(frzs xs z).bind fun (xs',z1)=>(frzs ys z1).bind fun (ys',z2) =>
      if xs'.length + ys'.length ≤ lineMax then some (.list (xs' ++ ys'),z2) else none
noncomputable def mulV (z:Zo) (a b:V):Option (V × Zo):=b.int?.bind fun j=>match a.int? with
  | some i=>if i.natAbs < intMax.natAbs && j.natAbs < intMax.natAbs then some (.int (i * j),z) else none
  | none=>a.own?.bind fun k=>(z[k]?).bind fun o=>o.rawl?.bind fun vs=>(one? vs).bind fun v=>if 0 ≤ j ∧ j.toNat ≤ lineMax then some (.own z.length,z ++ [.list (List.replicate j.toNat v)]) else none
noncomputable def binV (z:Zo) (op:Operator) (a b:V):Option (V × Zo):=match op with
  | .Add=>addV z a b
  | .Mult=>mulV z a b
  | .Mod=>(ints? a b).bind fun (i,j)=>if j = 0 then none else some (.int (Int.fmod i j),z)
  | .FloorDiv=>(ints? a b).bind fun (i,j)=>if 0 < j ∧ j < 1073741824 then some (.int (Int.fdiv i j),z) else none
  | .Pow=>(ints? a b).bind fun (i,j)=>if i = 10 ∧ 0 ≤ j ∧ j ≤ 30 then some (.int (i ^ j.toNat),z) else none
  | .Sub=>none
  | .MatMult=>none
  | .Div=>none
  | .LShift=>none
  | .RShift=>none
  | .BitOr=>none
  | .BitXor=>none
  | .BitAnd=>none
noncomputable def isNone:V → Option Bool
  | .none=>some true
  | .bool _=>some false
  | .int _=>some false
  | .str _=>some false
  | .fn _=>none
  | .tup _=>some false
  | .list _=>some false
  | .dict _=>some false
  | .inst _ _=>some false
  | .rng _=>none
  | .own _=>some false
noncomputable def cmpV (z:Zo) (op:CmpOp) (a b:V):Option Bool:=match op with
  | .Is=>if b.nil then isNone a else none
  | .IsNot=>(if b.nil then isNone a else none).map (!·)
  | .Eq=>eqz z a b
  | .NotEq=>(eqz z a b).map (!·)
  | .In=>inz z a b
  | .NotIn=>(inz z a b).map (!·)
  | .Lt=>(ints? a b).map fun p=>decide (p.1 < p.2)
  | .LtE=>(ints? a b).map fun p=>decide (p.1 ≤ p.2)
  | .Gt=>(ints? a b).map fun p=>decide (p.2 < p.1)
  | .GtE=>(ints? a b).map fun p=>decide (p.2 ≤ p.1)
noncomputable def itemV (z:Zo) (a i:V):Option V:=match i.int? with
  | some i=>if i < 0 then none else (asSeq z a).bind fun xs=>xs[i.toNat]?
  | none=>i.str?.bind fun k=>(asDict z a).bind fun es=>es.lookup k
noncomputable def cutV (xs:List V) (lo hi st:V):Option (List V):=match st.int? with
  | some s=>if lo.nil && hi.nil && s == -1 then some xs.reverse else none
  | none=>if st.nil then (match hi.int? with
    | some h=>if lo.nil && !decide (h < 0) then some (xs.take h.toNat) else none
    | none=>if hi.nil then lo.int?.bind fun l=>if l < 0 then none else some (xs.drop l.toNat) else none) else none
noncomputable def indexOf (ds:List PyData) (d:PyData):Option Nat:=ds.findIdx? fun y=>PyData.eqv y d
noncomputable def fit (vs:List V):Option (List V):=if vs.length ≤ lineMax then some vs else none
noncomputable def bi?:Value → Option String
  | .none=>none
  | .ellipsis=>none
  | .notImplemented=>none
  | .bool _=>none
  | .int _ _=>none
  | .float _ _=>none
  | .str _ _=>none
  | .bytes _ _=>none
  | .type _=>none
  | .builtin x=>some x
  | .ref _=>none
noncomputable def ty?:Value → Option String
  | .none=>none
  | .ellipsis=>none
  | .notImplemented=>none
  | .bool _=>none
  | .int _ _=>none
  | .float _ _=>none
  | .str _ _=>none
  | .bytes _ _=>none
  | .type x=>some x
  | .builtin _=>none
  | .ref _=>none
noncomputable def rf?:Value → Option Addr
  | .none=>none
  | .ellipsis=>none
  | .notImplemented=>none
  | .bool _=>none
  | .int _ _=>none
  | .float _ _=>none
  | .str _ _=>none
  | .bytes _ _=>none
  | .type _=>none
  | .builtin _=>none
  | .ref x=>some x
noncomputable def rangeV (a:V) (z:Zo):Option (V × Zo):=a.int?.bind fun n=>if 0 ≤ n ∧ n ≤ 1000000 then some (.rng n.toNat,z) else none
noncomputable def listV (a:V) (z:Zo):Option (V × Zo):=(asList z a).bind fun xs=>(frzs xs z).map fun (ts,z')=>(.list ts,z')
noncomputable def dictV (a:V) (z:Zo):Option (V × Zo):=(asDict z a).bind fun es=>if es.isEmpty then some (.own z.length,z ++ [.dict []]) else none
noncomputable def strV (a:V) (z:Zo):Option (V × Zo):=a.int?.bind fun i=>if i.natAbs < 10 ^ 10 then some (.str (PySem.Str.ofString (toString i)),z) else none
noncomputable def maxV (a b:V) (z:Zo):Option (V × Zo):=(ints? a b).map fun (i,j)=>(.int (if i < j then j else i),z)
noncomputable def isinV (P:Prg) (a b:V) (z:Zo):Option (V × Zo):=b.fn?.bind fun f=>(rf? f).bind fun C=>if (P.cls C).isSome then (asInst z a).bind fun (D,_)=>if (P.cls D).isSome then some (.bool (decide (D = C)),z) else none else none
noncomputable def bcall (P:Prg) (f:Value) (args:List V) (z:Zo):Option (V × Zo):=match bi? f with
  | some id=>if id = "len" then (one? args).bind fun a=>(asList z a).map fun xs=>(.int xs.length,z)
    else (two? args).bind fun (a,b)=>if id = "max" then maxV a b z else if id = "isinstance" then isinV P a b z else none
  | none=>(ty? f).bind fun t=>(one? args).bind fun a=>if t = "range" then rangeV a z else if t = "list" then listV a z else if t = "dict" then dictV a z else if t = "str" then strV a z else none
noncomputable def meth (z:Zo) (v:V) (a:S):Option String :=
  if (asList z v).isSome then (if a = "append" then some "list.append" else if a = "index" then some "list.index" else none)
  else if (asDict z v).isSome then (if a = "get" then some "dict.get" else if a = "setdefault" then some "dict.setdefault" else none)
  else if v.tup?.isSome then (if a = "index" then some "tuple.index" else none) else none
noncomputable def appendV (o:V) (args:List V) (z:Zo):Option (V × Zo):=o.own?.bind fun k=>(one? args).bind fun a=>(z[k]?).bind fun ob=>ob.rawl?.bind fun vs=>if vs.length < lineMax then some (.none,z.set k (.list (vs ++ [a]))) else none
noncomputable def indexV (tup:Bool) (o:V) (args:List V) (z:Zo):Option (V × Zo):=(one? args).bind fun a=>(both z a o).bind fun p=>(if tup then dtp? p.2 else dls? p.2).bind fun ds=>(indexOf ds p.1).bind fun i=>if i < lineMax then some (.int i,z) else none
noncomputable def getV (o:V) (args:List V) (z:Zo):Option (V × Zo):=(one? args).bind fun a=>a.str?.bind fun k=>(asDict z o).map fun es=>((es.lookup k).getD .none,z)
noncomputable def setdefaultV (o:V) (args:List V) (z:Zo):Option (V × Zo):=o.own?.bind fun k=>(two? args).bind fun (a,d)=>a.str?.bind fun x=>(z[k]?).bind fun ob=>ob.rawd?.bind fun es=>(match es.lookup x with
  | some v=>some (v,z)
  | none=>if es.length < 1000 then some (d,z.set k (.dict (setE x d es))) else none)
noncomputable def mcall (id:String) (o:V) (args:List V) (z:Zo):Option (V × Zo) :=
  if id = "list.append" then appendV o args z
  else if id = "list.index" then indexV false o args z
  else if id = "tuple.index" then indexV true o args z
  else if id = "dict.get" then getV o args z
  else if id = "dict.setdefault" then setdefaultV o args z
  else none
noncomputable def compL (f:V → Zo → Option (Option V × Zo)):List V → Zo → Option (List V × Zo)
  | [],z=>some ([],z)
  | v :: vs,z=>(f v z).bind fun (r,z1)=>(compL f vs z1).map fun (rs,z2)=>((match r with | some x=>x :: rs | none=>rs),z2)
noncomputable def forL (f:V → En → Zo → Option (Fl × En × Zo)):List V → En → Zo → Option (Fl × En × Zo)
  | [],e,z=>some (.next,e,z)
  | v :: vs,e,z=>(f v e z).bind fun (fl,e1,z1)=>match fl with | .next=>forL f vs e1 z1 | .ret r=>some (.ret r,e1,z1)
noncomputable def whileL (t:En → Zo → Option (Bool × Zo)) (f:En → Zo → Option (Fl × En × Zo)):Nat → En → Zo → Option (Fl × En × Zo)
  | 0,_,_=>none
  | n + 1,e,z=>(t e z).bind fun (b,z1)=>if b then (f e z1).bind fun (fl,e1,z2)=>(match fl with | .next=>whileL t f n e1 z2 | .ret r=>some (.ret r,e1,z2)) else some (.next,e,z1)
noncomputable def iterOf (v:V) (z:Zo):Option (List V × Zo):=match v.rng? with
  | some n=>some ((List.range n).map fun (i:Nat)=>V.int i,z)
  | none=>(frz v z).bind fun (t,z')=>t.seq?.map fun vs=>(vs,z')
noncomputable def isSlice (x:Expr):Bool:=x.ctorIdx == 26
noncomputable def isAttr (x:Expr):Bool:=x.ctorIdx == 20
noncomputable def isTup (x:Expr):Bool:=x.ctorIdx == 25
noncomputable def isComp (x:Expr):Bool:=Nat.ble 8 x.ctorIdx && Nat.ble x.ctorIdx 10
inductive EV:Expr → Type
  | const (c k p):EV (.Constant c k p)
  | name (x p):EV (.Name x p)
  | tup (es k p):EV (.Tuple es k p)
  | list (es p):EV (.List es p)
  | dict (kk vv p):EV (.Dict kk vv p)
  | attr (o a p):EV (.Attribute o a p)
  | slice (o l u s p q):EV (.Subscript o (.Slice l u s p) q)
  | item (o i p) (h:isSlice i = false):EV (.Subscript o i p)
  | meth (o a q args p):EV (.Call (.Attribute o a q) args [] p)
  | call (f args p) (h:isAttr f = false):EV (.Call f args [] p)
  | bin (l op r p):EV (.BinOp l op r p)
  | cmp (l op r p):EV (.Compare l [op] [r] p)
  | bool (op es p):EV (.BoolOp op es p)
  | not (x p):EV (.UnaryOp .Not x p)
  | neg (x p):EV (.UnaryOp .USub x p)
  | ite (t a b p):EV (.IfExp t a b p)
  | comp (elt x q it ifs sc p):EV (.ListComp elt [⟨.Name x q,it,ifs,0⟩] sc p)
  | bad (x):EV x
noncomputable def viewS (o i:Expr) (p:Pos):EV (.Subscript o i p):=match i with
  | .Slice l u s q=>.slice o l u s q p
  | i=>if h:isSlice i = false then .item o i p h else .bad _
noncomputable def viewC (f:Expr) (args:List Expr) (p:Pos):EV (.Call f args [] p):=match f with
  | .Attribute o a q=>.meth o a q args p
  | f=>if h:isAttr f = false then .call f args p h else .bad _
noncomputable def viewE:(x:Expr) → EV x
  | .Constant c k p=>.const c k p
  | .Name x p=>.name x p
  | .Tuple es k p=>.tup es k p
  | .List es p=>.list es p
  | .Dict kk vv p=>.dict kk vv p
  | .Attribute o a p=>.attr o a p
  | .Subscript o i p=>viewS o i p
  | .Call f args [] p=>viewC f args p
  | .BinOp l op r p=>.bin l op r p
  | .Compare l [op] [r] p=>.cmp l op r p
  | .BoolOp op es p=>.bool op es p
  | .UnaryOp .Not x p=>.not x p
  | .UnaryOp .USub x p=>.neg x p
  | .IfExp t a b p=>.ite t a b p
  | .ListComp elt [⟨.Name x q,it,ifs,0⟩] sc p=>.comp elt x q it ifs sc p
  | x=>.bad x
inductive SV:Stmt → Type
  | expr (x p):SV (.Expr x p)
  | retS (x p):SV (.Return (some x) p)
  | ret (p):SV (.Return none p)
  | asg (t x p):SV (.Assign [t] x p)
  | aug (x q y p):SV (.AugAssign (.Name x q) .Add y p)
  | ite (t a b p):SV (.If t a b p)
  | whl (t b p):SV (.While t b [] p)
  | each (x q it b p):SV (.For (.Name x q) it b [] p)
  | bad (s):SV s
noncomputable def viewT:(s:Stmt) → SV s
  | .Expr x p=>.expr x p
  | .Return (some x) p=>.retS x p
  | .Return none p=>.ret p
  | .Assign [t] x p=>.asg t x p
  | .AugAssign (.Name x q) .Add y p=>.aug x q y p
  | .If t a b p=>.ite t a b p
  | .While t b [] p=>.whl t b p
  | .For (.Name x q) it b [] p=>.each x q it b p
  | s=>.bad s
noncomputable def nameOfV {x:Expr} (v:EV x):Option S:=match v with
  | .const _ _ _=>none
  | .name x _=>some x
  | .tup _ _ _=>none
  | .list _ _=>none
  | .dict _ _ _=>none
  | .attr _ _ _=>none
  | .slice _ _ _ _ _ _=>none
  | .item _ _ _ _=>none
  | .meth _ _ _ _ _=>none
  | .call _ _ _ _=>none
  | .bin _ _ _ _=>none
  | .cmp _ _ _ _=>none
  | .bool _ _ _=>none
  | .not _ _=>none
  | .neg _ _=>none
  | .ite _ _ _ _=>none
  | .comp _ _ _ _ _ _ _=>none
  | .bad _=>none
noncomputable def nameOf (x:Expr):Option S:=nameOfV (viewE x)
noncomputable def storeAll (ks:Ks):List Expr → List V → En → Option En
  | [],vs,e=>if vs.isEmpty then some e else none
  | t :: ts,vs,e=>match vs with
    | []=>none
    | v :: vs=>(nameOf t).bind fun x=>if ks.lookup x = some .local ∨ ks.lookup x = some .cell then storeAll ks ts vs (setE x v e) else none
noncomputable def constV:Const → Option V
  | .none=>some .none
  | .bool b=>some (.bool b)
  | .int i=>some (.int i)
  | .float _=>none
  | .complex _ _=>none
  | .str s=>some (.str s)
  | .bytes _=>none
  | .ellipsis=>none
noncomputable def relK (ks:Ks) (inner:Ks):Ks:=inner.map fun (n,k)=>if k == .free && ks.lookup n == some .cell then (n,.cell) else (n,k)
noncomputable def compOk (ks:Ks) (x:S) (sc:Scope):Bool :=
  sc.kind == .function && sc.names.lookup x == some .local && x != ".0" && sc.names.all fun (n,k)=>match k with
    | .local=>(n == x || n == ".0") && sc.names.lookup n == some .local
    | .free=>ks.lookup n == some .cell && sc.names.lookup n == some .free
    | .globalImplicit=>sc.names.lookup n == some .globalImplicit
    | _=>false
noncomputable def namesOk:List S → Bool
  | []=>true
  | [_]=>true
  | [a,b]=>decide (a ≠ b)
  | _=>false
noncomputable def strC:Const → Option S
  | .none=>none
  | .bool _=>none
  | .int _=>none
  | .float _=>none
  | .complex _ _=>none
  | .str s=>some s
  | .bytes _=>none
  | .ellipsis=>none
noncomputable def strOfV {x:Expr} (v:EV x):Option S:=match v with
  | .const c _ _=>strC c
  | .name _ _=>none
  | .tup _ _ _=>none
  | .list _ _=>none
  | .dict _ _ _=>none
  | .attr _ _ _=>none
  | .slice _ _ _ _ _ _=>none
  | .item _ _ _ _=>none
  | .meth _ _ _ _ _=>none
  | .call _ _ _ _=>none
  | .bin _ _ _ _=>none
  | .cmp _ _ _ _=>none
  | .bool _ _ _=>none
  | .not _ _=>none
  | .neg _ _=>none
  | .ite _ _ _ _=>none
  | .comp _ _ _ _ _ _ _=>none
  | .bad _=>none
noncomputable def strOf (x:Expr):Option S:=strOfV (viewE x)
noncomputable def strKey (x:Option Expr):Option S:=x.bind strOf
noncomputable def noSuper:Expr → Bool
  | .Call (.Name _ _) [] [] _=>false
  | _=>true
noncomputable def V.isOwn (v:V):Bool:=v.own?.isSome
noncomputable def plainO (o:O):Bool:=match o.rawl? with
  | some vs=>vs.all fun v=>!v.isOwn
  | none=>false
noncomputable def isSet (x:Expr):Bool:=x.ctorIdx == 7
noncomputable def bindPars:List S → List V → List V → Option En
  | [],vs,_=>if vs.isEmpty then some [] else none
  | x :: xs,vs,d=>match vs with
    | []=>if xs.length + 1 ≤ d.length then some ((x :: xs).zip (d.drop (d.length - (xs.length + 1)))) else none
    | v :: vs=>(bindPars xs vs d).map fun e=>(x,v) :: e
noncomputable def setAtV (z:Zo) (o i v:V):Option Zo:=o.own?.bind fun k=>(z[k]?).bind fun ob=>match ob.rawl? with
  | some vs=>i.int?.bind fun j=>if 0 ≤ j ∧ j.toNat < vs.length then some (z.set k (.list (vs.set j.toNat v))) else none
  | none=>ob.rawd?.bind fun es=>i.str?.bind fun x=>if es.length < 1000 then some (z.set k (.dict (setE x v es))) else none
noncomputable def setFieldV (P:Prg) (z:Zo) (o:V) (a:S) (v:V):Option Zo:=o.own?.bind fun k=>(z[k]?).bind fun ob=>ob.rawi?.bind fun (C,fs)=>(P.cls C).bind fun c=>if c.fields.contains a && fs.length < 100 then some (z.set k (.inst C (setE a v fs))) else none
noncomputable def tstD (p:Option (V × Zo)):Option (Bool × Zo):=p.bind fun (v,z1)=>(truth v).map fun b=>(b,z1)
noncomputable def nameV (P:Prg) (ks:Ks) (x:S) (e:En) (z:Zo):Option (V × Zo):=(ks.lookup x).bind fun k=>match k with
  | .local=>(e.lookup x).map (·,z)
  | .cell=>(e.lookup x).map (·,z)
  | .free=>none
  | .globalExplicit=>none
  | .globalImplicit=>(P.glob x).map (·,z)
noncomputable def noFn (v:V):Bool:=v.fn?.isNone
noncomputable def attrV (P:Prg) (z1:Zo) (ov:V) (a:S):Option (V × Zo):=(asInst z1 ov).bind fun (C,fs)=>(P.cls C).bind fun c=>if c.fields.contains a then (fs.lookup a).bind fun v=>if noFn v then some (v,z1) else none else none
noncomputable def sliceV (ov lv uv sv:V) (z:Zo):Option (V × Zo):=(asList z ov).bind fun xs=>(cutV xs lv uv sv).bind fun ys=>(frzs ys z).map fun (ts,z5)=>(.list ts,z5)
noncomputable def negV (v:V) (z:Zo):Option (V × Zo):=v.int?.map fun i=>(.int (-i),z)
noncomputable def ownHead:List V → Option (Nat × List V)
  | []=>none
  | v :: r=>v.own?.map fun k=>(k,r)
noncomputable def bodyS:FuncBody → Option (List Stmt)
  | .stmts b=>some b
  | .expr _=>none
noncomputable def Fl.val:Fl → V
  | .next=>.none
  | .ret v=>v
noncomputable def augV (ks:Ks) (x:S) (e:En):Option Int:=if ks.lookup x = some .local then (e.lookup x).bind V.int? else none
noncomputable def stores (ks:Ks) (x:S):Bool:=decide (ks.lookup x = some .local ∨ ks.lookup x = some .cell)
structure Fs where
  ev:Ks → Expr → En → Zo → Option (V × Zo)
  evo:Ks → Option Expr → En → Zo → Option (V × Zo)
  evs:Ks → List Expr → En → Zo → Option (List V × Zo)
  evb:Ks → BoolOp → List Expr → En → Zo → Option (V × Zo)
  tst:Ks → Expr → En → Zo → Option (Bool × Zo)
  tsts:Ks → BoolOp → List Expr → En → Zo → Option (Bool × Zo)
  callV:V → List V → Zo → Option (V × Zo)
  callF:Addr → List V → Zo → Option (V × Zo)
  ex:Ks → Stmt → En → Zo → Option (Fl × En × Zo)
  asg:Ks → Expr → V → En → Zo → Option (En × Zo)
  exs:Ks → List Stmt → En → Zo → Option (Fl × En × Zo)
noncomputable def ifsV (f:Fs) (ks:Ks) (ifs:List Expr) (e:En) (z:Zo):Option (Bool × Zo):=match ifs with
  | []=>some (true,z)
  | c :: r=>if r.isEmpty then f.tst ks c e z else none
noncomputable def compG (ft:En → Zo → Option (Bool × Zo)) (fe:En → Zo → Option (V × Zo)) (x:S) (en:En):V → Zo → Option (Option V × Zo):=fun v z =>
  (ft (setE x v en) z).bind fun (b,z1)=>if b then (fe (setE x v en) z1).bind fun (r,z2)=>(frz r z2).map fun (t,z3)=>(some t,z3) else some (none,z1)
noncomputable def methB (P:Prg) (f:Fs) (ks:Ks) (a:S) (args:List Expr) (e:En) (ov:V) (z1:Zo):Option (V × Zo):=match asInst z1 ov with
  | some (C,fs)=>(P.cls C).bind fun c=>(c.meths.lookup a).bind fun m=>if fs.any (·.1 == a) then none else (f.evs ks args e z1).bind fun (vs,z2)=>f.callV (.fn (.ref m)) (ov :: vs) z2
  | none=>(meth z1 ov a).bind fun id=>(f.evs ks args e z1).bind fun (vs,z2)=>mcall id ov vs z2
noncomputable def evB (P:Prg) (f:Fs) (ks:Ks) (e:En) (z:Zo) {x:Expr} (v:EV x):Option (V × Zo):=match v with
  | .const c _ _=>(constV c).map (·,z)
  | .name x _=>if x = "__debug__" then none else nameV P ks x e z
  | .tup es _ _=>(f.evs ks es e z).bind fun (vs,z1)=>(frzs vs z1).bind fun (ts,z2)=>(fit ts).map fun ts=>(.tup ts,z2)
  | .list es _=>(f.evs ks es e z).bind fun (vs,z1)=>(fit vs).map fun vs=>(.own z1.length,z1 ++ [.list vs])
  | .dict kk vv _=>(kk.mapM strKey).bind fun names=>(f.evs ks vv e z).bind fun (vs,z1) =>
      if names.length = vs.length && namesOk names then some (.own z1.length,z1 ++ [.dict (names.zip vs)]) else none
  | .attr o a _=>if noSuper o then (f.ev ks o e z).bind fun (ov,z1)=>attrV P z1 ov a else none
  | .slice o l u s _ _=>(f.ev ks o e z).bind fun (ov,z1)=>(f.evo ks l e z1).bind fun (lv,z2)=>(f.evo ks u e z2).bind fun (uv,z3)=>(f.evo ks s e z3).bind fun (sv,z4)=>sliceV ov lv uv sv z4
  | .item o i _ _=>(f.ev ks o e z).bind fun (ov,z1)=>(f.ev ks i e z1).bind fun (iv,z2)=>(itemV z2 ov iv).map (·,z2)
  | .meth o a apos args pos=>if noSuper o && apos.endLine == pos.line && decide (args.length < 30) then (f.ev ks o e z).bind fun (ov,z1)=>methB P f ks a args e ov z1 else none
  | .call g args _ _=>(f.ev ks g e z).bind fun (fv,z1)=>(f.evs ks args e z1).bind fun (vs,z2)=>f.callV fv vs z2
  | .bin l op r _=>(f.ev ks l e z).bind fun (a,z1)=>(f.ev ks r e z1).bind fun (b,z2)=>binV z2 op a b
  | .cmp l op r _=>if isSet r then none else (f.ev ks l e z).bind fun (a,z1)=>(f.ev ks r e z1).bind fun (b,z2)=>(cmpV z2 op a b).map fun c=>(.bool c,z2)
  | .bool op es _=>f.evb ks op es e z
  | .not x _=>(f.ev ks x e z).bind fun (v,z1)=>(truth v).map fun b=>(.bool (!b),z1)
  | .neg x _=>(f.ev ks x e z).bind fun (v,z1)=>negV v z1
  | .ite t a b _=>(f.tst ks t e z).bind fun (c,z1)=>if c then f.ev ks a e z1 else f.ev ks b e z1
  | .comp elt x _ it ifs sc _=>if isSet it || !(compOk ks x sc && (e.lookup (".0":S)).isNone) then none else (f.ev ks it e z).bind fun (iv,z1)=>(iterOf iv z1).bind fun (vs,z2)=>(fit vs).bind fun vs =>
      (compL (compG (ifsV f (relK ks sc.names) ifs) (f.ev (relK ks sc.names) elt) x e) vs z2).map fun (rs,z3)=>(.list rs,z3)
  | .bad _=>none
noncomputable def evoB (f:Fs) (ks:Ks) (e:En) (z:Zo) (x:Option Expr):Option (V × Zo):=match x with
  | none=>some (.none,z)
  | some x=>f.ev ks x e z
noncomputable def evsB (f:Fs) (ks:Ks) (e:En) (z:Zo) (xs:List Expr):Option (List V × Zo):=match xs with
  | []=>some ([],z)
  | x :: xs=>(f.ev ks x e z).bind fun (v,z1)=>(f.evs ks xs e z1).map fun (vs,z2)=>(v :: vs,z2)
noncomputable def evbB (f:Fs) (ks:Ks) (op:BoolOp) (e:En) (z:Zo) (xs:List Expr):Option (V × Zo):=match xs with
  | []=>none
  | x :: xs=>if xs.isEmpty then f.ev ks x e z else (f.ev ks x e z).bind fun (v,z1)=>(truth v).bind fun b=>(match op with
    | .And=>if b then f.evb ks op xs e z1 else some (v,z1)
    | .Or=>if b then some (v,z1) else f.evb ks op xs e z1)
noncomputable def tstB (f:Fs) (ks:Ks) (e:En) (z:Zo) {x:Expr} (v:EV x):Option (Bool × Zo):=match v with
  | .const c k p=>tstD (f.ev ks (.Constant c k p) e z)
  | .name y p=>tstD (f.ev ks (.Name y p) e z)
  | .tup es k p=>tstD (f.ev ks (.Tuple es k p) e z)
  | .list es p=>tstD (f.ev ks (.List es p) e z)
  | .dict kk vv p=>tstD (f.ev ks (.Dict kk vv p) e z)
  | .attr o a p=>tstD (f.ev ks (.Attribute o a p) e z)
  | .slice o l u s p q=>tstD (f.ev ks (.Subscript o (.Slice l u s p) q) e z)
  | .item o i p _=>tstD (f.ev ks (.Subscript o i p) e z)
  | .meth o a q args p=>tstD (f.ev ks (.Call (.Attribute o a q) args [] p) e z)
  | .call g args p _=>tstD (f.ev ks (.Call g args [] p) e z)
  | .bin l op r p=>tstD (f.ev ks (.BinOp l op r p) e z)
  | .cmp l op r _=>if isSet r then none else (f.ev ks l e z).bind fun (a,z1)=>(f.ev ks r e z1).bind fun (b,z2)=>(cmpV z2 op a b).map fun c=>(c,z2)
  | .bool op xs _=>f.tsts ks op xs e z
  | .not x _=>(f.tst ks x e z).map fun (b,z1)=>(!b,z1)
  | .neg _ _=>none
  | .ite _ _ _ _=>none
  | .comp elt y q it ifs sc p=>tstD (f.ev ks (.ListComp elt [⟨.Name y q,it,ifs,0⟩] sc p) e z)
  | .bad _=>none
noncomputable def tstsB (f:Fs) (ks:Ks) (op:BoolOp) (e:En) (z:Zo) (xs:List Expr):Option (Bool × Zo):=match xs with
  | []=>some (op == .And,z)
  | x :: xs=>(f.tst ks x e z).bind fun (b,z1)=>(match op with
    | .And=>if b then f.tsts ks op xs e z1 else some (false,z1)
    | .Or=>if b then some (true,z1) else f.tsts ks op xs e z1)
noncomputable def orcB (P:Prg) (n:Nat) (F:List V → Option V) (args:List V) (z:Zo):Option (V × Zo):=if P.need ≤ n then (frzs args z).bind fun (ts,z1)=>(F ts).map (·,z1) else none
noncomputable def orbB (P:Prg) (n:Nat) (F:O → List V → Option (V × O)) (args:List V) (z:Zo):Option (V × Zo) :=
  if P.need ≤ n then (ownHead args).bind fun (k,rest)=>(frzs rest z).bind fun (ts,z1)=>(z1[k]?).bind fun o=>if plainO o then (F o ts).map fun (r,o')=>(r,z1.set k o') else none else none
noncomputable def makeB (f:Fs) (a:Addr) (c:Cls) (args:List V) (z:Zo):Option (V × Zo):=(f.callF c.init (.own z.length :: args) (z ++ [.inst a []])).bind fun (r,z1)=>if r.nil then some (.own z.length,z1) else none
noncomputable def refB (P:Prg) (f:Fs) (n:Nat) (a:Addr) (args:List V) (z:Zo):Option (V × Zo):=match P.orc a with
  | some F=>orcB P n F args z
  | none=>match P.orb a with
    | some F=>orbB P n F args z
    | none=>match P.cls a with
      | some c=>makeB f a c args z
      | none=>f.callF a args z
noncomputable def callVB (P:Prg) (f:Fs) (n:Nat) (g:V) (args:List V) (z:Zo):Option (V × Zo):=g.fn?.bind fun fv=>match rf? fv with
  | some a=>refB P f n a args z
  | none=>bcall P fv args z
noncomputable def callFB (P:Prg) (f:Fs) (a:Addr) (args:List V) (z:Zo):Option (V × Zo) :=
  (P.func a).bind fun fd=>(bindPars (fd.params.args.map (·.arg)) args (P.dfl a)).bind fun e=>(bodyS fd.body).bind fun b=>(f.exs fd.scope.names b e z).map fun (fl,_,z1)=>(fl.val,z1)
noncomputable def exB (f:Fs) (ks:Ks) (e:En) (z:Zo) {st:Stmt} (v:SV st):Option (Fl × En × Zo):=match v with
  | .expr x _=>if isComp x then none else (f.ev ks x e z).map fun (_,z1)=>(.next,e,z1)
  | .retS x _=>(f.ev ks x e z).map fun (v,z1)=>(.ret v,e,z1)
  | .ret _=>some (.ret .none,e,z)
  | .asg t x _=>if isTup t && isTup x then none else (f.ev ks x e z).bind fun (v,z1)=>(f.asg ks t v e z1).map fun (e2,z2)=>(.next,e2,z2)
  | .aug x _ y _=>(augV ks x e).bind fun i=>(f.ev ks y e z).bind fun (v,z1)=>v.int?.map fun j=>(.next,setE x (.int (i + j)) e,z1)
  | .ite t a b _=>(f.tst ks t e z).bind fun (c,z1)=>if c then f.exs ks a e z1 else f.exs ks b e z1
  | .whl t b _=>whileL (f.tst ks t) (f.exs ks b) 1000 e z
  | .each x _ it b _=>if isSet it then none else (f.ev ks it e z).bind fun (iv,z1)=>(iterOf iv z1).bind fun (vs,z2) =>
      if ks.lookup x = some .local ∨ ks.lookup x = some .cell then forL (fun v e z=>f.exs ks b (setE x v e) z) vs e z2 else none
  | .bad _=>none
noncomputable def asgB (P:Prg) (f:Fs) (ks:Ks) (v:V) (e:En) (z:Zo) {t:Expr} (w:EV t):Option (En × Zo):=match w with
  | .const _ _ _=>none
  | .name x _=>if ks.lookup x = some .local ∨ ks.lookup x = some .cell then some (setE x v e,z) else none
  | .tup ts _ _=>(asSeq z v).bind fun vs=>(storeAll ks ts vs e).map (·,z)
  | .list _ _=>none
  | .dict _ _ _=>none
  | .attr o a _=>(f.ev ks o e z).bind fun (ov,z1)=>(setFieldV P z1 ov a v).map (e,·)
  | .slice _ _ _ _ _ _=>none
  | .item o i _ _=>(f.ev ks o e z).bind fun (ov,z1)=>(f.ev ks i e z1).bind fun (iv,z2)=>(setAtV z2 ov iv v).map (e,·)
  | .meth _ _ _ _ _=>none
  | .call _ _ _ _=>none
  | .bin _ _ _ _=>none
  | .cmp _ _ _ _=>none
  | .bool _ _ _=>none
  | .not _ _=>none
  | .neg _ _=>none
  | .ite _ _ _ _=>none
  | .comp _ _ _ _ _ _ _=>none
  | .bad _=>none
noncomputable def exsB (f:Fs) (ks:Ks) (e:En) (z:Zo) (ss:List Stmt):Option (Fl × En × Zo):=match ss with
  | []=>some (.next,e,z)
  | s :: ss=>(f.ex ks s e z).bind fun (fl,e1,z1)=>match fl with
    | .next=>f.exs ks ss e1 z1
    | .ret v=>some (.ret v,e1,z1)
noncomputable def fs0:Fs:=⟨fun _ _ _ _=>none,fun _ _ _ _=>none,fun _ _ _ _=>none,fun _ _ _ _ _=>none,fun _ _ _ _=>none,fun _ _ _ _ _=>none,fun _ _ _=>none,fun _ _ _=>none,fun _ _ _ _=>none,fun _ _ _ _ _=>none,fun _ _ _ _=>none⟩
noncomputable def fsS (P:Prg) (n:Nat) (f:Fs):Fs:=⟨fun ks x e z=>evB P f ks e z (viewE x),fun ks x e z=>evoB f ks e z x,fun ks x e z=>evsB f ks e z x,fun ks op x e z=>evbB f ks op e z x,fun ks x e z=>tstB f ks e z (viewE x),fun ks op x e z=>tstsB f ks op e z x,
  callVB P f n,callFB P f,fun ks x e z=>exB f ks e z (viewT x),fun ks x v e z=>asgB P f ks v e z (viewE x),fun ks x e z=>exsB f ks e z x⟩
noncomputable def fs (P:Prg) (n:Nat):Fs:=Nat.rec fs0 (fsS P) n
noncomputable abbrev ev (P:Prg) (n:Nat):=(fs P n).ev
noncomputable abbrev evo (P:Prg) (n:Nat):=(fs P n).evo
noncomputable abbrev evs (P:Prg) (n:Nat):=(fs P n).evs
noncomputable abbrev evb (P:Prg) (n:Nat):=(fs P n).evb
noncomputable abbrev tst (P:Prg) (n:Nat):=(fs P n).tst
noncomputable abbrev tsts (P:Prg) (n:Nat):=(fs P n).tsts
noncomputable abbrev callV (P:Prg) (n:Nat):=(fs P n).callV
noncomputable abbrev callF (P:Prg) (n:Nat):=(fs P n).callF
noncomputable abbrev ex (P:Prg) (n:Nat):=(fs P n).ex
noncomputable abbrev asg (P:Prg) (n:Nat):=(fs P n).asg
noncomputable abbrev exs (P:Prg) (n:Nat):=(fs P n).exs
end Mine
end
section
open PySem PySem.W PyProof.Rows
namespace Mine
noncomputable def Is {α:Type} (o:Option α) (p:α → Prop):Prop:=match o with
  | some a=>p a
  | none=>True
theorem Is.of {α:Type} {o:Option α} {p:α → Prop} {a:α} (h:Is o p) (e:o = some a):p a:=by subst e; exact h
theorem V.int_of {v:V} {i} (e:v.int? = some i):v = .int i:=Is.of (p:=fun i=>v = .int i) (by clear e; induction v using V.casesOn <;> first | exact trivial | exact rfl) e
theorem V.str_of {v:V} {i} (e:v.str? = some i):v = .str i:=Is.of (p:=fun i=>v = .str i) (by clear e; induction v using V.casesOn <;> first | exact trivial | exact rfl) e
theorem V.fn_of {v:V} {i} (e:v.fn? = some i):v = .fn i:=Is.of (p:=fun i=>v = .fn i) (by clear e; induction v using V.casesOn <;> first | exact trivial | exact rfl) e
theorem V.tup_of {v:V} {i} (e:v.tup? = some i):v = .tup i:=Is.of (p:=fun i=>v = .tup i) (by clear e; induction v using V.casesOn <;> first | exact trivial | exact rfl) e
theorem V.lst_of {v:V} {i} (e:v.lst? = some i):v = .list i:=Is.of (p:=fun i=>v = .list i) (by clear e; induction v using V.casesOn <;> first | exact trivial | exact rfl) e
theorem V.dict_of {v:V} {i} (e:v.dict? = some i):v = .dict i:=Is.of (p:=fun i=>v = .dict i) (by clear e; induction v using V.casesOn <;> first | exact trivial | exact rfl) e
theorem V.rng_of {v:V} {i} (e:v.rng? = some i):v = .rng i:=Is.of (p:=fun i=>v = .rng i) (by clear e; induction v using V.casesOn <;> first | exact trivial | exact rfl) e
theorem V.own_of {v:V} {i} (e:v.own? = some i):v = .own i:=Is.of (p:=fun i=>v = .own i) (by clear e; induction v using V.casesOn <;> first | exact trivial | exact rfl) e
theorem V.inst_of {v:V} {i} (e:v.inst? = some i):v = .inst i.1 i.2:=Is.of (p:=fun i=>v = .inst i.1 i.2) (by clear e; induction v using V.casesOn <;> first | exact trivial | exact rfl) e
theorem V.nil_of {v:V} (e:v.nil = true):v = .none:=by
  have h:v.nil = false ∨ v = .none:=by clear e; induction v using V.casesOn <;> first | exact .inl rfl | exact .inr rfl
  exact h.elim (fun h=>ff (h ▸ e)) id
theorem Is.mono {α:Type} {o:Option α} {p q:α → Prop} (h:Is o p) (k:∀ a,p a → q a):Is o q:=by induction o using Option.casesOn <;> first | exact trivial | exact k _ h
theorem O.lst_of {v:O} {i} (e:v.lst? = some i):v = .list i ∨ v = .frz (.list i):=Is.of (p:=fun i=>v = .list i ∨ v = .frz (.list i)) (by clear e; induction v using O.casesOn with
  | list vs=>exact .inl rfl
  | frz t=>induction t using V.casesOn <;> first | exact trivial | exact .inr rfl
  | _=>exact trivial) e
theorem O.dict_of {v:O} {i} (e:v.dict? = some i):v = .dict i ∨ v = .frz (.dict i):=Is.of (p:=fun i=>v = .dict i ∨ v = .frz (.dict i)) (by clear e; induction v using O.casesOn with
  | dict vs=>exact .inl rfl
  | frz t=>induction t using V.casesOn <;> first | exact trivial | exact .inr rfl
  | _=>exact trivial) e
theorem O.inst_of {v:O} {i} (e:v.inst? = some i):v = .inst i.1 i.2 ∨ v = .frz (.inst i.1 i.2):=Is.of (p:=fun i=>v = .inst i.1 i.2 ∨ v = .frz (.inst i.1 i.2)) (by clear e; induction v using O.casesOn with
  | inst C vs=>exact .inl rfl
  | frz t=>induction t using V.casesOn <;> first | exact trivial | exact .inr rfl
  | _=>exact trivial) e
theorem O.rawl_of {v:O} {i} (e:v.rawl? = some i):v = .list i:=Is.of (p:=fun i=>v = .list i) (by clear e; induction v using O.casesOn <;> first | exact trivial | exact rfl) e
theorem O.rawd_of {v:O} {i} (e:v.rawd? = some i):v = .dict i:=Is.of (p:=fun i=>v = .dict i) (by clear e; induction v using O.casesOn <;> first | exact trivial | exact rfl) e
theorem O.rawi_of {v:O} {i} (e:v.rawi? = some i):v = .inst i.1 i.2:=Is.of (p:=fun i=>v = .inst i.1 i.2) (by clear e; induction v using O.casesOn <;> first | exact trivial | exact rfl) e
theorem dls_of {v:PyData} {i} (e:dls? v = some i):v = .list i:=Is.of (p:=fun i=>v = .list i) (by clear e; induction v using PyData.casesOn <;> first | exact trivial | exact rfl) e
theorem dtp_of {v:PyData} {i} (e:dtp? v = some i):v = .tuple i:=Is.of (p:=fun i=>v = .tuple i) (by clear e; induction v using PyData.casesOn <;> first | exact trivial | exact rfl) e
theorem bodyS_of {v:FuncBody} {i} (e:bodyS v = some i):v = .stmts i:=Is.of (p:=fun i=>v = .stmts i) (by clear e; induction v using FuncBody.casesOn <;> first | exact trivial | exact rfl) e
theorem bi_of {v:Value} {i} (e:bi? v = some i):v = .builtin i:=Is.of (p:=fun i=>v = .builtin i) (by clear e; induction v using Value.casesOn <;> first | exact trivial | exact rfl) e
theorem ty_of {v:Value} {i} (e:ty? v = some i):v = .type i:=Is.of (p:=fun i=>v = .type i) (by clear e; induction v using Value.casesOn <;> first | exact trivial | exact rfl) e
theorem rf_of {v:Value} {i} (e:rf? v = some i):v = .ref i:=Is.of (p:=fun i=>v = .ref i) (by clear e; induction v using Value.casesOn <;> first | exact trivial | exact rfl) e
theorem strC_of {v:Const} {i} (e:strC v = some i):v = .str i:=Is.of (p:=fun i=>v = .str i) (by clear e; induction v using Const.casesOn <;> first | exact trivial | exact rfl) e
theorem one_of {l:List V} {i} (e:one? l = some i):l = [i]:=Is.of (p:=fun i=>l = [i]) (by clear e; induction l using List.casesOn with
  | nil=>exact trivial
  | cons b r=>induction r using List.casesOn <;> first | exact trivial | exact rfl) e
theorem two_of {l:List V} {i} (e:two? l = some i):l = [i.1,i.2]:=Is.of (p:=fun i=>l = [i.1,i.2]) (by clear e; induction l using List.casesOn with
  | nil=>exact trivial
  | cons b r=>induction r using List.casesOn with
    | nil=>exact trivial
    | cons c r=>induction r using List.casesOn <;> first | exact trivial | exact rfl) e
theorem ownHead_of {l:List V} {i} (e:ownHead l = some i):l = .own i.1 :: i.2:=Is.of (p:=fun i=>l = .own i.1 :: i.2) (by clear e; induction l using List.casesOn with
  | nil=>exact trivial
  | cons b r=>induction b using V.casesOn <;> first | exact trivial | exact rfl) e
theorem ints_of {a b:V} {i} (e:ints? a b = some i):a = .int i.1 ∧ b = .int i.2:=bd1 e fun _ h e=>mp1 e fun _ h' e=>e ▸ ⟨V.int_of h,V.int_of h'⟩
theorem own_cases {α:Type} {v:V} {f:Nat → Option α} {o:Option α} {r:α} {C:Prop} (e:(match v.own? with | some k=>f k | none=>o) = some r) (h1:∀ k,v = .own k → f k = some r → C) (h2:o = some r → C):C:=by
  cases h:v.own? with
  | none=>rw [h] at e; exact h2 e
  | some k=>rw [h] at e; exact h1 k (V.own_of h) e
theorem nameOf_of {x:Expr} {i} (e:nameOf x = some i):∃ p,x = .Name i p:=Is.of (p:=fun i=>∃ p,x = .Name i p) (show Is (nameOfV (viewE x)) _ by
  clear e; generalize viewE x = v
  induction v using EV.casesOn <;> first | exact trivial | exact ⟨_,rfl⟩) e
theorem strOf_of {x:Expr} {i} (e:strOf x = some i):∃ k p,x = .Constant (.str i) k p:=Is.of (p:=fun i=>∃ k p,x = .Constant (.str i) k p) (show Is (strOfV (viewE x)) _ by
  clear e; generalize viewE x = v
  induction v using EV.casesOn with
  | const c k p=>induction c using Const.casesOn <;> first | exact trivial | exact ⟨_,_,rfl⟩
  | _=>exact trivial) e
noncomputable abbrev Gh:=Addr → Option Obj
noncomputable abbrev Ro:=List (Addr × Addr)
mutual
inductive Rep (w:Params) (G:Gh):Value → V → Prop
  | none:Rep w G .none .none
  | bool (b):Rep w G (.bool b) (.bool b)
  | int (i t):Rep w G (.int i t) (.int i)
  | str (s t):Rep w G (.str s t) (.str s)
  | fn (v):Rep w G v (.fn v)
  | tup {a o vs n ts}:G a = some o → o.cls = .type "tuple" → o.dict = none → o.data = .seq vs n → ts.length ≤ lineMax → RepL w G vs.toList ts → Rep w G (.ref a) (.tup ts)
  | list {a o vs n ts}:G a = some o → o.cls = .type "list" → o.dict = none → o.data = .seq vs n → ts.length ≤ lineMax → RepL w G vs.toList ts → Rep w G (.ref a) (.list ts)
  | dict {a es n ts}:G a = some (dictOf es n) → (a == sysModules) = false → RepE w G es ts → Rep w G (.ref a) (.dict ts)
  | inst {a d C es n fs}:G a = some (instObj C d) → G d = some (dictOf es n) → RepE w G es fs → Rep w G (.ref a) (.inst C fs)
  | rng {a n t u v}:G a = some { cls:=.type "range",dict:=.none,data:=.fields #[.int 0 t,.int (n:Nat) u,.int 1 v],slots:=#[] } → n ≤ 1000000 → Rep w G (.ref a) (.rng n)
inductive RepL (w:Params) (G:Gh):List Value → List V → Prop
  | nil:RepL w G [] []
  | cons {v t vs ts}:Rep w G v t → RepL w G vs ts → RepL w G (v :: vs) (t :: ts)
inductive RepE (w:Params) (G:Gh):List DictEntry → List (S × V) → Prop
  | nil:RepE w G [] []
  | cons {k v t vs ts tk}:Rep w G v t → RepE w G vs ts → RepE w G (⟨PyData.keyHash w k,.str k tk,v⟩ :: vs) ((k,t) :: ts)
end
theorem Rep.all {w:Params} {G:Gh} {p:Value → V → Prop} {q:List Value → List V → Prop} {r:List DictEntry → List (S × V) → Prop} (t:∀ {v t},Rep w G v t → p v t)
    (q0:q [] []) (q1:∀ {v t vs ts},p v t → q vs ts → q (v :: vs) (t :: ts)) (r0:r [] []) (r1:∀ {k v t vs ts tk},p v t → r vs ts → r (⟨PyData.keyHash w k,.str k tk,v⟩ :: vs) ((k,t) :: ts)) :
    (∀ {vs ts},RepL w G vs ts → q vs ts) ∧ (∀ {vs ts},RepE w G vs ts → r vs ts) :=
  ⟨fun h=>RepL.rec (motive_1:=fun _ _ _=>True) (motive_2:=fun vs ts _=>q vs ts) (motive_3:=fun _ _ _=>True) trivial (fun _=>trivial) (fun _ _=>trivial) (fun _ _=>trivial) (fun _=>trivial)
      (fun _ _ _ _ _ _ _=>trivial) (fun _ _ _ _ _ _ _=>trivial) (fun _ _ _ _=>trivial) (fun _ _ _ _=>trivial) (fun _ _=>trivial) q0 (fun a _ _ b=>q1 (t a) b) trivial (fun _ _ _ _=>trivial) h,
    fun h=>RepE.rec (motive_1:=fun _ _ _=>True) (motive_2:=fun _ _ _=>True) (motive_3:=fun vs ts _=>r vs ts) trivial (fun _=>trivial) (fun _ _=>trivial) (fun _ _=>trivial) (fun _=>trivial)
      (fun _ _ _ _ _ _ _=>trivial) (fun _ _ _ _ _ _ _=>trivial) (fun _ _ _ _=>trivial) (fun _ _ _ _=>trivial) (fun _ _=>trivial) trivial (fun _ _ _ _=>trivial) r0 (fun a _ _ b=>r1 (t a) b) h⟩
theorem RepL.length {w G} {vs ts} (h:RepL w G vs ts):vs.length = ts.length :=
  (Rep.all (p:=fun _ _=>True) (q:=fun vs ts=>vs.length = ts.length) (r:=fun _ _=>True) (fun _=>trivial) rfl (fun _ e=>congrArg Nat.succ e) trivial fun _ _=>trivial).1 h
theorem Rep.mono {w:Params} {G G':Gh} (hg:∀ a o,G a = some o → G' a = some o) {v t} (h:Rep w G v t):Rep w G' v t :=
  Rep.rec (motive_1:=fun v t _=>Rep w G' v t) (motive_2:=fun v t _=>RepL w G' v t) (motive_3:=fun v t _=>RepE w G' v t) .none .bool .int .str .fn
    (fun a b b' c d _ e=>.tup (hg _ _ a) b b' c d e) (fun a b b' c d _ e=>.list (hg _ _ a) b b' c d e) (fun a q _ b=>.dict (hg _ _ a) q b) (fun a b _ c=>.inst (hg _ _ a) (hg _ _ b) c) (fun a b=>.rng (hg _ _ a) b)
    .nil (fun _ _ a b=>.cons a b) .nil (fun _ _ a b=>.cons a b) h
theorem RepL.mono {w:Params} {G G':Gh} (hg:∀ a o,G a = some o → G' a = some o) {v t} (h:RepL w G v t):RepL w G' v t:=(Rep.all (p:=Rep w G') (q:=RepL w G') (r:=RepE w G') (Rep.mono hg) .nil .cons .nil .cons).1 h
theorem RepE.mono {w:Params} {G G':Gh} (hg:∀ a o,G a = some o → G' a = some o) {v t} (h:RepE w G v t):RepE w G' v t:=(Rep.all (p:=Rep w G') (q:=RepL w G') (r:=RepE w G') (Rep.mono hg) .nil .cons .nil .cons).2 h
inductive RSi (w:Params) (G:Gh) (c:String) (ts:List V):Value → Prop
  | mk {a o vs n}:G a = some o → o.cls = .type c → o.dict = none → o.data = .seq vs n → ts.length ≤ lineMax → RepL w G vs.toList ts → RSi w G c ts (.ref a)
inductive RDi (w:Params) (G:Gh) (ts:List (S × V)):Value → Prop
  | mk {a es n}:G a = some (dictOf es n) → (a == sysModules) = false → RepE w G es ts → RDi w G ts (.ref a)
inductive RIi (w:Params) (G:Gh) (C:Addr) (fs:List (S × V)):Value → Prop
  | mk {a d es n}:G a = some (instObj C d) → G d = some (dictOf es n) → RepE w G es fs → RIi w G C fs (.ref a)
noncomputable def RepI (w:Params) (G:Gh) (x:Value):V → Prop
  | .none=>x = .none
  | .bool b=>x = .bool b
  | .int i=>∃ t,x = .int i t
  | .str s=>∃ t,x = .str s t
  | .fn v=>x = v
  | .tup ts=>RSi w G "tuple" ts x
  | .list ts=>RSi w G "list" ts x
  | .dict ts=>RDi w G ts x
  | .inst C fs=>RIi w G C fs x
  | .rng n=>∃ a t u v,x = .ref a ∧ G a = some { cls:=.type "range",dict:=.none,data:=.fields #[.int 0 t,.int (n:Nat) u,.int 1 v],slots:=#[] } ∧ n ≤ 1000000
  | .own _=>False
theorem Rep.inv {w:Params} {G:Gh} {x:Value} {v:V} (r:Rep w G x v):RepI w G x v :=
  Rep.casesOn (motive_1:=fun x v _=>RepI w G x v) r rfl (fun _=>rfl) (fun _ t=>⟨t,rfl⟩) (fun _ t=>⟨t,rfl⟩) (fun _=>rfl) (fun a b c d e f=>.mk a b c d e f) (fun a b c d e f=>.mk a b c d e f) (fun a b c=>.mk a b c) (fun a b c=>.mk a b c) fun a b=>⟨_,_,_,_,rfl,a,b⟩
inductive RLc (w:Params) (G:Gh) (ts:List V) (t:V):List Value → Prop
  | mk {v vs}:Rep w G v t → RepL w G vs ts → RLc w G ts t (v :: vs)
noncomputable def RepLI (w:Params) (G:Gh) (x:List Value):List V → Prop
  | []=>x = []
  | t :: ts=>RLc w G ts t x
theorem RepL.inv {w:Params} {G:Gh} {x:List Value} {v:List V} (r:RepL w G x v):RepLI w G x v :=
  RepL.casesOn (motive_2:=fun x v _=>RepLI w G x v) r rfl fun a b=>.mk a b
noncomputable def RepO (w:Params) (G:Gh) (ρ:Ro) (v:Value):V → Prop
  | .own k=>∃ p,ρ[k]? = some p ∧ v = .ref p.1
  | t=>Rep w G v t
inductive ROL (w:Params) (G:Gh) (ρ:Ro):List Value → List V → Prop
  | nil:ROL w G ρ [] []
  | cons {v t vs ts}:RepO w G ρ v t → ROL w G ρ vs ts → ROL w G ρ (v :: vs) (t :: ts)
inductive ROE (w:Params) (G:Gh) (ρ:Ro):List DictEntry → List (S × V) → Prop
  | nil:ROE w G ρ [] []
  | cons {k v t vs ts tk}:RepO w G ρ v t → ROE w G ρ vs ts → ROE w G ρ (⟨PyData.keyHash w k,.str k tk,v⟩ :: vs) ((k,t) :: ts)
section
variable {w:Params} {G G':Gh} {ρ ρ':Ro}
theorem RepO.of_rep {v:Value} {t:V} (h:Rep w G v t):RepO w G ρ v t :=
  Rep.casesOn (motive_1:=fun v t _=>RepO w G ρ v t) h .none .bool .int .str .fn .tup .list .dict .inst .rng
theorem ROL.of_rep {vs:List Value} {ts:List V} (h:RepL w G vs ts):ROL w G ρ vs ts:=(Rep.all (p:=RepO w G ρ) (q:=ROL w G ρ) (r:=ROE w G ρ) .of_rep .nil .cons .nil .cons).1 h
theorem ROE.of_rep {vs:List DictEntry} {ts:List (S × V)} (h:RepE w G vs ts):ROE w G ρ vs ts:=(Rep.all (p:=RepO w G ρ) (q:=ROL w G ρ) (r:=ROE w G ρ) .of_rep .nil .cons .nil .cons).2 h
theorem RepO.mono (hg:∀ a o,G a = some o → G' a = some o) (hr:∃ t,ρ' = ρ ++ t) {v:Value} {t:V} (h:RepO w G ρ v t):RepO w G' ρ' v t:=by
  obtain ⟨r,rfl⟩:=hr
  cases t <;> first | exact Rep.mono hg h | skip
  obtain ⟨p,hp,rfl⟩:=h
  exact ⟨p,by rw [List.getElem?_append_left (by have:=List.getElem?_eq_some_iff.mp hp; exact this.1)]; exact hp,rfl⟩
theorem ROL.mono (hg:∀ a o,G a = some o → G' a = some o) (hr:∃ t,ρ' = ρ ++ t) {vs:List Value} {ts:List V} (h:ROL w G ρ vs ts):ROL w G' ρ' vs ts:=by
  induction h with
  | nil=>exact .nil
  | cons a _ ih=>exact .cons (a.mono hg hr) ih
theorem ROE.mono (hg:∀ a o,G a = some o → G' a = some o) (hr:∃ t,ρ' = ρ ++ t) {vs:List DictEntry} {ts:List (S × V)} (h:ROE w G ρ vs ts):ROE w G' ρ' vs ts:=by
  induction h with
  | nil=>exact .nil
  | cons a _ ih=>exact .cons (a.mono hg hr) ih
theorem ROL.length {vs:List Value} {ts:List V} (h:ROL w G ρ vs ts):vs.length = ts.length:=by
  induction h with
  | nil=>rfl
  | cons _ _ ih=>exact congrArg Nat.succ ih
theorem ROE.length {vs:List DictEntry} {ts:List (S × V)} (h:ROE w G ρ vs ts):vs.length = ts.length:=by
  induction h with
  | nil=>rfl
  | cons _ _ ih=>exact congrArg Nat.succ ih
theorem ROL.get {vs:List Value} {ts:List V} {i:Nat} {t:V} (h:ROL w G ρ vs ts) (e:ts[i]? = some t):∃ v,vs[i]? = some v ∧ RepO w G ρ v t:=by
  induction h generalizing i with
  | nil=>cases e
  | cons a _ ih =>
    cases i with
    | zero=>exact Option.some.inj e ▸ ⟨_,rfl,a⟩
    | succ i=>exact ih e
theorem ROL.append {vs:List Value} {ts:List V} {vs':List Value} {ts':List V} (h:ROL w G ρ vs ts) (h':ROL w G ρ vs' ts'):ROL w G ρ (vs ++ vs') (ts ++ ts'):=by
  induction h with
  | nil=>exact h'
  | cons a _ ih=>exact .cons a ih
theorem RepL.append {vs:List Value} {ts:List V} {vs':List Value} {ts':List V} (h:RepL w G vs ts) (h':RepL w G vs' ts'):RepL w G (vs ++ vs') (ts ++ ts') :=
  (Rep.all (p:=Rep w G) (q:=fun vs ts=>RepL w G (vs ++ vs') (ts ++ ts')) (r:=RepE w G) id h' .cons .nil .cons).1 h
theorem RepL.take {vs:List Value} {ts:List V} (n:Nat) (h:RepL w G vs ts):RepL w G (vs.take n) (ts.take n) :=
  (Rep.all (p:=Rep w G) (q:=fun vs ts=>∀ n,RepL w G (vs.take n) (ts.take n)) (r:=RepE w G) id (fun n=>by cases n <;> exact .nil) (fun a b n=>by cases n with | zero=>exact .nil | succ n=>exact .cons a (b n)) .nil .cons).1 h n
theorem RepL.drop {vs:List Value} {ts:List V} (n:Nat) (h:RepL w G vs ts):RepL w G (vs.drop n) (ts.drop n) :=
  ((Rep.all (p:=Rep w G) (q:=fun vs ts=>RepL w G vs ts ∧ ∀ n,RepL w G (vs.drop n) (ts.drop n)) (r:=RepE w G) id ⟨.nil,fun n=>by cases n <;> exact .nil⟩ (fun a b=>⟨.cons a b.1,fun n=>by cases n with | zero=>exact .cons a b.1 | succ n=>exact b.2 n⟩) .nil .cons).1 h).2 n
theorem RepL.reverse {vs:List Value} {ts:List V} (h:RepL w G vs ts):RepL w G vs.reverse ts.reverse :=
  (Rep.all (p:=Rep w G) (q:=fun vs ts=>RepL w G vs.reverse ts.reverse) (r:=RepE w G) id .nil (fun a b=>by rw [List.reverse_cons,List.reverse_cons]; exact b.append (.cons a .nil)) .nil .cons).1 h
theorem ROL.set {vs:List Value} {ts:List V} {i:Nat} {v:Value} {t:V} (h:ROL w G ρ vs ts) (h':RepO w G ρ v t):ROL w G ρ (vs.set i v) (ts.set i t):=by
  induction h generalizing i with
  | nil=>exact .nil
  | cons a b ih =>
    cases i with
    | zero=>exact .cons h' b
    | succ i=>exact .cons a ih
inductive ROc (w:Params) (G:Gh) (ρ:Ro) (t:V) (ts:List V):List Value → Prop
  | mk {v vs}:RepO w G ρ v t → ROL w G ρ vs ts → ROc w G ρ t ts (v :: vs)
noncomputable def ROLI (w:Params) (G:Gh) (ρ:Ro) (x:List Value):List V → Prop
  | []=>x = []
  | t :: ts=>ROc w G ρ t ts x
theorem ROL.inv {x:List Value} {v:List V} (r:ROL w G ρ x v):ROLI w G ρ x v:=ROL.casesOn (motive:=fun x v _=>ROLI w G ρ x v) r rfl fun a b=>.mk a b
theorem ROL.consE {x:List Value} {t:V} {ts:List V} {C:List Value → Prop} (r:ROL w G ρ x (t :: ts)) (k:∀ y ys,RepO w G ρ y t → ROL w G ρ ys ts → C (y :: ys)):C x:=ROc.casesOn (motive:=fun x _=>C x) r.inv fun a b=>k _ _ a b
theorem ROL.nilE {x:List Value} {C:List Value → Prop} (r:ROL w G ρ x []) (k:C []):C x:=(show x = [] from r.inv) ▸ k
theorem ROL.one {x:List Value} {t:V} (r:ROL w G ρ x [t]):∃ y,x = [y] ∧ RepO w G ρ y t:=r.consE (C:=fun x=>∃ y,x = [y] ∧ RepO w G ρ y t) fun y ys a b=>⟨y,b.nilE (C:=fun ys=>y :: ys = [y]) rfl,a⟩
theorem ROL.two {x:List Value} {t t':V} (r:ROL w G ρ x [t,t']):∃ y y',x = [y,y'] ∧ RepO w G ρ y t ∧ RepO w G ρ y' t' :=
  r.consE (C:=fun x=>∃ y y',x = [y,y'] ∧ RepO w G ρ y t ∧ RepO w G ρ y' t') fun y ys a b=>(ROL.one b).elim fun y' h=>⟨y,y',congrArg (y :: ·) h.1,a,h.2⟩
theorem ROL.take {vs:List Value} {ts:List V} (h:ROL w G ρ vs ts):∀ n,ROL w G ρ (vs.take n) (ts.take n):=by
  induction h with
  | nil=>intro n; rw [List.take_nil,List.take_nil]; exact .nil
  | cons a b ih=>intro n; induction n using Nat.casesOn with
    | zero=>exact .nil
    | succ n=>exact .cons a (ih n)
theorem ROL.drop {vs:List Value} {ts:List V} (h:ROL w G ρ vs ts):∀ n,ROL w G ρ (vs.drop n) (ts.drop n):=by
  induction h with
  | nil=>intro n; rw [List.drop_nil,List.drop_nil]; exact .nil
  | cons a b ih=>intro n; induction n using Nat.casesOn with
    | zero=>exact .cons a b
    | succ n=>exact ih n
theorem ROL.reverse {vs:List Value} {ts:List V} (h:ROL w G ρ vs ts):ROL w G ρ vs.reverse ts.reverse:=by
  induction h with
  | nil=>exact .nil
  | cons a b ih=>rw [List.reverse_cons,List.reverse_cons]; exact ih.append (.cons a .nil)
theorem ROL.replicate {v:Value} {t:V} (h:RepO w G ρ v t):∀ n,ROL w G ρ (List.replicate n v) (List.replicate n t)
  | 0=>.nil
  | n + 1=>.cons h (ROL.replicate h n)
end
noncomputable def ZOb (w:Params) (G:Gh) (ρ:Ro) (h:Heap) (p:Addr × Addr):O → Prop
  | .list vs=>p.2 = p.1 ∧ ∃ vals n,h.get? p.1 = some (listOf vals n) ∧ vs.length ≤ lineMax ∧ ROL w G ρ vals.toList vs
  | .dict es=>p.2 = p.1 ∧ (p.1 == sysModules) = false ∧ ∃ ents n,h.get? p.1 = some (dictOf ents n) ∧ es.length ≤ 1000 ∧ ROE w G ρ ents es
  | .inst C fs=>p.1 ≠ p.2 ∧ ∃ ents n,h.get? p.1 = some (instObj C p.2) ∧ h.get? p.2 = some (dictOf ents n) ∧ fs.length ≤ 100 ∧ ROE w G ρ ents fs
  | .frz t=>Rep w G (.ref p.1) t
def Fp (ρ:Ro) (a:Addr):Prop:=∃ p ∈ ρ,a = p.1 ∨ a = p.2
structure ZRel (w:Params) (G:Gh) (ρ:Ro) (z:Zo) (h:Heap):Prop where
  len:ρ.length = z.length
  keep:∀ a o,G a = some o → h.get? a = some o
  obj:∀ (k:Nat) p o,ρ[k]? = some p → z[k]? = some o → ZOb w G ρ h p o
  new:∀ (k:Nat) p o,ρ[k]? = some p → z[k]? = some o → o.mut = true → G p.1 = none ∧ G p.2 = none
  inj:∀ (i j:Nat) p q oi oj,i ≠ j → ρ[i]? = some p → ρ[j]? = some q → z[i]? = some oi → z[j]? = some oj → oi.mut = true → oj.mut = true → p.1 ≠ q.1 ∧ p.1 ≠ q.2 ∧ p.2 ≠ q.1 ∧ p.2 ≠ q.2
  live:∀ a,Fp ρ a → (h.get? a).isSome = true
structure Grow (X:Addr → Prop) (G:Gh) (ρ:Ro) (s:Shared) (G':Gh) (ρ':Ro) (s':Shared):Prop where
  g:∀ a o,G a = some o → G' a = some o
  r:∃ t,ρ' = ρ ++ t
  gf:∀ a o,G' a = some o → G a = some o ∨ s.heap.get? a = none ∨ Fp ρ a
  rf:∀ a,Fp ρ' a → Fp ρ a ∨ s.heap.get? a = none
  fr:∀ b o,s.heap.get? b = some o → ¬ Fp ρ b → ¬ X b → s'.heap.get? b = some o
  al:∀ b,(s.heap.get? b).isSome = true → (s'.heap.get? b).isSome = true
  st:∃ h tk,s' = { s with heap:=h,toks:=tk }
theorem Fp.app {ρ t:Ro} {a:Addr} (h:Fp ρ a):Fp (ρ ++ t) a:=let ⟨p,hp,e⟩:=h; ⟨p,List.mem_append_left _ hp,e⟩
theorem Grow.refl {X:Addr → Prop} {G ρ s}:Grow X G ρ s G ρ s :=
  ⟨fun _ _ h=>h,⟨[],by simp⟩,fun _ _ h=>.inl h,fun _ h=>.inl h,fun _ _ h _ _=>h,fun _ h=>h,⟨_,_,rfl⟩⟩
theorem none_of_al {s s':Shared} (al:∀ b,(s.heap.get? b).isSome = true → (s'.heap.get? b).isSome = true) {a:Addr} (h:s'.heap.get? a = none):s.heap.get? a = none:=by
  cases e:s.heap.get? a with
  | none=>rfl
  | some o=>have:=al a (by rw [e]; rfl); rw [h] at this; cases this
theorem Grow.trans {X:Addr → Prop} {G G₁ G₂:Gh} {ρ ρ₁ ρ₂:Ro} {s s₁ s₂:Shared} (a:Grow X G ρ s G₁ ρ₁ s₁) (b:Grow X G₁ ρ₁ s₁ G₂ ρ₂ s₂):Grow X G ρ s G₂ ρ₂ s₂:=by
  refine ⟨fun c o h=>b.g c o (a.g c o h),?_,?_,?_,?_,fun c h=>b.al c (a.al c h),?_⟩
  · obtain ⟨t,ht⟩:=a.r; obtain ⟨u,hu⟩:=b.r; exact ⟨t ++ u,by rw [hu,ht,List.append_assoc]⟩
  · intro c o h
    rcases b.gf c o h with h | h | h
    · exact a.gf c o h
    · exact .inr (.inl (none_of_al a.al h))
    · rcases a.rf c h with h | h
      · exact .inr (.inr h)
      · exact .inr (.inl h)
  · intro c h
    rcases b.rf c h with h | h
    · exact a.rf c h
    · exact .inr (none_of_al a.al h)
  · intro c o h hf hx
    refine b.fr c o (a.fr c o h hf hx) (fun hf'=>?_) hx
    rcases a.rf c hf' with h' | h'
    · exact hf h'
    · rw [h] at h'; cases h'
  · obtain ⟨h,tk,rfl⟩:=a.st; obtain ⟨h',tk',rfl⟩:=b.st; exact ⟨_,_,rfl⟩
theorem Grow.weaken {X Y:Addr → Prop} {G G₁:Gh} {ρ ρ₁:Ro} {s s₁:Shared} (a:Grow X G ρ s G₁ ρ₁ s₁) (h:∀ b,X b → Y b):Grow Y G ρ s G₁ ρ₁ s₁ :=
  ⟨a.g,a.r,a.gf,a.rf,fun b o e hf hy=>a.fr b o e hf fun hx=>hy (h b hx),a.al,a.st⟩
theorem Grow.pure {X:Addr → Prop} {G:Gh} {ρ:Ro} {s s':Shared} (st:∃ h tk,s' = { s with heap:=h,toks:=tk }) (hk:∀ b o,s.heap.get? b = some o → s'.heap.get? b = some o):Grow X G ρ s G ρ s' :=
  ⟨fun _ _ h=>h,⟨[],by simp⟩,fun _ _ h=>.inl h,fun _ h=>.inl h,fun b o h _ _=>hk b o h,fun b h=>by
    obtain ⟨o,ho⟩:=Option.isSome_iff_exists.mp h
    rw [hk b o ho]; rfl,st⟩
section
variable {w:Params} {G G':Gh} {ρ ρ':Ro} {z:Zo} {h h':Heap}
theorem ZOb.mono (hg:∀ a o,G a = some o → G' a = some o) (hr:∃ t,ρ' = ρ ++ t) {p:Addr × Addr} {o:O} (hk:o.mut = true → h'.get? p.1 = h.get? p.1 ∧ h'.get? p.2 = h.get? p.2) (x:ZOb w G ρ h p o):ZOb w G' ρ' h' p o:=by
  cases o with
  | list vs=>obtain ⟨a,vals,n,b,c,d⟩:=x; exact ⟨a,vals,n,(hk rfl).1.trans b,c,d.mono hg hr⟩
  | dict es=>obtain ⟨a,q,vals,n,b,c,d⟩:=x; exact ⟨a,q,vals,n,(hk rfl).1.trans b,c,d.mono hg hr⟩
  | inst C fs=>obtain ⟨a,vals,n,b,b',c,d⟩:=x; exact ⟨a,vals,n,(hk rfl).1.trans b,(hk rfl).2.trans b',c,d.mono hg hr⟩
  | frz t=>exact Rep.mono hg x
theorem Fp.of {k:Nat} {p:Addr × Addr} (hk:ρ[k]? = some p):Fp ρ p.1 ∧ Fp ρ p.2:=⟨⟨p,List.mem_of_getElem? hk,.inl rfl⟩,⟨p,List.mem_of_getElem? hk,.inr rfl⟩⟩
theorem ZRel.keeps (R:ZRel w G ρ z h) (hk:∀ b o,h.get? b = some o → h'.get? b = some o):ZRel w G ρ z h':=by
  refine ⟨R.len,fun a o e=>hk a o (R.keep a o e),fun k p o hp ho=>?_,R.new,R.inj,fun a ha=>?_⟩
  · refine (R.obj k p o hp ho).mono (fun _ _ e=>e) ⟨[],by simp⟩ fun _=>?_
    have h1:=R.live p.1 (Fp.of hp).1
    have h2:=R.live p.2 (Fp.of hp).2
    obtain ⟨o1,e1⟩:=Option.isSome_iff_exists.mp h1
    obtain ⟨o2,e2⟩:=Option.isSome_iff_exists.mp h2
    exact ⟨(hk _ _ e1).trans e1.symm,(hk _ _ e2).trans e2.symm⟩
  · obtain ⟨o,e⟩:=Option.isSome_iff_exists.mp (R.live a ha); rw [hk a o e]; rfl
noncomputable def Gh.put (G:Gh) (a:Addr) (o:Obj):Gh:=fun b=>if b = a then some o else G b
theorem Gh.put_self (G:Gh) (a:Addr) (o:Obj):G.put a o a = some o:=if_pos rfl
theorem Gh.put_le {G:Gh} {a:Addr} {o:Obj} (hn:G a = none):∀ b x,G b = some x → G.put a o b = some x:=fun b x e=>by
  unfold Gh.put
  by_cases hb:b = a
  · subst hb; rw [hn] at e; cases e
  · rw [if_neg hb]; exact e
end
end Mine
end
section
open PySem PySem.W PyProof.Rows
namespace Mine
section
variable {w:Params} {G G':Gh} {ρ ρ':Ro} {z:Zo} {h h':Heap} {s s':Shared} {X:Addr → Prop}
theorem ZRel.gnone (R:ZRel w G ρ z h) {a:Addr} (hn:h.get? a = none):G a = none:=by
  cases e:G a with
  | none=>rfl
  | some o=>rw [R.keep a o e] at hn; cases hn
theorem ZRel.fnone (R:ZRel w G ρ z h) {a:Addr} (hn:h.get? a = none):¬ Fp ρ a:=fun hf=>by
  have:=R.live a hf; rw [hn] at this; cases this
theorem frozen_new (R:ZRel w G ρ z s.heap) {a:Addr} {o:Obj} (st:∃ h tk,s' = { s with heap:=h,toks:=tk }) (hk:∀ b o,s.heap.get? b = some o → s'.heap.get? b = some o)
    (hn:s.heap.get? a = none) (ha:s'.heap.get? a = some o):Grow X G ρ s (G.put a o) ρ s' ∧ ZRel w (G.put a o) ρ z s'.heap:=by
  have gn:=R.gnone hn
  have fn:=R.fnone hn
  refine ⟨⟨Gh.put_le gn,⟨[],by simp⟩,fun b x e=>?_,fun _ h=>.inl h,fun b x e _ _=>hk b x e,fun b h=>by
      obtain ⟨o,ho⟩:=Option.isSome_iff_exists.mp h
      rw [hk b o ho]; rfl,st⟩,?_⟩
  · unfold Gh.put at e
    by_cases hb:b = a
    · subst hb; exact .inr (.inl hn)
    · rw [if_neg hb] at e; exact .inl e
  · have R':=R.keeps hk
    refine ⟨R'.len,fun b x e=>?_,fun k p oo hp ho=>(R'.obj k p oo hp ho).mono (Gh.put_le gn) ⟨[],by simp⟩ fun _=>⟨rfl,rfl⟩,fun k p oo hp ho hm=>?_,R'.inj,R'.live⟩
    · unfold Gh.put at e
      by_cases hb:b = a
      · subst hb; rw [if_pos rfl] at e; cases e; exact ha
      · rw [if_neg hb] at e; exact R'.keep b x e
    · have q:=R'.new k p oo hp ho hm
      have f:=Fp.of hp
      unfold Gh.put
      exact ⟨by rw [if_neg (fun e:p.1 = a=>fn (e ▸ f.1))]; exact q.1,by rw [if_neg (fun e:p.2 = a=>fn (e ▸ f.2))]; exact q.2⟩
theorem look_app {α:Type} {l:List α} {p q:α} {k:Nat} (e:(l ++ [p])[k]? = some q):(k < l.length ∧ l[k]? = some q) ∨ (k = l.length ∧ q = p):=by
  rcases Nat.lt_trichotomy k l.length with h | h | h
  · exact .inl ⟨h,by rwa [List.getElem?_append_left h] at e⟩
  · subst h; simp at e; exact .inr ⟨rfl,e.symm⟩
  · rw [List.getElem?_eq_none (by simp; omega)] at e; cases e
theorem look_set {α:Type} {l:List α} {p q o:α} {i k:Nat} (ho:l[k]? = some o) (e:(l.set k p)[i]? = some q):(i = k ∧ q = p) ∨ (i ≠ k ∧ l[i]? = some q):=by
  by_cases h:i = k
  · subst h
    rw [List.getElem?_set_self (List.getElem?_eq_some_iff.mp ho).1] at e
    cases e; exact .inl ⟨rfl,rfl⟩
  · rw [List.getElem?_set_ne (Ne.symm h)] at e; exact .inr ⟨h,e⟩
theorem look_app2 {α β:Type} {l:List α} {m:List β} {p q:α} {o x:β} {k:Nat} (hl:l.length = m.length) (e:(l ++ [p])[k]? = some q) (e2:(m ++ [o])[k]? = some x):(k < l.length ∧ l[k]? = some q ∧ m[k]? = some x) ∨ (k = l.length ∧ q = p ∧ x = o):=by
  rcases look_app e with ⟨h,h1⟩ | ⟨h,h1⟩ <;> rcases look_app e2 with ⟨h',h2⟩ | ⟨h',h2⟩
  · exact .inl ⟨h,h1,h2⟩
  · omega
  · omega
  · exact .inr ⟨h,h1,h2⟩
theorem Fp.app_inv {a:Addr} {p:Addr × Addr} (h:Fp (ρ ++ [p]) a):Fp ρ a ∨ a = p.1 ∨ a = p.2:=by
  obtain ⟨q,hq,e⟩:=h
  rcases List.mem_append.mp hq with hq | hq
  · exact .inl ⟨q,hq,e⟩
  · rw [List.mem_singleton.mp hq] at e; exact .inr e
theorem keep_some {h h':Heap} (hk:∀ b o,h.get? b = some o → h'.get? b = some o) (b:Addr) (e:(h.get? b).isSome = true):(h'.get? b).isSome = true:=by
  cases q:h.get? b with
  | none=>rw [q] at e; cases e
  | some o=>rw [hk b o q]; rfl
theorem zone_add (R:ZRel w G ρ z h) {p:Addr × Addr} {o:O} (g1:G p.1 = none) (g2:G p.2 = none) (f1:¬ Fp ρ p.1) (f2:¬ Fp ρ p.2) (hl1:(h.get? p.1).isSome = true) (hl2:(h.get? p.2).isSome = true) (ho:ZOb w G (ρ ++ [p]) h p o) :
    ZRel w G (ρ ++ [p]) (z ++ [o]) h:=by
  refine ⟨by simp [R.len],R.keep,fun k q x hq hx=>?_,fun k q x hq hx hm=>?_,fun i j q r oi oj hij hq hr hi hj mi mj=>?_,fun a ha=>?_⟩
  · rcases look_app2 R.len hq hx with ⟨_,hq,hx⟩ | ⟨_,rfl,rfl⟩
    · exact (R.obj k q x hq hx).mono (fun _ _ e=>e) ⟨[p],rfl⟩ fun _=>⟨rfl,rfl⟩
    · exact ho
  · rcases look_app2 R.len hq hx with ⟨_,hq,hx⟩ | ⟨_,rfl,_⟩
    · exact R.new k q x hq hx hm
    · exact ⟨g1,g2⟩
  · clear hl1 hl2 ho g1 g2
    have ap:∀ {k:Nat} {q:Addr × Addr},ρ[k]? = some q → q.1 ≠ p.1 ∧ q.1 ≠ p.2 ∧ q.2 ≠ p.1 ∧ q.2 ≠ p.2:=fun {k q} e =>
      ⟨fun e'=>f1 (e' ▸ (Fp.of e).1),fun e'=>f2 (e' ▸ (Fp.of e).1),fun e'=>f1 (e' ▸ (Fp.of e).2),fun e'=>f2 (e' ▸ (Fp.of e).2)⟩
    rcases look_app2 R.len hq hi with ⟨_,hq1,hi1⟩ | ⟨ei,eq1,_⟩ <;> rcases look_app2 R.len hr hj with ⟨_,hr1,hj1⟩ | ⟨ej,eq2,_⟩
    · exact R.inj i j q r oi oj hij hq1 hr1 hi1 hj1 mi mj
    · rw [eq2]; exact ap hq1
    · have:=ap hr1
      rw [eq1]
      exact ⟨this.1.symm,this.2.2.1.symm,this.2.1.symm,this.2.2.2.symm⟩
    · exact absurd (ei.trans ej.symm) hij
  · rcases Fp.app_inv ha with h | rfl | rfl
    · exact R.live a h
    · exact hl1
    · exact hl2
theorem zone_new (R:ZRel w G ρ z s.heap) {p:Addr × Addr} {o:O} (st:∃ h tk,s' = { s with heap:=h,toks:=tk }) (hk:∀ b o,s.heap.get? b = some o → s'.heap.get? b = some o)
    (hn1:s.heap.get? p.1 = none) (hn2:s.heap.get? p.2 = none) (hl1:(s'.heap.get? p.1).isSome = true) (hl2:(s'.heap.get? p.2).isSome = true) (ho:ZOb w G (ρ ++ [p]) s'.heap p o) :
    Grow X G ρ s G (ρ ++ [p]) s' ∧ ZRel w G (ρ ++ [p]) (z ++ [o]) s'.heap :=
  ⟨⟨fun _ _ h=>h,⟨[p],rfl⟩,fun _ _ h=>.inl h,fun _ ha=>(Fp.app_inv ha).imp id fun h=>h.elim (fun e=>e ▸ hn1) fun e=>e ▸ hn2,fun b x e _ _=>hk b x e,keep_some hk,st⟩,zone_add (R.keeps hk) (R.gnone hn1) (R.gnone hn2) (R.fnone hn1) (R.fnone hn2) hl1 hl2 ho⟩
theorem zone_set (R:ZRel w G ρ z s.heap) {k:Nat} {p:Addr × Addr} {o o':O} (hp:ρ[k]? = some p) (ho:z[k]? = some o) (hm:o.mut = true) (st:∃ h tk,s' = { s with heap:=h,toks:=tk })
    (hs:∀ b,b ≠ p.1 → b ≠ p.2 → s'.heap.get? b = s.heap.get? b) (hl1:(s'.heap.get? p.1).isSome = true) (hl2:(s'.heap.get? p.2).isSome = true) (hm':o'.mut = true) (hz:ZOb w G ρ s'.heap p o') :
    Grow X G ρ s G ρ s' ∧ ZRel w G ρ (z.set k o') s'.heap:=by
  have gp:=R.new k p o hp ho hm
  have live:∀ b,(s.heap.get? b).isSome = true → (s'.heap.get? b).isSome = true:=fun b hb=>by
    by_cases h1:b = p.1
    · rw [h1]; exact hl1
    · by_cases h2:b = p.2
      · rw [h2]; exact hl2
      · rw [hs b h1 h2]; exact hb
  clear hl1 hl2
  have f:=Fp.of hp
  refine ⟨⟨fun _ _ h=>h,⟨[],by simp⟩,fun _ _ h=>.inl h,fun _ h=>.inl h,fun b x e hf _=>?_,live,st⟩,⟨by simp [R.len],fun a x e=>?_,fun i q x hq hx=>?_,fun i q x hq hx hm2=>?_,fun i j q r oi oj hij hq hr hi hj mi mj=>?_,fun a ha=>live a (R.live a ha)⟩⟩
  · rw [hs b (fun e=>hf (e ▸ f.1)) (fun e=>hf (e ▸ f.2))]; exact e
  · rw [hs a (fun h=>by rw [h,gp.1] at e; cases e) (fun h=>by rw [h,gp.2] at e; cases e)]; exact R.keep a x e
  · rcases look_set ho hx with ⟨rfl,rfl⟩ | ⟨hne,hx⟩
    · rw [hp] at hq; cases hq; exact hz
    · refine (R.obj i q x hq hx).mono (fun _ _ e=>e) ⟨[],by simp⟩ fun hmx=>?_
      have ap:=R.inj i k q p x o hne hq hp hx ho hmx hm
      exact ⟨hs _ ap.1 ap.2.1,hs _ ap.2.2.1 ap.2.2.2⟩
  · rcases look_set ho hx with ⟨rfl,_⟩ | ⟨_,hx⟩
    · rw [hp] at hq; cases hq; exact gp
    · exact R.new i q x hq hx hm2
  · clear hz hs live st hm' gp f
    rcases look_set ho hi with ⟨e1,_⟩ | ⟨_,hi1⟩ <;> rcases look_set ho hj with ⟨e2,_⟩ | ⟨_,hj1⟩
    · exact absurd (e1.trans e2.symm) hij
    · exact R.inj i j q r _ _ hij hq hr (e1 ▸ ho) hj1 hm mj
    · exact R.inj i j q r _ _ hij hq hr hi1 (e2 ▸ ho) mi hm
    · exact R.inj i j q r _ _ hij hq hr hi1 hj1 mi mj
theorem zone_frzG (R:ZRel w G ρ z s.heap) {G1:Gh} {k:Nat} {p:Addr × Addr} {o:O} {t:V} (hp:ρ[k]? = some p) (ho:z[k]? = some o) (hm:o.mut = true) (le:∀ b x,G b = some x → G1 b = some x)
    (gs:∀ b x,G1 b = some x → G b = some x ∨ ((b = p.1 ∨ b = p.2) ∧ s.heap.get? b = some x)) (hz:Rep w G1 (.ref p.1) t):Grow X G ρ s G1 ρ s ∧ ZRel w G1 ρ (z.set k (.frz t)) s.heap:=by
  have f:=Fp.of hp
  have ne:∀ b,b ≠ p.1 → b ≠ p.2 → G b = none → G1 b = none:=fun b h1 h2 e=>by
    cases q:G1 b with
    | none=>rfl
    | some x =>
      rcases gs b x q with h | ⟨h | h,_⟩
      · rw [e] at h; cases h
      · exact absurd h h1
      · exact absurd h h2
  refine ⟨⟨le,⟨[],by simp⟩,fun b x e=>?_,fun _ h=>.inl h,fun _ _ e _ _=>e,fun _ h=>h,⟨_,_,rfl⟩⟩,⟨by simp [R.len],fun a x e=>?_,fun i q x hq hx=>?_,fun i q x hq hx hm2=>?_,fun i j q r oi oj hij hq hr hi hj mi mj=>?_,R.live⟩⟩
  · rcases gs b x e with h | ⟨h | h,_⟩
    · exact .inl h
    · exact .inr (.inr (h ▸ f.1))
    · exact .inr (.inr (h ▸ f.2))
  · exact (gs a x e).elim (R.keep a x) fun h=>h.2
  · rcases look_set ho hx with ⟨rfl,rfl⟩ | ⟨_,hx⟩
    · rw [hp] at hq; cases hq; exact hz
    · exact (R.obj i q x hq hx).mono le ⟨[],by simp⟩ fun _=>⟨rfl,rfl⟩
  · rcases look_set ho hx with ⟨_,rfl⟩ | ⟨hne,hx⟩
    · cases hm2
    · have q1:=R.new i q x hq hx hm2
      have ap:=R.inj i k q p x o hne hq hp hx ho hm2 hm
      exact ⟨ne _ ap.1 ap.2.1 q1.1,ne _ ap.2.2.1 ap.2.2.2 q1.2⟩
  · rcases look_set ho hi with ⟨_,rfl⟩ | ⟨_,hi⟩
    · cases mi
    · rcases look_set ho hj with ⟨_,rfl⟩ | ⟨_,hj⟩
      · cases mj
      · exact R.inj _ _ q r _ _ hij hq hr hi hj mi mj
theorem put_inv {a b:Addr} {o x:Obj} (e:G.put a o b = some x):G b = some x ∨ (b = a ∧ o = x):=by
  unfold Gh.put at e
  by_cases h:b = a
  · rw [if_pos h] at e; exact .inr ⟨h,Option.some.inj e⟩
  · rw [if_neg h] at e; exact .inl e
theorem put_ne {a b:Addr} {o:Obj} (h:b ≠ a):G.put a o b = G b:=if_neg h
theorem zone_frz1 (R:ZRel w G ρ z s.heap) {k:Nat} {p:Addr × Addr} {o:O} {ob:Obj} {t:V} (hp:ρ[k]? = some p) (ho:z[k]? = some o) (hm:o.mut = true) (hob:s.heap.get? p.1 = some ob)
    (hz:Rep w (G.put p.1 ob) (.ref p.1) t):Grow X G ρ s (G.put p.1 ob) ρ s ∧ ZRel w (G.put p.1 ob) ρ (z.set k (.frz t)) s.heap :=
  zone_frzG R hp ho hm (Gh.put_le (R.new k p o hp ho hm).1) (fun _ _ e=>(put_inv e).imp id fun ⟨h,e⟩=>⟨.inl h,h ▸ e ▸ hob⟩) hz
theorem zone_frz2 (R:ZRel w G ρ z s.heap) {k:Nat} {p:Addr × Addr} {o:O} {ob od:Obj} {t:V} (hp:ρ[k]? = some p) (ho:z[k]? = some o) (hm:o.mut = true) (hne:p.1 ≠ p.2) (hob:s.heap.get? p.1 = some ob) (hod:s.heap.get? p.2 = some od)
    (hz:Rep w ((G.put p.1 ob).put p.2 od) (.ref p.1) t):Grow X G ρ s ((G.put p.1 ob).put p.2 od) ρ s ∧ ZRel w ((G.put p.1 ob).put p.2 od) ρ (z.set k (.frz t)) s.heap :=
  have gp:=R.new k p o hp ho hm
  zone_frzG R hp ho hm (fun a x e=>Gh.put_le ((put_ne (Ne.symm hne)).trans gp.2) a x (Gh.put_le gp.1 a x e))
    (fun _ _ e=>(put_inv e).elim (fun e=>(put_inv e).imp id fun ⟨h,e⟩=>⟨.inl h,h ▸ e ▸ hob⟩) fun ⟨h,e⟩=>.inr ⟨.inr h,h ▸ e ▸ hod⟩) hz
end
theorem mutAt_some {z:Zo} {k:Nat} (h:mutAt z k = true):∃ o,z[k]? = some o ∧ o.mut = true:=by
  unfold mutAt at h
  cases e:z[k]? with
  | none=>rw [e] at h; cases h
  | some o=>rw [e] at h; exact ⟨o,rfl,h⟩
section
variable {w:Params} {X:Addr → Prop} {f:V → Zo → Option (V × Zo)}
inductive Fz (w:Params) (X:Addr → Prop) (G:Gh) (ρ:Ro) (s:Shared) (z':Zo) (Q:Gh → Prop):Prop
  | mk (G'):Grow X G ρ s G' ρ s → ZRel w G' ρ z' s.heap → Q G' → Fz w X G ρ s z' Q
theorem Fz.bd {G ρ s z' z'' Q Q'} (h:Fz w X G ρ s z' Q) (k:∀ G',(∀ a o,G a = some o → G' a = some o) → ZRel w G' ρ z' s.heap → Q G' → Fz w X G' ρ s z'' Q'):Fz w X G ρ s z'' Q' :=
  let ⟨G1,g1,R1,r1⟩:=h
  let ⟨G2,g2,R2,r2⟩:=k G1 g1.g R1 r1
  ⟨G2,g1.trans g2,R2,r2⟩
theorem Fz.here {G ρ s z} {Q:Gh → Prop} (R:ZRel w G ρ z s.heap) (h:Q G):Fz w X G ρ s z Q:=⟨G,.refl,R,h⟩
noncomputable def FzV (w:Params) (X:Addr → Prop) (f:V → Zo → Option (V × Zo)):Prop:=∀ v z t z',f v z = some (t,z') → ∀ G ρ s x,ZRel w G ρ z s.heap → RepO w G ρ x v → Fz w X G ρ s z' fun G'=>Rep w G' x t
theorem frzL_go (one:FzV w X f):∀ vs z ts z',frzLf f vs z = some (ts,z') → ∀ G ρ s xs,ZRel w G ρ z s.heap → ROL w G ρ xs vs → Fz w X G ρ s z' fun G'=>RepL w G' xs ts:=by
  intro vs
  induction vs with
  | nil =>
    intro z ts z' e G ρ s xs R h
    cases h
    exact so2 (show some (_,_) = some (_,_) from e) (.here R .nil)
  | cons v vs ih =>
    intro z ts z' e G ρ s xs R h
    refine bd2 e fun t z1 e1 e=>mp2 e fun ts' z2 e2 e=>?_
    cases h with
    | cons h1 h2=>exact pr2 (show (_,_) = (_,_) from e) ((one v z t z1 e1 G ρ s _ R h1).bd fun G1 g1 R1 r1=>(ih z1 ts' z2 e2 G1 ρ s _ R1 (h2.mono g1 ⟨[],(List.append_nil _).symm⟩)).bd fun G2 g2 R2 r2=>.here R2 (.cons (r1.mono g2) r2))
theorem frzE_go (one:FzV w X f):∀ vs z ts z',frzEf f vs z = some (ts,z') → ∀ G ρ s xs,ZRel w G ρ z s.heap → ROE w G ρ xs vs → Fz w X G ρ s z' fun G'=>RepE w G' xs ts:=by
  intro vs
  induction vs with
  | nil =>
    intro z ts z' e G ρ s xs R h
    cases h
    exact so2 (show some (_,_) = some (_,_) from e) (.here R .nil)
  | cons v vs ih =>
    intro z ts z' e G ρ s xs R h
    refine bd2 (o:=f v.2 z) e fun t z1 e1 e=>mp2 e fun ts' z2 e2 e=>?_
    cases h with
    | cons h1 h2=>exact pr2 (show (_,_) = (_,_) from e) ((one _ z t z1 e1 G ρ s _ R h1).bd fun G1 g1 R1 r1=>(ih z1 ts' z2 e2 G1 ρ s _ R1 (h2.mono g1 ⟨[],(List.append_nil _).symm⟩)).bd fun G2 g2 R2 r2=>.here R2 (.cons (r1.mono g2) r2))
theorem frz_sound:∀ (d:Nat),FzV w X (frzV d)
  | 0=>fun v z t z' e=>nomatch e
  | d + 1=>by
    have ih:=frz_sound d
    intro v z t z' e G ρ s x R h
    cases v with
    | own k =>
      obtain ⟨p,hp,rfl⟩:=h
      have e:(match z[k]? with
        | some (.frz t)=>some (t,z)
        | some (.list vs)=>(frzLf (frzV d) vs z).bind fun (ts,z')=>if mutAt z' k then some (.list ts,z'.set k (.frz (.list ts))) else none
        | some (.dict es)=>(frzEf (frzV d) es z).bind fun (ts,z')=>if mutAt z' k then some (.dict ts,z'.set k (.frz (.dict ts))) else none
        | some (.inst C fs)=>(frzEf (frzV d) fs z).bind fun (ts,z')=>if mutAt z' k then some (.inst C ts,z'.set k (.frz (.inst C ts))) else none
        | none=>none) = some (t,z'):=e
      cases ho:z[k]? with
      | none=>rw [ho] at e; exact mt e
      | some o =>
        rw [ho] at e
        have hob:=R.obj k p o hp ho
        cases o with
        | frz t'=>exact so2 e (.here R hob)
        | list vs =>
          refine bd2 e fun ts z1 e1 e=>ifs e fun hq e=>so2 e ?_
          obtain ⟨he,vals,n,hv,hl,hr⟩:=hob
          refine (frzL_go ih vs z ts z1 e1 G ρ s _ R hr).bd fun G1 g1 R1 r1=>?_
          obtain ⟨o1,ho1,hm⟩:=mutAt_some hq
          have rep:Rep w (G1.put p.1 (listOf vals n)) (.ref p.1) (.list ts) :=
            .list (Gh.put_self ..) rfl rfl rfl (by rw [← r1.length,hr.length]; exact hl) (r1.mono (Gh.put_le (R1.new k p o1 hp ho1 hm).1))
          have q:=zone_frz1 (X:=X) R1 hp ho1 hm hv rep
          exact ⟨_,q.1,q.2,rep⟩
        | dict es =>
          refine bd2 e fun ts z1 e1 e=>ifs e fun hq e=>so2 e ?_
          obtain ⟨he,hsys,vals,n,hv,hl,hr⟩:=hob
          refine (frzE_go ih es z ts z1 e1 G ρ s _ R hr).bd fun G1 g1 R1 r1=>?_
          obtain ⟨o1,ho1,hm⟩:=mutAt_some hq
          have rep:Rep w (G1.put p.1 (dictOf vals n)) (.ref p.1) (.dict ts) :=
            .dict (Gh.put_self ..) hsys (r1.mono (Gh.put_le (R1.new k p o1 hp ho1 hm).1))
          have q:=zone_frz1 (X:=X) R1 hp ho1 hm hv rep
          exact ⟨_,q.1,q.2,rep⟩
        | inst C fs =>
          refine bd2 e fun ts z1 e1 e=>ifs e fun hq e=>so2 e ?_
          obtain ⟨he,vals,n,hv,hv2,hl,hr⟩:=hob
          refine (frzE_go ih fs z ts z1 e1 G ρ s _ R hr).bd fun G1 g1 R1 r1=>?_
          obtain ⟨o1,ho1,hm⟩:=mutAt_some hq
          have gn:=R1.new k p o1 hp ho1 hm
          have g2n:(G1.put p.1 (instObj C p.2)) p.2 = none:=(put_ne (Ne.symm he)).trans gn.2
          have rep:Rep w ((G1.put p.1 (instObj C p.2)).put p.2 (dictOf vals n)) (.ref p.1) (.inst C ts) :=
            .inst (d:=p.2) (Gh.put_le g2n _ _ (Gh.put_self ..)) (Gh.put_self ..) (r1.mono fun a x e=>Gh.put_le g2n a x (Gh.put_le gn.1 a x e))
          have q:=zone_frz2 (X:=X) R1 hp ho1 hm he hv hv2 rep
          exact ⟨_,q.1,q.2,rep⟩
    | _=>exact so2 (show some (_,_) = some (_,_) from e) (.here R h)
end
end Mine
end
section
open PySem PySem.W PyProof.Rows
namespace Mine
noncomputable abbrev NoX:Addr → Prop:=fun _=>False
theorem frz_ok {w:Params} {X:Addr → Prop} {v t:V} {z z':Zo} {G:Gh} {ρ:Ro} {s:Shared} {x:Value} (e:frz v z = some (t,z')) (R:ZRel w G ρ z s.heap) (h:RepO w G ρ x v) :
    Fz w X G ρ s z' fun G'=>Rep w G' x t:=frz_sound frzDepth v z t z' e G ρ s x R h
theorem frzs_ok {w:Params} {X:Addr → Prop} {v t:List V} {z z':Zo} {G:Gh} {ρ:Ro} {s:Shared} {x:List Value} (e:frzs v z = some (t,z')) (R:ZRel w G ρ z s.heap) (h:ROL w G ρ x v) :
    Fz w X G ρ s z' fun G'=>RepL w G' x t:=frzL_go (frz_sound frzDepth) v z t z' e G ρ s x R h
inductive NsR (w:Params) (G:Gh) (ρ:Ro) (cenv:Env) (ks:Ks) (e:En) (h:Heap):Prop
  | mk (m):h.Ns cenv.locals m → (∀ x V,ks.lookup x = some .local → e.lookup x = some V → ∃ v,m x = some v ∧ RepO w G ρ v V) → NsR w G ρ cenv ks e h
inductive CellR (w:Params) (G:Gh) (ρ:Ro) (cenv:Env) (e:En) (h:Heap) (x:S):Prop
  | mk (c ov):cenv.cells.lookup x = some c → h.IsCell c ov → G c = none → ¬ Fp ρ c → c ≠ cenv.locals → (∀ V,e.lookup x = some V → ∃ v,ov = some v ∧ RepO w G ρ v V) → CellR w G ρ cenv e h x
structure FRel (w:Params) (G:Gh) (ρ:Ro) (cenv:Env) (ks:Ks) (e:En) (h:Heap):Prop where
  kind:cenv.scope.kind = .function
  names:cenv.scope.names = ks
  glob:cenv.globals = mainGlobals
  bui:cenv.builtins = builtinsNs
  lG:G cenv.locals = none
  lF:¬ Fp ρ cenv.locals
  ns:NsR w G ρ cenv ks e h
  cell:∀ x,ks.lookup x = some .cell → CellR w G ρ cenv e h x
  cinj:∀ x y c,ks.lookup x = some .cell → ks.lookup y = some .cell → cenv.cells.lookup x = some c → cenv.cells.lookup y = some c → x = y
noncomputable def XF (cenv:Env) (ks:Ks):Addr → Prop:=fun a=>a = cenv.locals ∨ ∃ x,ks.lookup x = some .cell ∧ cenv.cells.lookup x = some a
section
variable {w:Params} {G G':Gh} {ρ ρ':Ro} {s s':Shared} {cenv:Env} {ks:Ks} {e:En} {X:Addr → Prop}
theorem Ns_some {h:Heap} {a:Addr} {m} (n:h.Ns a m):∃ o,h.get? a = some o:=let ⟨o,_,_,ho,_⟩:=n; ⟨o,ho⟩
theorem IsCell_some {h:Heap} {a:Addr} {m} (n:h.IsCell a m):∃ o,h.get? a = some o:=let ⟨o,ho,_⟩:=n; ⟨o,ho⟩
theorem FRel.grow (F:FRel w G ρ cenv ks e s.heap) (g:Grow X G ρ s G' ρ' s') (hX:∀ a,X a → ¬ XF cenv ks a):FRel w G' ρ' cenv ks e s'.heap:=by
  obtain ⟨m,hn,hm⟩:=F.ns
  obtain ⟨oL,hoL⟩:=Ns_some hn
  have up:∀ a o,XF cenv ks a → ¬ Fp ρ a → s.heap.get? a = some o → s'.heap.get? a = some o:=fun a o hx hf e=>g.fr a o e hf fun h=>hX a h hx
  have nG:∀ a o,s.heap.get? a = some o → G a = none → ¬ Fp ρ a → G' a = none ∧ ¬ Fp ρ' a:=by
    intro a o ho hg hf
    constructor
    · cases q:G' a with
      | none=>rfl
      | some x =>
        rcases g.gf a x q with h | h | h
        · rw [hg] at h; cases h
        · rw [ho] at h; cases h
        · exact absurd h hf
    · intro hf'
      rcases g.rf a hf' with h | h
      · exact hf h
      · rw [ho] at h; cases h
  refine ⟨F.kind,F.names,F.glob,F.bui,(nG _ _ hoL F.lG F.lF).1,(nG _ _ hoL F.lG F.lF).2,⟨m,hn.at fun o ho=>up _ o (.inl rfl) F.lF ho,fun x V hx he=>?_⟩,fun x hx=>?_,F.cinj⟩
  · obtain ⟨v,hv,hr⟩:=hm x V hx he
    exact ⟨v,hv,hr.mono g.g g.r⟩
  · obtain ⟨c,ov,hc,hi,hg,hf,hl,hv⟩:=F.cell x hx
    obtain ⟨oc,hoc⟩:=IsCell_some hi
    refine ⟨c,ov,hc,?_,(nG _ _ hoc hg hf).1,(nG _ _ hoc hg hf).2,hl,fun V hV=>?_⟩
    · obtain ⟨o,ho,hd⟩:=hi
      exact ⟨o,up c o (.inr ⟨x,hx,hc⟩) hf ho,hd⟩
    · obtain ⟨v,e1,e2⟩:=hv V hV
      exact ⟨v,e1,e2.mono g.g g.r⟩
theorem FRel.grow0 (F:FRel w G ρ cenv ks e s.heap) (g:Grow NoX G ρ s G' ρ' s'):FRel w G' ρ' cenv ks e s'.heap:=F.grow g fun _ h=>h.elim
theorem Grow.hide {s1:Shared} (hk:∀ b o,s.heap.get? b = some o → s1.heap.get? b = some o) (st:∃ h tk,s1 = { s with heap:=h,toks:=tk }) (g:Grow X G ρ s1 G' ρ' s') (hx:∀ b,X b → s.heap.get? b = none):Grow NoX G ρ s G' ρ' s':=by
  have al:∀ b,(s.heap.get? b).isSome = true → (s1.heap.get? b).isSome = true:=fun b h=>by
    obtain ⟨o,ho⟩:=Option.isSome_iff_exists.mp h; rw [hk b o ho]; rfl
  refine ⟨g.g,g.r,fun a o h=>?_,fun a h=>?_,fun b o h hf _=>g.fr b o (hk b o h) hf fun hX=>?_,fun b h=>g.al b (al b h),?_⟩
  · rcases g.gf a o h with h | h | h
    · exact .inl h
    · exact .inr (.inl (none_of_al al h))
    · exact .inr (.inr h)
  · rcases g.rf a h with h | h
    · exact .inl h
    · exact .inr (none_of_al al h)
  · rw [hx b hX] at h; cases h
  · obtain ⟨h1,t1,rfl⟩:=st; obtain ⟨h2,t2,rfl⟩:=g.st; exact ⟨_,_,rfl⟩
end
structure Base (K:Frag) (p:Program) (loose:List S) (mg mb:S → Option Value) (G:Gh):Prop where
  ex:∃ h₀:Heap,(∀ a o,h₀.get? a = some o → G a = some o) ∧ K.In h₀ ∧ TopRead p loose mg mb h₀
theorem Base.mono {K p loose mg mb} {G G':Gh} (B:Base K p loose mg mb G) (hg:∀ a o,G a = some o → G' a = some o):Base K p loose mg mb G':=by
  obtain ⟨h₀,a,b,c⟩:=B.ex
  exact ⟨h₀,fun x o e=>hg x o (a x o e),b,c⟩
theorem Base.kin {K p loose mg mb} {w:Params} {G:Gh} {ρ z h} (B:Base K p loose mg mb G) (R:ZRel w G ρ z h):K.In h:=by
  obtain ⟨h₀,a,b,c⟩:=B.ex
  exact b.keeps fun x o e=>R.keep x o (a x o e)
theorem Base.top {K p loose mg mb} {w:Params} {G:Gh} {ρ z h} (B:Base K p loose mg mb G) (R:ZRel w G ρ z h):TopRead p loose mg mb h:=by
  obtain ⟨h₀,a,b,c⟩:=B.ex
  exact c.keeps fun x o e=>R.keep x o (a x o e)
structure ClsOk (K:Frag) (C:Addr) (c:Cls):Prop where
  makes:makesIn K C = true
  init:findIn K (.ref C) "__init__" = some (some (.ref c.init))
  initFn:typeIn K (.ref c.init) = some (.type "function")
  hasDict:hasDictIn K C = true
  setattr:findIn K (.ref C) "__setattr__" = some (some (.builtin "object.__setattr__"))
  over:plainOver K C = true
  fields:∀ a ∈ c.fields,plainGet K C a = true ∧ findIn K (.ref C) a = some none ∧ takerIn K C a = some none
  meths:∀ a f,c.meths.lookup a = some f → findIn K (.ref C) a = some (some (.ref f)) ∧ isFn K (.ref f) = true ∧ plainGet K C a = true ∧ keepIn K (.ref f) = true
  keep:keepIn K (.ref C) = true
  cga:plainGet K C "__class__" = true
  ccl:findIn K (.ref C) "__class__" = some (some (.builtin "object.__class__"))
  cget:specialIn K (.builtin "object.__class__") "__get__" = some (some (.builtin "getset_descriptor.__get__"))
  ctk:takesIn K (.builtin "object.__class__") = some true
  cmro:mroIn K C (.type "object") = some true
structure FuncOk (K:Frag) (P:Prg) (a:Addr) (fd:FuncData):Prop where
  at_:∃ oc od sl,K.lookup a = some ⟨oc,od,.func fd,sl⟩
  glob:fd.globals = mainGlobals
  bui:fd.builtins = builtinsNs
  clos:fd.closure = []
  code:codeIn K fd.code fd.qualname = true
  kind:fd.scope.kind = .function
  co:fd.scope.isCoroutine = false
  gen:fd.scope.isGenerator = false
  keep:keepIn K (.ref a) = true
  bind:∀ (vs:List Value) (args:List V) (e:En),vs.length = args.length → bindPars (fd.params.args.map (·.arg)) args (P.dfl a) = some e →
    ∃ binds:List (S × Value),(∀ s:Shared,K.In s.heap → BindsTo s fd ⟨vs,[]⟩ binds) ∧ (∀ w G ρ,ROL w G ρ vs args → ∀ x V,e.lookup x = some V → ∃ v,binds.reverse.lookup x = some v ∧ RepO w G ρ v V) ∧
      (∀ y ∈ binds,fd.scope.names.lookup y.1 = some .local ∨ fd.scope.names.lookup y.1 = some .cell)
  cnd:((cellsFrom 0 fd.scope.names []).map (·.1)).Nodup
  cin:∀ n x,fd.scope.names.lookup x = some .cell → ((cellsFrom n fd.scope.names []).lookup x).isSome = true
structure POk (K:Frag) (P:Prg):Prop where
  glob:∀ x V,P.glob x = some V → ∃ v,V = .fn v ∧ (nsIn K mainGlobals x = some (some v) ∨ (nsIn K mainGlobals x = some none ∧ bootBuiltins x = some v ∧ x ≠ "__name__"))
  cls:∀ C c,P.cls C = some c → ClsOk K C c
  func:∀ a fd,P.func a = some fd → FuncOk K P a fd
  keepO:∀ a,(P.orc a).isSome = true ∨ (P.orb a).isSome = true → keepIn K (.ref a) = true
  isn:∀ C c D d,P.cls C = some c → P.cls D = some d → D ≠ C → kin_not K D C = true
structure Room (n:Nat) (A:Around):Prop where
  hd:A.handled = none
  dp:A.depth + n < recursionLimit
  un:A.units + 20 * n + 50 < cLine
theorem Room.less {n m:Nat} {A:Around} (r:Room n A) (h:m ≤ n):Room m A:=⟨r.hd,by have:=r.dp; omega,by have:=r.un; omega⟩
inductive Po (w:Params) (G:Gh) (ρ:Ro) (s:Shared) (z':Zo) (v:V) (x:Value) (s':Shared):Prop
  | mk (G' ρ'):Grow NoX G ρ s G' ρ' s' → ZRel w G' ρ' z' s'.heap → RepO w G' ρ' x v → Po w G ρ s z' v x s'
inductive PoL (w:Params) (G:Gh) (ρ:Ro) (s:Shared) (z':Zo) (vs:List V) (xs:List Value) (s':Shared):Prop
  | mk (G' ρ'):Grow NoX G ρ s G' ρ' s' → ZRel w G' ρ' z' s'.heap → ROL w G' ρ' xs vs → PoL w G ρ s z' vs xs s'
inductive PoB (w:Params) (G:Gh) (ρ:Ro) (s:Shared) (z':Zo) (b:Bool) (c:Bool) (s':Shared):Prop
  | mk:c = b → ∀ G' ρ',Grow NoX G ρ s G' ρ' s' → ZRel w G' ρ' z' s'.heap → PoB w G ρ s z' b c s'
theorem Po.here {w G ρ s z v x} (R:ZRel w G ρ z s.heap) (h:RepO w G ρ x v):Po w G ρ s z v x s:=⟨G,ρ,.refl,R,h⟩
theorem Po.keeps {w G ρ z v x} {s s':Shared} (R:ZRel w G ρ z s.heap) (st:∃ h tk,s' = { s with heap:=h,toks:=tk }) (hk:∀ b o,s.heap.get? b = some o → s'.heap.get? b = some o) (h:RepO w G ρ x v):Po w G ρ s z v x s' :=
  ⟨G,ρ,.pure st hk,R.keeps hk,h⟩
theorem Po.tok {w G ρ z v x} {s:Shared} {t:Nat} (R:ZRel w G ρ z s.heap) (h:RepO w G ρ x v):Po w G ρ s z v x { s with toks:=t } :=
  .keeps R ⟨_,_,rfl⟩ (fun _ _ e=>e) h
theorem Po.trans {w G ρ s z v x} {G₁ ρ₁ s₁ s₂} (g:Grow NoX G ρ s G₁ ρ₁ s₁) (h:Po w G₁ ρ₁ s₁ z v x s₂):Po w G ρ s z v x s₂:=by
  obtain ⟨G',ρ',g',R,r⟩:=h; exact ⟨G',ρ',g.trans g',R,r⟩
theorem PoL.trans {w G ρ s z v x} {G₁ ρ₁ s₁ s₂} (g:Grow NoX G ρ s G₁ ρ₁ s₁) (h:PoL w G₁ ρ₁ s₁ z v x s₂):PoL w G ρ s z v x s₂:=by
  obtain ⟨G',ρ',g',R,r⟩:=h; exact ⟨G',ρ',g.trans g',R,r⟩
theorem PoB.trans {w G ρ s z v x} {G₁ ρ₁ s₁ s₂} (g:Grow NoX G ρ s G₁ ρ₁ s₁) (h:PoB w G₁ ρ₁ s₁ z v x s₂):PoB w G ρ s z v x s₂:=by
  obtain ⟨e,G',ρ',g',R⟩:=h; exact ⟨e,G',ρ',g.trans g',R⟩
section
variable {w:Params} {G:Gh} {ρ:Ro} {z:Zo} {h:Heap}
theorem RSi.list {xs:List V} {x:Value} (keep:∀ a o,G a = some o → h.get? a = some o) (r:RSi w G "list" xs x):∃ a vals,x = .ref a ∧ h.IsList a vals ∧ h.NoDictAt (.ref a) ∧ ROL w G ρ vals.toList xs ∧ xs.length ≤ lineMax:=by
  induction r using RSi.casesOn with
  | mk a b b' c d f=>exact ⟨_,_,rfl,⟨_,keep _ _ a,b,_,c⟩,⟨_,keep _ _ a,b'⟩,.of_rep f,d⟩
theorem lst_rep (R:ZRel w G ρ z h) {k:Nat} {xs:List V} {p:Addr × Addr} (hp:ρ[k]? = some p) (e:(z[k]?).bind O.lst? = some xs):∃ vals,h.IsList p.1 vals ∧ h.NoDictAt (.ref p.1) ∧ ROL w G ρ vals.toList xs ∧ xs.length ≤ lineMax:=by
  refine bd1 e fun o ho e=>?_
  have ob:=R.obj k p o hp ho
  rcases O.lst_of e with rfl | rfl
  · obtain ⟨_,vals,n,hv,hl,hr⟩:=ob
    exact ⟨vals,⟨_,hv,rfl,_,rfl⟩,⟨_,hv,rfl⟩,hr,hl⟩
  · obtain ⟨a,vals,q,r⟩:=RSi.list (ρ:=ρ) R.keep (Rep.inv ob)
    cases q; exact ⟨vals,r⟩
theorem asList_rep (R:ZRel w G ρ z h) {v:V} {xs:List V} {x:Value} (e:asList z v = some xs) (r:RepO w G ρ x v):∃ a vals,x = .ref a ∧ h.IsList a vals ∧ h.NoDictAt (.ref a) ∧ ROL w G ρ vals.toList xs ∧ xs.length ≤ lineMax:=by
  refine own_cases e (fun k q e=>?_) fun e=>RSi.list R.keep (Rep.inv (show RepO w G ρ x (.list xs) from V.lst_of e ▸ r))
  obtain ⟨p,hp,rfl⟩:RepO w G ρ x (.own k):=q ▸ r
  exact ⟨_,(lst_rep R hp e).imp fun _ h=>⟨rfl,h⟩⟩
theorem RDi.dict {xs:List (S × V)} {x:Value} (keep:∀ a o,G a = some o → h.get? a = some o) (r:RDi w G xs x):∃ a es n,x = .ref a ∧ h.get? a = some (dictOf es n) ∧ (a == sysModules) = false ∧ ROE w G ρ es xs:=by
  induction r using RDi.casesOn with
  | mk a q b=>exact ⟨_,_,_,rfl,keep _ _ a,q,.of_rep b⟩
theorem asDict_rep (R:ZRel w G ρ z h) {v:V} {xs:List (S × V)} {x:Value} (e:asDict z v = some xs) (r:RepO w G ρ x v):∃ a es n,x = .ref a ∧ h.get? a = some (dictOf es n) ∧ (a == sysModules) = false ∧ ROE w G ρ es xs:=by
  refine own_cases e (fun k q e=>bd1 e fun o ho e=>?_) fun e=>RDi.dict R.keep (Rep.inv (show RepO w G ρ x (.dict xs) from V.dict_of e ▸ r))
  obtain ⟨p,hp,rfl⟩:RepO w G ρ x (.own k):=q ▸ r
  have ob:=R.obj k p o hp ho
  rcases O.dict_of e with rfl | rfl
  · obtain ⟨_,q,vals,n,hv,hl,hr⟩:=ob
    exact ⟨_,vals,n,rfl,hv,q,hr⟩
  · exact RDi.dict R.keep (Rep.inv ob)
theorem RIi.inst {C:Addr} {xs:List (S × V)} {x:Value} (keep:∀ a o,G a = some o → h.get? a = some o) (r:RIi w G C xs x):∃ a d es n,x = .ref a ∧ h.get? a = some (instObj C d) ∧ h.get? d = some (dictOf es n) ∧ ROE w G ρ es xs:=by
  induction r using RIi.casesOn with
  | mk a b c=>exact ⟨_,_,_,_,rfl,keep _ _ a,keep _ _ b,.of_rep c⟩
theorem asInst_rep (R:ZRel w G ρ z h) {v:V} {C:Addr} {xs:List (S × V)} {x:Value} (e:asInst z v = some (C,xs)) (r:RepO w G ρ x v):∃ a d es n,x = .ref a ∧ h.get? a = some (instObj C d) ∧ h.get? d = some (dictOf es n) ∧ ROE w G ρ es xs:=by
  refine own_cases e (fun k q e=>bd1 e fun o ho e=>?_) fun e=>RIi.inst R.keep (Rep.inv (show RepO w G ρ x (.inst C xs) from V.inst_of e ▸ r))
  obtain ⟨p,hp,rfl⟩:RepO w G ρ x (.own k):=q ▸ r
  have ob:=R.obj k p o hp ho
  rcases O.inst_of e with rfl | rfl
  · obtain ⟨_,vals,n,hv,hd,hl,hr⟩:=ob
    exact ⟨_,_,vals,n,rfl,hv,hd,hr⟩
  · exact RIi.inst R.keep (Rep.inv ob)
theorem RSi.reads {c:String} {vs:List V} {x:Value} {ds:List PyData} (r:RSi w G c vs x) (H:∀ {x},RepL w G x vs → ∃ as,ReadsAll h x ds as) {C:Prop} (K:∀ {a o vals n as},G a = some o → o.cls = .type c → o.data = .seq vals n → ReadsAll h vals.toList ds as → x = .ref a → C):C:=by
  induction r using RSi.casesOn with
  | mk a b _ c d f=>exact (H f).elim fun _ q=>K a b c q rfl
def RdV (G:Gh) (w:Params) (h:Heap) (v:V):Prop:=Is v.toD fun d=>∀ x,Rep w G x v → ∃ as,Reads h x d as
def RdL (G:Gh) (w:Params) (h:Heap) (vs:List V):Prop:=Is (V.toDs vs) fun d=>∀ x,RepL w G x vs → ∃ as,ReadsAll h x d as
theorem Is.map {α β:Type} {o:Option α} {f:α → β} {p:β → Prop} (h:Is o fun a=>p (f a)):Is (o.map f) p:=by induction o using Option.casesOn <;> exact h
theorem Is.bind {α β:Type} {o:Option α} {f:α → Option β} {p:β → Prop} (h:Is o fun a=>Is (f a) p):Is (o.bind f) p:=by induction o using Option.casesOn <;> exact h
theorem Rd.mk {x y:Value} {d:PyData} {as} (e:x = y) (r:Reads h y d as):∃ as,Reads h x d as:=⟨as,e ▸ r⟩
theorem Rl.mk {x y:List Value} {d:List PyData} {as} (e:x = y) (r:ReadsAll h y d as):∃ as,ReadsAll h x d as:=⟨as,e ▸ r⟩
mutual
theorem toD_rd (hk:∀ a o,G a = some o → h.get? a = some o):∀ v:V,RdV G w h v
  | .none=>fun _ r=>Rd.mk (Rep.inv r) .none
  | .bool b=>fun _ r=>Rd.mk (Rep.inv r) (.bool b)
  | .int i=>fun _ r=>Exists.elim (Rep.inv r) fun t e=>Rd.mk e (.int i t)
  | .str i=>fun _ r=>Exists.elim (Rep.inv r) fun t e=>Rd.mk e (.str i t)
  | .tup vs=>Is.map ((toDs_rd hk vs).mono fun _ H _ r=>RSi.reads (Rep.inv r) (H _) fun a b c f e=>Rd.mk e (.tuple (hk _ _ a) b c f))
  | .list vs=>Is.map ((toDs_rd hk vs).mono fun _ H _ r=>RSi.reads (Rep.inv r) (H _) fun a b c f e=>Rd.mk e (.list (hk _ _ a) b c f))
  | .fn _=>trivial
  | .dict _=>trivial
  | .inst _ _=>trivial
  | .rng _=>trivial
  | .own _=>trivial
theorem toDs_rd (hk:∀ a o,G a = some o → h.get? a = some o):∀ vs:List V,RdL G w h vs
  | []=>fun _ r=>Rl.mk (RepL.inv r) .nil
  | v :: vs=>Is.bind ((toD_rd hk v).mono fun _ H=>Is.map ((toDs_rd hk vs).mono fun _ H' _ r=>RLc.casesOn (motive:=fun x _=>∃ as,ReadsAll h x _ as) (RepL.inv r) fun a b=>(H _ a).elim fun _ a=>(H' _ b).elim fun _ b=>⟨_,.cons a b⟩))
end
theorem toDs_reads (hk:∀ a o,G a = some o → h.get? a = some o) {v:List V} {d:List PyData} {x:List Value} (e:V.toDs v = some d) (r:RepL w G x v):∃ as,ReadsAll h x d as:=Is.of (o:=V.toDs v) (p:=fun d=>∀ x,RepL w G x v → ∃ as,ReadsAll h x d as) (toDs_rd hk v) e x r
theorem RepO.rep_of_toD {v:V} {x:Value} (r:RepO w G ρ x v):Is v.toD fun _=>Rep w G x v:=by
  induction v using V.casesOn <;> first | exact trivial | exact r | exact Is.map (o:=V.toDs _) (by cases V.toDs _ <;> first | exact trivial | exact r)
theorem ROL.rep_of_toDs {v:List V} {x:List Value} (r:ROL w G ρ x v):Is (V.toDs v) fun _=>RepL w G x v:=by
  induction r with
  | nil=>exact .nil
  | cons a _ ih=>exact Is.bind (a.rep_of_toD.mono fun _ a=>Is.map (ih.mono fun _ b=>.cons a b))
theorem toDz_reads (R:ZRel w G ρ z h) {v:V} {d:PyData} {x:Value} (e:toDz z v = some d) (r:RepO w G ρ x v):∃ as,Reads h x d as:=by
  refine own_cases e (fun k q e=>bd1 e fun vs e1 e=>mp1 e fun ds e2 e=>?_) fun e=>Is.of (o:=v.toD) (p:=fun d=>∀ x,Rep w G x v → ∃ as,Reads h x d as) (toD_rd R.keep v) e x (Is.of (p:=fun _=>Rep w G x v) r.rep_of_toD e)
  obtain ⟨p,hp,rfl⟩:RepO w G ρ x (.own k):=q ▸ r
  obtain ⟨vals,⟨o,ho,hc,n,hd⟩,_,hr,_⟩:=lst_rep R hp e1
  obtain ⟨as,ha⟩:=toDs_reads R.keep e2 (Is.of (p:=fun _=>RepL w G vals.toList vs) hr.rep_of_toDs e2)
  exact e ▸ ⟨_,Reads.list ho hc hd ha⟩
end
end Mine
end
section
open PySem PySem.W PySem.Calls PySem.SeqAt PyProof.Rows
namespace Mine
section
variable {prog:Program} {w:World} {G:Gh} {ρ:Ro}
theorem ROE.keys {P:Params} {es:List DictEntry} {ts:List (S × V)} (r:ROE P G ρ es ts):∀ e ∈ es,∃ x t,e.key = .str x t ∧ e.hash = PyData.keyHash P x:=by
  induction r with
  | nil=>intro e he; cases he
  | cons a r ih =>
    intro e he
    rcases List.mem_cons.mp he with rfl | he
    · exact ⟨_,_,rfl,rfl⟩
    · exact ih e he
theorem ROE.find {P:Params}:∀ {es:List DictEntry} {ts:List (S × V)},ROE P G ρ es ts → ∀ k,(∀ t,ts.lookup k = some t → ∃ v,(es.find? fun e=>e.key.isStr k).map (·.val) = some v ∧ RepO P G ρ v t) ∧ (ts.lookup k = none → (es.find? fun e=>e.key.isStr k) = none)
  | _,_,.nil,k=>⟨fun t h=>(by cases h),fun _=>rfl⟩
  | _,_,.cons (k:=k0) (v:=v) (t:=t0) (tk:=tk) a r,k=>by
    have ih:=r.find k
    by_cases hk:k0 = k
    · subst hk
      have e1:(Value.str k0 tk).isStr k0 = true:=by simp [Value.isStr]
      refine ⟨fun t h=>?_,fun h=>?_⟩
      · simp only [List.lookup_cons,beq_self_eq_true,Option.some.injEq] at h
        subst h
        exact ⟨v,by simp [List.find?_cons,e1],a⟩
      · simp [List.lookup_cons] at h
    · have e1:(Value.str k0 tk).isStr k = false:=by simp [Value.isStr,hk]
      have e2:(k == k0) = false:=by simpa using Ne.symm hk
      simp only [List.lookup_cons,e2,List.find?_cons,e1]
      exact ih
theorem ROE.mapOf {es:List DictEntry} {ts:List (S × V)} {n:Nat} {h:Heap} {d:Addr} (r:ROE w.params G ρ es ts) (hd:h.get? d = some (dictOf es n)) :
    h.MapOf (strKind prog w) d (fun k=>(es.find? fun e=>e.key.isStr k).map (·.val)) :=
  ⟨_,es.toArray,n,hd,⟨rfl,rfl,rfl⟩,rfl,fun e he=>by
    obtain ⟨x,t,e1,e2⟩:=r.keys e (by simpa using he)
    exact ⟨x,by rw [e1]; exact strKind_is prog w x t,e2⟩,fun k=>by
    unfold findBy
    have q:(fun d:DictEntry=>Value.isStrOf k d.key) = fun d=>d.key.isStr k:=funext fun d=>(isStr_of k d.key).symm
    show Option.map _ (Array.find? (fun d:DictEntry=>Value.isStrOf k d.key) es.toArray) = _
    rw [List.find?_toArray,q]⟩
theorem ROE.at_some {P:Params} {es:List DictEntry} {ts:List (S × V)} (r:ROE P G ρ es ts) (k:S):((es.find? fun e=>e.key.isStr k).map (·.val)).isSome = (ts.lookup k).isSome:=by
  have:=r.find k
  cases h:ts.lookup k with
  | none=>rw [this.2 h]; rfl
  | some t=>obtain ⟨v,e,_⟩:=this.1 t h; rw [e]; rfl
theorem ROE.keysOf {es:List DictEntry} {ts:List (S × V)} (r:ROE w.params G ρ es ts):KeysOf (strKind prog w) es.toArray:=fun e he=>by
  obtain ⟨x,t,e1,e2⟩:=r.keys e (by simpa using he)
  exact ⟨x,by rw [e1]; exact strKind_is prog w x t,e2⟩
theorem ROE.putL {P:Params} {v:Value} {t:V} {k:S} {tk:Tok} (hv:RepO P G ρ v t):∀ {es:List DictEntry} {ts:List (S × V)},ROE P G ρ es ts → ROE P G ρ (PySem.W.putL k (PyData.keyHash P k) (.str k tk) v es) (setE k t ts)
  | _,_,.nil=>.cons hv .nil
  | _,_,.cons (k:=k0) (tk:=tk0) a r=>by
    by_cases hk:k0 = k
    · subst hk
      have e1:(Value.str k0 tk0).isStr k0 = true:=by simp [Value.isStr]
      simp only [PySem.W.putL,e1,if_true,setE]
      exact .cons hv r
    · have e1:(Value.str k0 tk0).isStr k = false:=by simp [Value.isStr,hk]
      simp only [PySem.W.putL,e1,Bool.false_eq_true,if_false,setE,if_neg hk]
      exact .cons a (r.putL hv)
theorem findIdx_is {es:List DictEntry} {k:S}:(es.toArray.findIdx? fun e=>(strKind prog w).is k e.key) = es.findIdx? fun e=>e.key.isStr k:=by
  have q:(fun d:DictEntry=>(strKind prog w).is k d.key) = fun d=>d.key.isStr k:=funext fun d=>(isStr_of k d.key).symm
  rw [q,List.findIdx?_toArray]
theorem setE_len (k:S) (t:V):∀ ts:List (S × V),(setE k t ts).length ≤ ts.length + 1
  | []=>by simp [setE]
  | (y,v) :: r=>by
    unfold setE
    split
    · simp
    · have:=setE_len k t r; simp only [List.length_cons]; omega
variable {A:Around} {E:Value → Shared → Prop} {s:Shared}
theorem dictSet_x {d:Addr} {es:List DictEntry} {n:Nat} {ts:List (S × V)} {k:S} {tk:Tok} {v:Value} {Q:Unit → Shared → Prop} (hd:s.heap.get? d = some (dictOf es n)) (r:ROE w.params G ρ es ts) (hz:es.length ≤ sizeLine)
    (hQ:∀ h' n',h'.get? d = some (dictOf (PySem.W.putL k (PyData.keyHash w.params k) (.str k tk) v es) n') → Heap.SameBut d s.heap h' → Q () { s with heap:=h',toks:=s.toks + 1 }) :
    wpAny (model prog w) A (dictSet d (.str k tk) v) Q E s:=by
  have hkey:=strKind_is prog w k tk
  have hk:=r.keysOf (prog:=prog)
  have pf:=putL_find k (PyData.keyHash w.params k) (.str k tk) v es
  unfold dictSet
  try with_reducible refine wpAny_holding ?_
  refine wpAny_bind ((strKind prog w).pyHash hkey ?_)
  unfold dictSetHashed
  try with_reducible refine wpAny_holding ?_
  refine wpAny_bind (wpAny_dictFind_of (s:={ s with toks:=s.toks + 1 }) hkey hd rfl hk ?_)
  rw [findIdx_is]
  cases hi:es.findIdx? fun e=>e.key.isStr k with
  | some i =>
    rw [hi] at pf
    refine wpAny_bind (wpAny_rule (wpAny_bind (wpAny_updateDict (s:={ s with toks:=s.toks + 1 }) hd rfl (wpAny_point (hQ _ n ?_ (Heap.SameBut.update ..))))))
    rw [Heap.get?_update_self _ hd (by rfl),← pf]
    simp [Obj.mapDict,dictOf]
  | none =>
    rw [hi] at pf
    refine wpAny_bind (wpAny_rule (wpAny_updateDictKeys (hz:=by simpa using hz) (s:={ s with toks:=s.toks + 1 }) hd rfl (hQ _ (n + 1) ?_ (Heap.SameBut.update ..))))
    rw [Heap.get?_update_self _ hd (by rfl),← pf]
    simp [Obj.mapDictKeys,dictOf]
    rfl
theorem dictSetDefault_x {d:Addr} {es:List DictEntry} {n:Nat} {ts:List (S × V)} {k:S} {tk:Tok} {v:Value} {Q:Value → Shared → Prop} (hd:s.heap.get? d = some (dictOf es n)) (r:ROE w.params G ρ es ts) (hz:es.length ≤ sizeLine)
    (hthere:∀ t u,ts.lookup k = some t → RepO w.params G ρ u t → Q u { s with toks:=s.toks + 1 })
    (hQ:ts.lookup k = none → ∀ h' n',h'.get? d = some (dictOf (PySem.W.putL k (PyData.keyHash w.params k) (.str k tk) v es) n') → Heap.SameBut d s.heap h' → Q v { s with heap:=h',toks:=s.toks + 1 }) :
    wpAny (model prog w) A (dictSetDefault d (.str k tk) v) Q E s:=by
  have hkey:=strKind_is prog w k tk
  have hk:=r.keysOf (prog:=prog)
  have pf:=putL_find k (PyData.keyHash w.params k) (.str k tk) v es
  have fd:=r.find k
  unfold dictSetDefault
  try with_reducible refine wpAny_holding ?_
  refine wpAny_bind ((strKind prog w).pyHash hkey ?_)
  refine wpAny_bind (wpAny_dictFind_of (s:={ s with toks:=s.toks + 1 }) hkey hd rfl hk ?_)
  rw [findIdx_is]
  have hfe:es.find? (fun e=>e.key.isStr k) = (es.findIdx? fun e=>e.key.isStr k).bind fun i=>es[i]?:=List.find?_eq_bind_findIdx?_getElem?
  cases hi:es.findIdx? fun e=>e.key.isStr k with
  | some i =>
    refine wpAny_bind (wpAny_dictEntries (s:={ s with toks:=s.toks + 1 }) hd rfl ?_)
    have hlt:i < es.length:=by
      have:=List.findIdx?_eq_some_iff_findIdx_eq.mp hi
      exact this.1
    have he:es.toArray[i]? = some es[i]:=by simp [hlt]
    rw [he]
    rw [hi] at hfe
    simp only [Option.bind_some,List.getElem?_eq_getElem hlt] at hfe
    refine wpAny_bind (wpAny_rule (wpAny_pure ?_))
    cases hl:ts.lookup k with
    | none=>rw [fd.2 hl] at hfe; cases hfe
    | some t =>
      obtain ⟨u,e1,e2⟩:=fd.1 t hl
      rw [hfe] at e1
      cases e1
      exact hthere t _ hl e2
  | none =>
    rw [hi] at pf hfe
    have hl:ts.lookup k = none:=by
      cases hl:ts.lookup k with
      | none=>rfl
      | some t =>
        obtain ⟨u,e1,e2⟩:=fd.1 t hl
        rw [hfe] at e1; cases e1
    refine wpAny_bind (wpAny_rule (wpAny_bind (wpAny_updateDictKeys (hz:=by simpa using hz) (s:={ s with toks:=s.toks + 1 }) hd rfl (wpAny_pure (hQ hl _ (n + 1) ?_ (Heap.SameBut.update ..))))))
    rw [Heap.get?_update_self _ hd (by rfl),← pf]
    simp [Obj.mapDictKeys,dictOf]
    rfl
end
end Mine
end
section
open PySem PySem.W PySem.Calls PySem.SeqAt PyProof.Rows
namespace Mine
section
variable {prog:Program} {w:World} {A:Around} {E:Value → Shared → Prop} {s:Shared} {G:Gh} {ρ:Ro} {z z':Zo}
theorem RepO.bool_inv {P:Params} {x:Value} {b:Bool} (h:RepO P G ρ x (.bool b)):x = .bool b:=Rep.inv h
theorem RepO.none_inv {P:Params} {x:Value} (h:RepO P G ρ x .none):x = .none:=Rep.inv h
theorem RepO.int_inv {P:Params} {x:Value} {i:Int} (h:RepO P G ρ x (.int i)):∃ t,x = .int i t:=Rep.inv h
theorem RepO.str_inv {P:Params} {x:Value} {i:S} (h:RepO P G ρ x (.str i)):∃ t,x = .str i t:=Rep.inv h
theorem RepO.fn_inv {P:Params} {x v:Value} (h:RepO P G ρ x (.fn v)):x = v:=Rep.inv h
@[elab_as_elim] theorem RepO.noneE {P:Params} {x:Value} {v:V} {C:Value → Prop} (h:RepO P G ρ x v) (e:v = .none) (k:C .none):C x:=by subst e; rw [h.none_inv]; exact k
@[elab_as_elim] theorem RepO.intE {P:Params} {x:Value} {v:V} {i:Int} {C:Value → Prop} (h:RepO P G ρ x v) (e:v = .int i) (k:∀ t,C (.int i t)):C x:=by subst e; exact h.int_inv.elim fun t q=>q ▸ k t
@[elab_as_elim] theorem RepO.strE {P:Params} {x:Value} {v:V} {i:S} {C:Value → Prop} (h:RepO P G ρ x v) (e:v = .str i) (k:∀ t,C (.str i t)):C x:=by subst e; exact h.str_inv.elim fun t q=>q ▸ k t
@[elab_as_elim] theorem RepO.fnE {P:Params} {x f:Value} {v:V} {C:Value → Prop} (h:RepO P G ρ x v) (e:v = .fn f) (k:C f):C x:=by subst e; rw [h.fn_inv]; exact k
theorem RepO.bool {P:Params} (b:Bool):RepO P G ρ (.bool b) (.bool b):=Rep.bool b
theorem RepO.none {P:Params}:RepO P G ρ .none .none:=Rep.none
theorem RepO.int {P:Params} (i:Int) (t):RepO P G ρ (.int i t) (.int i):=Rep.int i t
theorem RepO.str {P:Params} (i:S) (t):RepO P G ρ (.str i t) (.str i):=Rep.str i t
theorem dOk_lay {d:PyData} (h:dOk d = true):d.canLay0 = true ∧ d.depth ≤ 6:=by
  unfold dOk at h
  rw [Bool.and_eq_true] at h
  exact ⟨h.1,of_decide_eq_true h.2⟩
theorem cline:cLine = 9900:=rfl
theorem isNone_is {P:Params} {x:Value} {a:V} (r:RepO P G ρ x a):Is (isNone a) fun b=>(x == Value.none) = b:=by
  induction a using V.casesOn with
  | own k=>obtain ⟨p,_,rfl⟩:=r; exact rfl
  | fn v=>exact trivial
  | rng n=>exact trivial
  | none=>rw [r.none_inv]; exact rfl
  | bool=>rw [r.bool_inv]; exact rfl
  | int=>obtain ⟨_,rfl⟩:=r.int_inv; exact rfl
  | str=>obtain ⟨_,rfl⟩:=r.str_inv; exact rfl
  | tup=>obtain ⟨_⟩:=Rep.inv r; exact rfl
  | list=>obtain ⟨_⟩:=Rep.inv r; exact rfl
  | dict=>obtain ⟨_⟩:=Rep.inv r; exact rfl
  | inst=>obtain ⟨_⟩:=Rep.inv r; exact rfl
theorem isNone_sound {P:Params} {x:Value} {a:V} {b:Bool} (e:isNone a = some b) (r:RepO P G ρ x a):(x == Value.none) = b:=Is.of (p:=fun b=>(x == Value.none) = b) (isNone_is r) e
section
variable {a b:V} {x y:Value}
theorem both_el {C:Prop} {p:PyData × PyData} (R:ZRel w.params G ρ z s.heap) (e:both z a b = some p) (ra:RepO w.params G ρ x a) (rb:RepO w.params G ρ y b)
    (k:∀ as bs,Reads s.heap x p.1 as → Reads s.heap y p.2 bs → p.1.canLay0 = true → p.2.canLay0 = true → p.1.depth ≤ 6 → p.2.depth ≤ 6 → C):C :=
  bd1 e fun da e1 e=>bd1 e fun db e2 e=>ifs e fun hq e=>by
    obtain rfl:=Option.some.inj e
    have q:=(Bool.and_eq_true _ _).mp hq
    exact (toDz_reads R e1 ra).elim fun as r1=>(toDz_reads R e2 rb).elim fun bs r2=>k as bs r1 r2 (dOk_lay q.1).1 (dOk_lay q.2).1 (dOk_lay q.1).2 (dOk_lay q.2).2
theorem eqz_el {C:Prop} {c:Bool} (R:ZRel w.params G ρ z s.heap) (hu:A.units + 20 < cLine) (e:eqz z a b = some c) (ra:RepO w.params G ρ x a) (rb:RepO w.params G ρ y b)
    (k:∀ da db as bs,Reads s.heap x da as → Reads s.heap y db bs → da.canLay0 = true → db.canLay0 = true → A.units + min da.depth db.depth < cLine → PyData.eqv da db = c → C):C :=
  mp1 e fun p e q=>both_el R e ra rb fun as bs r1 r2 l1 l2 d1 d2=>k p.1 p.2 as bs r1 r2 l1 l2 (by have:=Nat.min_le_left p.1.depth p.2.depth; omega) q
theorem dsq_el {C:Prop} {d ds} (e:dsq? d = some ds) (k1:d = .list ds → C) (k2:d = .tuple ds → C):C:=by
  cases h:dls? d with
  | none=>exact k2 (dtp_of (by unfold dsq? at e; rw [h] at e; exact e))
  | some l=>exact k1 (dls_of (by unfold dsq? at e; rw [h] at e; rw [h]; exact e))
theorem inz_el {C:Prop} {c:Bool} (R:ZRel w.params G ρ z s.heap) (hu:A.units + 20 < cLine) (e:inz z a b = some c) (ra:RepO w.params G ρ x a) (rb:RepO w.params G ρ y b)
    (k1:∀ k t d es n ts,x = .str k t → y = .ref d → s.heap.get? d = some (dictOf es n) → (d == sysModules) = false → ROE w.params G ρ es ts → (ts.lookup k).isSome = c → C)
    (k2:∀ d ds as bs,Reads s.heap x d as → Reads s.heap y (.list ds) bs → PyData.canLayAll0 ds = true → d.canLay0 = true → A.units + 1 + min (PyData.depthAll ds) d.depth < cLine → (ds.any fun y=>PyData.eqv y d) = c → C)
    (k3:∀ d ds as bs,Reads s.heap x d as → Reads s.heap y (.tuple ds) bs → PyData.canLayAll0 ds = true → d.canLay0 = true → A.units + 1 + min (PyData.depthAll ds) d.depth < cLine → (ds.any fun y=>PyData.eqv y d) = c → C):C:=by
  unfold inz at e
  cases hes:asDict z b with
  | some es =>
    rw [hes] at e
    refine mp1 e fun k h e=>?_
    obtain ⟨d,es',n,h1,hd,hsy,hr⟩:=asDict_rep R hes rb
    exact (RepO.str_inv (V.str_of h ▸ ra)).elim fun t ht=>k1 k t d es' n es ht h1 hd hsy hr e
  | none =>
    rw [hes] at e
    refine bd1 e fun p e1 e=>mp1 e fun ds e2 e=>both_el R e1 ra rb fun as bs r1 r2 l1 l2 d1 d2=>?_
    have hu1:A.units + 1 + min (PyData.depthAll ds) p.1.depth < cLine:=by have:=Nat.min_le_right (PyData.depthAll ds) p.1.depth; omega
    exact dsq_el e2 (fun q=>k2 p.1 ds as bs r1 (q ▸ r2) (by rw [q] at l2; exact l2) l1 hu1 e) fun q=>k3 p.1 ds as bs r1 (q ▸ r2) (by rw [q] at l2; exact l2) l1 hu1 e
def PoC (w:World) (G:Gh) (ρ:Ro) (s:Shared) (z:Zo) (c:Bool) (r:Value) (s':Shared):Prop:=r = .bool c ∧ Po w.params G ρ s z (.bool c) r s'
theorem PoC.keeps (R:ZRel w.params G ρ z s.heap) {c:Bool} {r:Value} {s':Shared} (e:r = .bool c) (st:∃ h tk,s' = { s with heap:=h,toks:=tk }) (hk:∀ b o,s.heap.get? b = some o → s'.heap.get? b = some o):PoC w G ρ s z c r s' :=
  ⟨e,e ▸ .keeps R st hk (.bool _)⟩
theorem PoC.here (R:ZRel w.params G ρ z s.heap) {c:Bool} {r:Value} (e:r = .bool c):PoC w G ρ s z c r s:=.keeps R e ⟨_,_,rfl⟩ fun _ _ e=>e
theorem ord_sound {p:Int → Int → Bool} {op:CmpOp} {c:Bool} {Q:Value → Shared → Prop} (e:((ints? a b).map fun q=>p q.1 q.2) = some c) (ra:RepO w.params G ρ x a) (rb:RepO w.params G ρ y b) (hQ:Q (.bool c) s)
    (h:∀ i j t u,Q (.bool (p i j)) s → wpAny (model prog w) A (compareOp op (.int i t) (.int j u)) Q E s):wpAny (model prog w) A (compareOp op x y) Q E s :=
  mp1 e fun q e1 e=>ra.intE (ints_of e1).1 fun t=>rb.intE (ints_of e1).2 fun u=>h _ _ t u (by rw [← e] at hQ; exact hQ)
theorem isNone_el {c:Bool} {C:Value → Prop} (e:(if b.nil = true then isNone a else none) = some c) (ra:RepO w.params G ρ x a) (rb:RepO w.params G ρ y b) (k:(x == Value.none) = c → C .none):C y :=
  ifs e fun h e=>rb.noneE (V.nil_of h) (k (isNone_sound e ra))
theorem cmp_sound (R:ZRel w.params G ρ z s.heap) (hu:A.units + 20 < cLine) {op:CmpOp} {c:Bool} (e:cmpV z op a b = some c) (ra:RepO w.params G ρ x a) (rb:RepO w.params G ρ y b) :
    wpAny (model prog w) A (compareOp op x y) (fun r s'=>r = .bool c ∧ Po w.params G ρ s z (.bool c) r s') E s:=by
  have fin0:∀ {r:Value},r = .bool c → r = .bool c ∧ Po w.params G ρ s z (.bool c) r s:=fun e=>PoC.here R e
  induction op using CmpOp.casesOn with
  | Is=>exact isNone_el (C:=fun y=>wpAny (model prog w) A (compareOp .Is x y) _ E s) e ra rb fun q=>is_none_gen (fin0 (by rw [q]))
  | IsNot=>exact mp1 e fun d e q=>isNone_el (C:=fun y=>wpAny (model prog w) A (compareOp .IsNot x y) _ E s) e ra rb fun h=>isnot_none_gen (fin0 (by rw [h,q]))
  | Eq=>exact eqz_el R hu e ra rb fun da db as bs r1 r2 l1 l2 hu' q=>compareEq_reads r1 r2 l1 l2 hu' (fin0 (by rw [q]))
  | NotEq=>exact mp1 e fun d e h=>eqz_el R hu e ra rb fun da db as bs r1 r2 l1 l2 hu' q=>compareNe_reads r1 r2 l1 l2 hu' (fin0 (by rw [q,h]))
  | Lt=>exact ord_sound (p:=fun i j=>decide (i < j)) e ra rb (fin0 rfl) fun _ _ _ _ h=>PyProof.Rows.lt_int h
  | LtE=>exact ord_sound (p:=fun i j=>decide (i ≤ j)) e ra rb (fin0 rfl) fun _ _ _ _ h=>PyProof.Rows.le_int h
  | Gt=>exact ord_sound (p:=fun i j=>decide (j < i)) e ra rb (fin0 rfl) fun _ _ _ _ h=>PyProof.Rows.gt_int h
  | GtE=>exact ord_sound (p:=fun i j=>decide (j ≤ i)) e ra rb (fin0 rfl) fun _ _ _ _ h=>PyProof.Rows.ge_int h
  | In =>
    exact inz_el R hu e ra rb (fun k t d es n ts e1 e2 hg hsy hr q=>e1 ▸ e2 ▸ wpAny_in_of (strKind_is prog w k t) hsy (hr.mapOf hg) (PoC.keeps R (by rw [hr.at_some,q]) ⟨_,_,rfl⟩ fun _ _ e=>e))
      (fun d ds as bs r1 r2 l1 l2 hu' q=>in_list_reads r2 r1 l1 l2 hu' (fin0 (by rw [q]))) fun d ds as bs r1 r2 l1 l2 hu' q=>in_tuple_reads r2 r1 l1 l2 hu' (fin0 (by rw [q]))
  | NotIn =>
    exact mp1 e fun d e h=>inz_el R hu e ra rb (fun k t d es n ts e1 e2 hg hsy hr q=>e1 ▸ e2 ▸ wpAny_notIn_of (strKind_is prog w k t) hsy (hr.mapOf hg) (PoC.keeps R (by rw [hr.at_some,q,h]) ⟨_,_,rfl⟩ fun _ _ e=>e))
      (fun d ds as bs r1 r2 l1 l2 hu' q=>notIn_list_reads r2 r1 l1 l2 hu' (fin0 (by rw [q,h]))) fun d ds as bs r1 r2 l1 l2 hu' q=>notIn_tuple_reads r2 r1 l1 l2 hu' (fin0 (by rw [q,h]))
end
theorem truth_sound {P:Params} {x:Value} {a:V} {b:Bool} {Q:Bool → Shared → Prop} (e:truth a = some b) (r:RepO P G ρ x a) (h:Q b s):wpAny (model prog w) A (truthy x) Q E s:=by
  induction a using V.casesOn with
  | none=>rw [r.none_inv]; exact PyProof.Rows.truthy_none (so1 (C:=fun b=>Q b s → Q false s) e id h)
  | bool b=>rw [r.bool_inv]; exact wpAny_truthy_bool (so1 (C:=fun b'=>Q b' s → Q b s) e id h)
  | _=>exact mt e
theorem push_none (h:Heap):h.get? h.objs.size = none:=Heap.get?_none_of_le (Nat.le_refl _)
theorem push_keep (h:Heap) (o:Obj):∀ b x,h.get? b = some x → (h.push o).get? b = some x:=fun _ _ e=>Heap.get?_push_of_some _ e
theorem po_new_list (R:ZRel w.params G ρ z s.heap) {vals:Array Value} {n:Nat} {ts:List V} (hr:RepL w.params G vals.toList ts) (hl:ts.length ≤ lineMax) :
    Po w.params G ρ s z (.list ts) (.ref s.heap.objs.size) { s with heap:=s.heap.push (listOf vals n) }:=by
  obtain ⟨g,R'⟩:=frozen_new (X:=NoX) (s':={ s with heap:=s.heap.push (listOf vals n) }) R ⟨_,_,rfl⟩ (push_keep _ _) (push_none _) (Heap.get?_push_size _ rfl)
  exact ⟨_,_,g,R',RepO.of_rep (.list (Gh.put_self ..) rfl rfl rfl hl (hr.mono g.g))⟩
theorem po_own_list (R:ZRel w.params G ρ z s.heap) {vals:Array Value} {n:Nat} {ts:List V} (hr:ROL w.params G ρ vals.toList ts) (hl:ts.length ≤ lineMax) :
    Po w.params G ρ s (z ++ [.list ts]) (.own z.length) (.ref s.heap.objs.size) { s with heap:=s.heap.push (listOf vals n) }:=by
  have hg:(s.heap.push (listOf vals n)).get? s.heap.objs.size = some (listOf vals n):=Heap.get?_push_size _ rfl
  obtain ⟨g,R'⟩:=zone_new (X:=NoX) (s':={ s with heap:=s.heap.push (listOf vals n) }) (p:=(s.heap.objs.size,s.heap.objs.size)) (o:=.list ts) R ⟨_,_,rfl⟩ (push_keep _ _) (push_none _) (push_none _)
    (by show Option.isSome ((s.heap.push _).get? s.heap.objs.size) = true; rw [hg]; rfl) (by show Option.isSome ((s.heap.push _).get? s.heap.objs.size) = true; rw [hg]; rfl) ⟨rfl,vals,n,hg,hl,hr.mono (fun _ _ e=>e) ⟨_,rfl⟩⟩
  exact ⟨_,_,g,R',(s.heap.objs.size,s.heap.objs.size),by rw [← R.len]; simp,rfl⟩
theorem foldl_rep (v:Value):∀ (n:Nat) (acc:Array Value),(List.foldl (fun x1 x2=>x1 ++ x2) acc (List.replicate n #[v])).toList = acc.toList ++ List.replicate n v
  | 0,acc=>by simp
  | n + 1,acc=>by
    rw [List.replicate_succ,List.foldl_cons,foldl_rep v n,List.replicate_succ]
    simp
section
variable {a b v:V} {x y:Value}
theorem cat_sound (R:ZRel w.params G ρ z s.heap) {xs ys:List V} (e1:asList z a = some xs) (e2:asList z b = some ys) {xs' ys' z1} (e3:frzs xs z = some (xs',z1)) (e4:frzs ys z1 = some (ys',z')) (hl:xs'.length + ys'.length ≤ lineMax)
    (ra:RepO w.params G ρ x a) (rb:RepO w.params G ρ y b):wpAny (model prog w) A (binaryOp .Add x y) (fun r s'=>Po w.params G ρ s z' (.list (xs' ++ ys')) r s') E s:=by
  obtain ⟨l,vals,rfl,⟨⟨cls,dd,data,sl⟩,ho,hc,n,hd⟩,_,r1,_⟩:=asList_rep R e1 ra
  obtain ⟨l2,vals2,rfl,⟨⟨cls2,dd2,data2,sl2⟩,ho2,hc2,n2,hd2⟩,_,r2,_⟩:=asList_rep R e2 rb
  clear ra rb e1 e2
  dsimp only at hc hd hc2 hd2
  subst hc hd hc2 hd2
  obtain ⟨G1,g1,R1,q1⟩:=frzs_ok (X:=NoX) e3 R r1
  obtain ⟨G2,g2,R2,q2⟩:=frzs_ok (X:=NoX) e4 R1 (r2.mono g1.g ⟨[],by simp⟩)
  clear e3 e4 r1 r2
  have q:=(q1.mono g2.g).append q2
  have hsz:vals.size + vals2.size ≤ sizeLine:=by
    have n1:=q1.length
    have n2':=q2.length
    rw [Array.length_toList] at n1 n2'
    rw [n1,n2']; exact Nat.le_trans hl (by decide)
  refine concat_meets ⟨_,ho,rfl⟩ ⟨_,ho2,rfl⟩ noFill_list_add seq_list_add PySem.F.slot_list_add PySem.F.entry_list_add (PySem.F.args_list_add_2 _ _) (list_addW l l2 vals vals2 n n2 dd dd2 sl sl2 hsz) ⟨ho,ho2,?_⟩
  exact Po.trans (g1.trans g2) (po_new_list R2 (by simpa using q) (by simpa using hl))
theorem rep_sound (R:ZRel w.params G ρ z s.heap) {k:Nat} {vv:V} {p:Addr × Addr} {j:Int} {u:Tok} (hp:ρ[k]? = some p) (hz:z[k]? = some (.list [vv])) (h0:0 ≤ j) (hj:j.toNat ≤ 1048576) :
    wpAny (model prog w) A (binaryOp .Mult (.ref p.1) (.int j u)) (fun r s'=>Po w.params G ρ s (z ++ [.list (List.replicate j.toNat vv)]) (.own z.length) r s') E s:=by
  obtain ⟨_,vals,n,hv,_,hr⟩:=R.obj k p _ hp hz
  obtain ⟨v0,rfl,hv0⟩:∃ v0,vals = #[v0] ∧ RepO w.params G ρ v0 vv:=by
    clear hv
    obtain ⟨l⟩:=vals
    generalize hl:[vv] = l' at hr
    change ROL w.params G ρ l l' at hr
    induction hr using ROL.casesOn with
    | nil=>cases hl
    | cons a b=>obtain ⟨rfl,rfl⟩:=List.cons.inj hl; exact ⟨_,by rw [List.length_eq_zero_iff.mp b.length],a⟩
  have hlo:-(2 ^ 63:Int) ≤ j:=by omega
  have hhi:j < 2 ^ 63:=by omega
  have hsz:(#[v0]:Array Value).size * j.toNat ≤ 2 ^ 24:=by simp; omega
  refine wpAny_binaryOp_repeat_ref (T:="list") (U:="int") (by decide) ⟨_,hv,rfl⟩ (fun s'=>typeIs_int s' j u) noFill_list_mul F.fills_int_mul F.slot_int_rmul repeat_list F.slot_int_index.lookup
    (call_meets F.slot_int_rmul (typeIs_int s j u) F.entry_int_rmul (F.args_int_rmul_2 _ _) (int___rmul___int_list j u p.1 #[v0] n)
      ⟨hv,rfl,⟨_,hv,rfl⟩,call_meets F.slot_list_mul ⟨_,hv,rfl⟩ F.entry_list_mul (F.args_list_mul_2 _ _)
        (AutoListH.list___mul___list_int_3 p.1 #[v0] n j u (by simp [Builtin.List.listFitsIndex]; omega) (by simp; omega) (by simp [Builtin.List.listTooLong,sizeLine]; omega))
        ⟨hv,?_⟩⟩)
  refine po_own_list (n:=0) R ?_ (by rw [List.length_replicate]; exact hj)
  rw [if_neg (by simp),foldl_rep]
  simpa using ROL.replicate hv0 j.toNat
theorem add_sound (R:ZRel w.params G ρ z s.heap) (e:addV z a b = some (v,z')) (ra:RepO w.params G ρ x a) (rb:RepO w.params G ρ y b) :
    wpAny (model prog w) A (binaryOp .Add x y) (fun r s'=>Po w.params G ρ s z' v r s') E s:=by
  unfold addV at e
  cases h:a.int? with
  | some i =>
    rw [h] at e
    exact mp1 e fun j h2 e=>pr2 e (ra.intE (V.int_of h) fun _=>rb.intE (V.int_of h2) fun _=>PyProof.Rows.add_int (.tok R (.int ..)))
  | none =>
    rw [h] at e
    change (match a.str? with | some x=>_ | none=>_) = _ at e
    cases h:a.str? with
    | some t =>
      rw [h] at e
      exact bd1 e fun u h2 e=>ifs e fun hl e=>so2 e (ra.strE (V.str_of h) fun _=>rb.strE (V.str_of h2) fun _=>PyProof.Rows.add_str (fun t' tk=>.tok R (.str ..)) (Nat.le_trans hl (by decide)))
    | none =>
      rw [h] at e
      exact bd1 e fun xs e1 e=>bd1 e fun ys e2 e=>bd2 e fun xs' z1 e3 e=>bd2 e fun ys' z2 e4 e=>ifs e fun hl e=>so2 e (cat_sound R e1 e2 e3 e4 hl ra rb)
theorem mul_sound (R:ZRel w.params G ρ z s.heap) (e:mulV z a b = some (v,z')) (ra:RepO w.params G ρ x a) (rb:RepO w.params G ρ y b) :
    wpAny (model prog w) A (binaryOp .Mult x y) (fun r s'=>Po w.params G ρ s z' v r s') E s:=by
  unfold mulV at e
  refine bd1 e fun j hj e=>rb.intE (V.int_of hj) fun u=>?_
  cases h:a.int? with
  | some i =>
    rw [h] at e
    refine ifs e fun hq e=>so2 e (ra.intE (V.int_of h) fun _=>?_)
    have hq:=(Bool.and_eq_true _ _).mp hq
    have hm:intMax.natAbs < 2 ^ 300:=by decide +kernel
    exact PyProof.Rows.mul_int (.tok R (.int ..)) (IntMulOk.of_le (intBits_le_iff.mpr (Nat.lt_trans (of_decide_eq_true hq.1) hm)) (intBits_le_iff.mpr (Nat.lt_trans (of_decide_eq_true hq.2) hm)) (by decide))
  | none =>
    rw [h] at e
    refine bd1 e fun k hk e=>bd1 e fun o ho e=>bd1 e fun vs hvs e=>bd1 e fun vv hvv e=>ifs e fun hq e=>so2 e ?_
    have ra:RepO w.params G ρ x (.own k):=V.own_of hk ▸ ra
    obtain ⟨p,hp,rfl⟩:=ra
    exact rep_sound R hp (by rw [ho,O.rawl_of hvs,one_of hvv]) hq.1 hq.2
theorem two_int {f:Int × Int → Option (V × Zo)} {op:Operator} {Q:Value → Shared → Prop} (e:(ints? a b).bind f = some (v,z')) (ra:RepO w.params G ρ x a) (rb:RepO w.params G ρ y b)
    (h:∀ i j t u,f (i,j) = some (v,z') → wpAny (model prog w) A (binaryOp op (.int i t) (.int j u)) Q E s):wpAny (model prog w) A (binaryOp op x y) Q E s :=
  bd1 e fun q e1 e=>ra.intE (ints_of e1).1 fun t=>rb.intE (ints_of e1).2 fun u=>h _ _ t u e
theorem bin_sound (R:ZRel w.params G ρ z s.heap) {op:Operator} (e:binV z op a b = some (v,z')) (ra:RepO w.params G ρ x a) (rb:RepO w.params G ρ y b) :
    wpAny (model prog w) A (binaryOp op x y) (fun r s'=>Po w.params G ρ s z' v r s') E s:=by
  induction op using Operator.casesOn with
  | Add=>exact add_sound R e ra rb
  | Mult=>exact mul_sound R e ra rb
  | Mod=>exact two_int e ra rb fun i j t u e=>ifn e fun hj e=>so2 e (mod_int' hj (.tok R (.int ..)))
  | FloorDiv=>exact two_int e ra rb fun i j t u e=>ifs e fun hj e=>so2 e (floordiv_int (by omega) (.tok R (.int ..)) (.inl (PyProof.noPylong_small (by omega))))
  | Pow=>exact two_int e ra rb fun i j t u e=>ifs e fun hj e=>so2 e (pow_int_small hj.2.1 (by omega) (by rw [hj.1]; decide) (.tok R (.int ..)))
  | _=>exact mt e
end
end
end Mine
end
section
open PySem PySem.W PySem.Calls PySem.SeqAt PyProof.Rows
namespace Mine
section
variable {prog:Program} {w:World} {A:Around} {E:Value → Shared → Prop} {s:Shared} {G:Gh} {ρ:Ro} {z z':Zo}
theorem subscripted_plain {sl:Expr} (h:isSlice sl = false) (o i:Value):subscripted sl false o i = operate [o,i] (getItem o i):=by
  induction sl using Expr.casesOn <;> first | rfl | exact ff h.symm
section
variable {value slice:Expr} {a v:V} {x:Value}
theorem item_tup (R:ZRel w.params G ρ z s.heap) {i:Int} {u:Tok} {xs:List V} (hi:¬ i < 0) (e2:xs[i.toNat]? = some v) (ra:RepO w.params G ρ x (.tup xs)) (hs:isSlice slice = false) :
    wpAny (model prog w) A (subscriptTail value slice x (.int i u)) (fun r s'=>Po w.params G ρ s z v r s') E s:=by
  obtain ⟨g,hc,hdn,hd,hl,hr⟩:RSi w.params G "tuple" xs x:=Rep.inv ra
  rename_i a o vs n
  have hlt:i.toNat < xs.length:=(List.getElem?_eq_some_iff.mp e2).1
  have ht:IsTup s.heap a vs:=⟨_,R.keep _ _ g,hc,_,hd⟩
  obtain ⟨v0,hv,rv⟩:=(ROL.of_rep (ρ:=ρ) hr).get e2
  have hlen:vs.size = xs.length:=hr.length
  have hm:(lineMax:Int) < 2 ^ 63:=by decide
  have hi2:i < 2 ^ 63:=by omega
  have hlo:(-2 ^ 63:Int) ≤ i:=Int.le_trans (by decide) (Int.not_lt.mp hi)
  have hj:seqIndex? i vs.size = some i.toNat:=by
    unfold seqIndex?
    rw [if_neg hi,if_pos (by rw [hlen]; simp only [Bool.and_eq_true,decide_eq_true_eq]; omega)]
  have hv':vs[i.toNat]? = some v0:=by simpa using hv
  exact tail_any ht.typeIs slot_tuple_getitem.lookup (getItem_tuple ht hlo hi2 hj hv' (.here R rv)) (subscripted_plain hs _ _)
theorem item_list (R:ZRel w.params G ρ z s.heap) {i:Int} {u:Tok} {xs:List V} (hi:¬ i < 0) (e1:asList z a = some xs) (e2:xs[i.toNat]? = some v) (ra:RepO w.params G ρ x a) (hs:isSlice slice = false) :
    wpAny (model prog w) A (subscriptTail value slice x (.int i u)) (fun r s'=>Po w.params G ρ s z v r s') E s:=by
  obtain ⟨l,vals,rfl,hl,_,hr,hle⟩:=asList_rep R e1 ra
  obtain ⟨v0,hv,rv⟩:=hr.get e2
  have hlt:i.toNat < xs.length:=(List.getElem?_eq_some_iff.mp e2).1
  have hm:(lineMax:Int) < 2 ^ 63:=by decide
  exact tail_any hl.typeIs slot_list_getitem.lookup (wpAny_getItem_list hl (by omega) (by omega) (by simpa using hv) (.here R rv)) (subscripted_plain hs _ _)
theorem asSeq_el {C:Prop} {xs:List V} (e:asSeq z a = some xs) (h1:a = .tup xs → C) (h2:asList z a = some xs → C):C:=by
  unfold asSeq at e
  cases h:a.tup? with
  | none=>rw [h] at e; exact h2 e
  | some l=>rw [h] at e; exact h1 (V.tup_of (h.trans e))
theorem item_sound (R:ZRel w.params G ρ z s.heap) {i:V} {y:Value} (e:itemV z a i = some v) (ra:RepO w.params G ρ x a) (ri:RepO w.params G ρ y i) (hs:isSlice slice = false) :
    wpAny (model prog w) A (subscriptTail value slice x y) (fun r s'=>Po w.params G ρ s z v r s') E s:=by
  unfold itemV at e
  cases h:i.int? with
  | some j =>
    rw [h] at e
    exact ifn e fun hi e=>bd1 e fun xs e1 e2=>ri.intE (V.int_of h) fun u=>asSeq_el e1 (fun q=>item_tup R hi e2 (q ▸ ra) hs) fun e1=>item_list R hi e1 e2 ra hs
  | none =>
    rw [h] at e
    refine bd1 e fun k hk e=>bd1 e fun es e1 e2=>ri.strE (V.str_of hk) fun u=>?_
    obtain ⟨d,ents,n,rfl,hd,_,hr⟩:=asDict_rep R e1 ra
    obtain ⟨v0,hv,rv⟩:=(hr.find _).1 _ e2
    have hm:=hr.mapOf (prog:=prog) hd
    exact tail_any hm.typeIs slot_dict_getitem.lookup (wpAny_getItem_of (strKind_is prog w _ u) hm hv (.tok R rv)) (subscripted_plain hs _ _)
end
theorem cut_picks {vals:Array Value} {lv uv sv:V} {xs ys:List V} {vl vu vs:Value} (hr:ROL w.params G ρ vals.toList xs) (rl:RepO w.params G ρ vl lv) (ru:RepO w.params G ρ vu uv) (rs:RepO w.params G ρ vs sv) (e2:cutV xs lv uv sv = some ys) :
    ∃ lo hi sp,IsPart vl lo ∧ IsPart vu hi ∧ IsPart vs sp ∧ sp ≠ some 0 ∧ ROL w.params G ρ (slicePick vals lo hi sp).toList ys:=by
  unfold cutV at e2
  cases h:sv.int? with
  | some i =>
    rw [h] at e2
    refine ifs e2 fun q e3=>?_
    obtain ⟨⟨q1,q2⟩,q3⟩:(lv.nil = true ∧ uv.nil = true) ∧ (i == -1) = true:=by simpa only [Bool.and_eq_true] using q
    clear e2 q
    obtain rfl:=eq_of_beq q3
    obtain rfl:=Option.some.inj e3
    refine rl.noneE (V.nil_of q1) (ru.noneE (V.nil_of q2) (rs.intE (V.int_of h) fun t=>⟨_,_,_,.none,.none,.int (-1) t,by simp,?_⟩))
    rw [krv_pick]
    simpa using hr.reverse
  | none =>
    rw [h] at e2
    refine ifs e2 fun q e2=>rs.noneE (V.nil_of q) ?_
    cases h:uv.int? with
    | some i =>
      rw [h] at e2
      refine ifs e2 fun q e2=>?_
      obtain rfl:=Option.some.inj e2
      have q:=(Bool.and_eq_true _ _).mp q
      refine rl.noneE (V.nil_of q.1) (ru.intE (V.int_of h) fun t=>⟨_,_,_,.none,.int i t,.none,by simp,?_⟩)
      have eh:i = (i.toNat:Int):=by
        have:¬ i < 0:=by simpa using q.2
        omega
      rw [eh,slicePick_upto']
      simpa [← eh] using hr.take i.toNat
    | none =>
      rw [h] at e2
      refine ifs e2 fun q e2=>ru.noneE (V.nil_of q) (bd1 e2 fun i h e2=>ifn e2 fun q e2=>?_)
      obtain rfl:=Option.some.inj e2
      refine rl.intE (V.int_of h) fun t=>⟨_,_,_,.int i t,.none,.none,by simp,?_⟩
      have eh:i = (i.toNat:Int):=by omega
      rw [eh,slicePick_from']
      simpa [← eh] using hr.drop i.toNat
theorem cut_sound (R:ZRel w.params G ρ z s.heap) {value:Expr} {l u st:Option Expr} {p:Pos} {a lv uv sv:V} {xs ys ts:List V} {x vl vu vs:Value} (e:asList z a = some xs) (ra:RepO w.params G ρ x a)
    (rl:RepO w.params G ρ vl lv) (ru:RepO w.params G ρ vu uv) (rs:RepO w.params G ρ vs sv) (e2:cutV xs lv uv sv = some ys) (e3:frzs ys z = some (ts,z')) :
    wpAny (model prog w) A (subscriptTail value (.Slice l u st p) x (.ref s.heap.objs.size)) (fun r s'=>Po w.params G ρ s z' (.list ts) r s') E { s with heap:=s.heap.push { cls:=.type "slice",data:=.fields #[vl,vu,vs] } }:=by
  obtain ⟨la,vals,rfl,hl,_,hr,hle⟩:=asList_rep R e ra
  obtain ⟨lo,hi,sp,p1,p2,p3,h0,hy⟩:=cut_picks hr rl ru rs e2
  clear rl ru rs e e2 ra
  have hlen:vals.size = xs.length:=hr.length
  have hsz:vals.size ≤ sizeLine:=by rw [hlen]; exact Nat.le_trans hle (by decide)
  obtain ⟨G1,g1,R1,q1⟩:=frzs_ok (X:=NoX) e3 R hy
  have hle2:ts.length ≤ lineMax:=by
    rw [← q1.length]
    have:=slicePick_size_le vals lo hi sp
    rw [Array.length_toList]
    omega
  have R2:=R1.keeps (h':=s.heap.push { cls:=.type "slice",data:=.fields #[vl,vu,vs] }) (push_keep _ _)
  have g2:Grow NoX G1 ρ s G1 ρ { s with heap:=s.heap.push { cls:=.type "slice",data:=.fields #[vl,vu,vs] } }:=.pure ⟨_,_,rfl⟩ (push_keep _ _)
  have ops:∃ ops,subscripted (.Slice l u st p) false (.ref la) (.ref s.heap.objs.size) = operate ops (getItem (.ref la) (.ref s.heap.objs.size)):=by
    clear R1 R2 g1 g2 q1 hle2; induction st using Option.casesOn <;> exact ⟨_,rfl⟩
  obtain ⟨ops,hops⟩:=ops
  refine tail_any (Heap.IsList.typeIs (s:={ s with heap:=s.heap.push { cls:=.type "slice",data:=.fields #[vl,vu,vs] } }) (hl.push _)) slot_list_getitem.lookup
    (wpAny_getItem_list_slice (hl.push _) (Heap.IsSliceOf.new ..) p1 p2 p3 h0 ?_ hsz) hops
  exact Po.trans (g1.trans g2) (po_new_list (n:=0) (s:={ s with heap:=s.heap.push { cls:=.type "slice",data:=.fields #[vl,vu,vs] } }) R2 q1 hle2)
end
end Mine
end
section
open PySem PySem.W PySem.Calls PySem.SeqAt PyProof.Rows
namespace Mine
section
variable {prog:Program} {w:World} {A:Around} {E:Value → Shared → Prop} {s:Shared} {G:Gh} {ρ:Ro} {z z':Zo}
theorem tuple_indexAt (t:Addr) (items:Array Value) (n:Nat) (dd:Option Addr) (sl:Array (Option Value)) (x:Value) (e:Value → Bool) (j:Nat) (hj:j < items.size)
    (hit:e items[j] = true) (hno:∀ m (hm:m < items.size),m < j → e items[m] = false) :
    MeetsIn prog w (Builtin.«tuple.index» ⟨[.ref t,x],[]⟩)
      (fun A R s=>s.heap.get? t = some { cls:=.type "tuple",dict:=dd,data:=.seq items n,slots:=sl } ∧ (∀ y,y ∈ items → EqAt A.in1 s y x (e y)) ∧ R (.ok (.ret (.int j s.toks))) { s with toks:=s.toks + 1 }):=by
  refine .of_wp fun A R s h=>?_
  obtain ⟨hl,he,h⟩:=h
  unfold Builtin.«tuple.index»
  refine wpAny_bind (m:=selfAndSome ..) (wpAny_pure ?_)
  dsimp only; unfold PySem.Builtin.Tuple.tupleItemsOf
  refine wpAny_bind (wpAny_bind (wpAny_seqItems hl rfl (wpAny_pure ?_)))
  refine wpAny_bind (wpAny_pure (wpAny_bind (wpAny_pure ?_)))
  refine wpAny_bind ?_
  rw [Std.Legacy.Range.forIn_eq_forIn_range']
  refine wpAny_mono (Q:=fun (r:Option Fin × Unit) s'=>r = (some (Fin.done (.ret (.int j s.toks))),()) ∧ s' = { s with toks:=s.toks + 1 }) ?_ (fun r s' hr=>?_) (fun _ _ x=>x)
  · refine wpAny_forIn_list _ (fun l b s'=>b = (none,()) ∧ s' = s ∧ ∃ i,i ≤ j ∧ l = List.range' i (items.size - i)) _ ?_ ?_ _ _ ⟨rfl,rfl,0,Nat.zero_le _,by simp [Std.Legacy.Range.size]⟩
    · rintro y rest b s' ⟨rfl,rfl,i,hi,hl'⟩
      have hlt:i < items.size:=by omega
      have e1:items.size - i = (items.size - (i + 1)) + 1:=by omega
      rw [e1,List.range'_succ] at hl'
      injection hl' with e2 e3
      have e2:=e2.symm
      subst e2 e3
      simp only [Array.getElem?_eq_getElem hlt]
      refine wpAny_bind (he _ (Array.getElem_mem hlt) prog w _ _ ?_)
      by_cases hij:i = j
      · subst hij
        rw [hit,if_pos rfl]
        exact wpAny_bind (wpAny_bind (wpAny_mkInt (wpAny_pure (wpAny_pure ⟨rfl,rfl⟩))))
      · rw [hno i hlt (by omega),if_neg Bool.false_ne_true]
        exact wpAny_pure ⟨rfl,rfl,i + 1,by omega,rfl⟩
    · rintro b s' ⟨rfl,rfl,i,hi,hl'⟩
      exfalso
      have:(List.range' i (items.size - i)).length = 0:=by rw [← hl']; rfl
      simp at this
      omega
  · obtain ⟨rfl,rfl⟩:=hr
    exact wpAny_pure ⟨_,rfl,h⟩
theorem setdefault_meets (d:Addr) (hd:(d == sysModules) = false) (k:S) (tk:Tok) (v:Value) :
    MeetsIn prog w (Builtin.«dict.setdefault» ⟨[.ref d,.str k tk,v],[]⟩) (fun _ R s=>∃ es n ts G ρ,s.heap.get? d = some (dictOf es n) ∧ ROE w.params G ρ es ts ∧ es.length ≤ sizeLine ∧
      (∀ t u,ts.lookup k = some t → RepO w.params G ρ u t → R (.ok (.ret u)) { s with toks:=s.toks + 1 }) ∧
      (ts.lookup k = none → ∀ h' n',h'.get? d = some (dictOf (PySem.W.putL k (PyData.keyHash w.params k) (.str k tk) v es) n') → Heap.SameBut d s.heap h' → R (.ok (.ret v)) { s with heap:=h',toks:=s.toks + 1 })) :=
  .of_wp fun A R s h=>by
    obtain ⟨es,n,ts,G,ρ,hg,hr,hz,h1,h2⟩:=h
    unfold Builtin.«dict.setdefault»
    refine wpAny_bind ?_
    unfold Builtin.Dict.keyAndDefault
    refine wpAny_bind (wpAny_notOrdered_dict ⟨_,hg,rfl⟩ ?_)
    show wpAny _ _ (pure (d,Value.str k tk,some v)) _ _ s
    refine wpAny_pure ?_
    show wpAny _ _ (if (d == sysModules) = true then _ else (dictSetDefault d (Value.str k tk) v >>= _)) _ _ s
    rw [if_neg (by rw [hd]; exact Bool.false_ne_true)]
    exact wpAny_bind (dictSetDefault_x hg hr hz (fun t u ht hu=>wpAny_pure ⟨u,rfl,h1 t u ht hu⟩) fun hn h' n' hh hs=>wpAny_pure ⟨v,rfl,h2 hn h' n' hh hs⟩)
theorem st_ok {s:Shared} (h:Heap) (t:Nat):∃ h' tk,({ s with heap:=h,toks:=t }:Shared) = { s with heap:=h',toks:=tk }:=⟨_,_,rfl⟩
def SeqI (h:Heap) (c:String) (xs:List PyData) (x:Value):Prop:=∃ a dd vs n sl as,x = .ref a ∧ h.get? a = some ⟨.type c,dd,.seq vs n,sl⟩ ∧ ReadsAll h vs.toList xs as
theorem SeqI.mk {h:Heap} {c:String} {xs:List PyData} {a:Addr} {o:Obj} {vs n as} (h1:h.get? a = some o) (h2:o.cls = .type c) (h3:o.data = .seq vs n) (h4:ReadsAll h vs.toList xs as):SeqI h c xs (.ref a):=by
  obtain ⟨cls,dd,data,sl⟩:=o
  dsimp only at h2 h3
  subst h2 h3
  exact ⟨_,_,_,_,_,_,rfl,h1,h4⟩
noncomputable def RdI (h:Heap) (x:Value):PyData → Prop
  | .none=>True
  | .bool _=>True
  | .int _=>True
  | .str _=>True
  | .list ds=>SeqI h "list" ds x
  | .tuple ds=>SeqI h "tuple" ds x
  | .dict _=>True
theorem Rd_inv {h:Heap} {x:Value} {d as} (r:Reads h x d as):RdI h x d :=
  Reads.casesOn (motive_1:=fun x d _ _=>RdI h x d) r trivial (fun _=>trivial) (fun _ _=>trivial) (fun _ _=>trivial) (fun a b c d=>.mk a b c d) (fun a b c d=>.mk a b c d) fun _ _ _ _ _=>trivial
section
variable {o v:V} {args:List V} {x:Value} {ys:List Value}
theorem append_sound (R:ZRel w.params G ρ z s.heap) (e:appendV o args z = some (v,z')) (ro:RepO w.params G ρ x o) (rs:ROL w.params G ρ ys args) :
    wpAny (model prog w) A (call (.builtin "list.append") (x :: ys)) (fun r s'=>Po w.params G ρ s z' v r s') E s:=by
  refine bd1 e fun k hk e=>bd1 e fun a ha e=>bd1 e fun ob hz e=>bd1 e fun vs hvs e=>ifs e fun hlt e=>so2 e ?_
  clear e
  obtain ⟨p,hp,rfl⟩:RepO w.params G ρ x (.own k):=V.own_of hk ▸ ro
  obtain ⟨y,rfl,ra⟩:=ROL.one (one_of ha ▸ rs)
  rw [O.rawl_of hvs] at hz
  obtain ⟨he,vals,n,hv,hl,hr⟩:=R.obj k p _ hp hz
  have hlen:vals.size = vs.length:=hr.length
  refine append_at hv (fun h' hs hg=>?_) (by rw [hlen]; exact Nat.le_trans hl (by decide))
  have hal:(h'.get? p.1).isSome = true:=by rw [hg]; rfl
  have q:=zone_set (X:=NoX) (s':={ s with heap:=h' }) (o':=.list (vs ++ [a])) R hp hz rfl ⟨_,_,rfl⟩ (fun b hb _=>hs.2 b hb) hal (by rw [he]; exact hal) rfl
    ⟨he,_,_,hg,by simp only [List.length_append,List.length_singleton]; exact hlt,by simpa using hr.append (.cons ra .nil)⟩
  exact ⟨_,_,q.1,q.2,.none⟩
theorem index_hit {i:Nat} {da:PyData} {ds:List PyData} {vs:Array Value} {as bs:List Addr} {y:Value} (hu:A.units + 20 < cLine) (r1:Reads s.heap y da bs) (l1:da.canLay0 = true) (d1:da.depth ≤ 6) (hl:PyData.canLayAll0 ds = true) (hi:indexOf ds da = some i) (rd:ReadsAll s.heap vs.toList ds as) :
    ∃ ef:Value → Bool,(∀ y',y' ∈ vs → EqAt A.in1 s y' y (ef y')) ∧ ∃ hj:i < vs.size,ef vs[i] = true ∧ ∀ m (hm:m < vs.size),m < i → ef vs[m] = false:=by
  have mp:=readsAll_map ds _ _ hl rd
  have hlen:vs.size = ds.length:=by rw [← mp]; simp
  have at_:∀ m (hm:m < vs.size),readOf s.heap vs[m] = ds[m]'(by omega):=fun m hm=>by
    have:=congrArg (fun l=>l[m]?) mp
    simp only [List.getElem?_map] at this
    rw [List.getElem?_eq_getElem (by simpa using hm),List.getElem?_eq_getElem (by omega)] at this
    simpa using this
  obtain ⟨h1,h2,h3⟩:=List.findIdx?_eq_some_iff_getElem.mp hi
  refine ⟨fun y=>PyData.eqv (readOf s.heap y) da,items_eqAt rd r1 hl l1 (by have:=Nat.min_le_right (PyData.depthAll ds) da.depth; omega),by omega,?_,fun m hm hlt=>?_⟩
  · show PyData.eqv (readOf s.heap vs[i]) da = true
    rw [at_]; exact h2
  · show PyData.eqv (readOf s.heap vs[m]) da = false
    rw [at_]
    simpa using h3 m hlt
theorem index_sound (R:ZRel w.params G ρ z s.heap) (hu:A.units + 20 < cLine) {tup:Bool} (e:indexV tup o args z = some (v,z')) (ro:RepO w.params G ρ x o) (rs:ROL w.params G ρ ys args) :
    wpAny (model prog w) A (call (.builtin (if tup then "tuple.index" else "list.index")) (x :: ys)) (fun r s'=>Po w.params G ρ s z' v r s') E s:=by
  refine bd1 e fun a ha e=>bd1 e fun p e1 e=>bd1 e fun ds e2 e=>bd1 e fun i e3 e=>ifs e fun hlt e=>so2 e ?_
  clear e
  obtain ⟨y,rfl,ra⟩:=ROL.one (one_of ha ▸ rs)
  refine both_el R e1 ra ro fun as bs r1 r2 l1 l2 d1 d2=>?_
  clear e1 rs ra ro ha
  induction tup using Bool.casesOn with
  | false =>
    rw [dls_of e2] at r2 l2
    obtain ⟨l,dd,vs,n,sl,as,rfl,h1,h4⟩:SeqI s.heap "list" ds x:=Rd_inv r2
    obtain ⟨ef,q1,hj,q2,q3⟩:=index_hit hu r1 l1 d1 l2 e3 h4
    exact call_meets PySem.F.slot_list_index ⟨_,h1,rfl⟩ PySem.F.entry_list_index (PySem.F.args_list_index_2 _ _)
      (list_indexAt l vs n dd sl y ef i hj (by have:lineMax = 1048576:=rfl; omega) q2 q3) ⟨h1,q1,.tok R (.int ..)⟩
  | true =>
    rw [dtp_of e2] at r2 l2
    obtain ⟨l,dd,vs,n,sl,as,rfl,h1,h4⟩:SeqI s.heap "tuple" ds x:=Rd_inv r2
    obtain ⟨ef,q1,hj,q2,q3⟩:=index_hit hu r1 l1 d1 l2 e3 h4
    exact call_meetsIn PySem.F.slot_tuple_index ⟨_,h1,rfl⟩ PySem.F.entry_tuple_index (PySem.F.args_tuple_index_2 _ _)
      (tuple_indexAt l vs n dd sl y ef i hj q2 q3) ⟨h1,q1,.tok R (.int ..)⟩
theorem get_sound (R:ZRel w.params G ρ z s.heap) (e:getV o args z = some (v,z')) (ro:RepO w.params G ρ x o) (rs:ROL w.params G ρ ys args) :
    wpAny (model prog w) A (call (.builtin "dict.get") (x :: ys)) (fun r s'=>Po w.params G ρ s z' v r s') E s:=by
  refine bd1 e fun a ha e=>bd1 e fun k hk e=>mp1 e fun es e1 e=>pr2 e ?_
  clear e
  obtain ⟨y,rfl,ra⟩:=ROL.one (one_of ha ▸ rs)
  obtain ⟨d,ents,n,rfl,hd,hsy,hr⟩:=asDict_rep R e1 ro
  refine ra.strE (V.str_of hk) fun tk=>?_
  have hm:=hr.mapOf (prog:=prog) hd
  refine call_meetsIn PySem.F.slot_dict_get hm.typeIs PySem.F.entry_dict_get (PySem.F.args_dict_get_2 _ _) (meets_dict_get (strKind prog w) d (strKind_is prog w k tk) hsy) ⟨_,hm,?_⟩
  have hf:=hr.find k
  cases hl:es.lookup k with
  | none=>rw [hf.2 hl]; exact .tok R .none
  | some t =>
    obtain ⟨u,h1,h2⟩:=hf.1 t hl
    rw [h1]; exact .tok R h2
theorem setdefault_sound (R:ZRel w.params G ρ z s.heap) (e:setdefaultV o args z = some (v,z')) (ro:RepO w.params G ρ x o) (rs:ROL w.params G ρ ys args) :
    wpAny (model prog w) A (call (.builtin "dict.setdefault") (x :: ys)) (fun r s'=>Po w.params G ρ s z' v r s') E s:=by
  refine bd1 e fun k hk e=>bd2 e fun a dv ha e=>bd1 e fun xk hx e=>bd1 e fun ob hz e=>bd1 e fun es hes e=>?_
  obtain ⟨p,hp,rfl⟩:RepO w.params G ρ x (.own k):=V.own_of hk ▸ ro
  rw [two_of ha] at rs
  obtain ⟨y,y2,rfl,ra,rd⟩:=ROL.two rs
  refine ra.strE (V.str_of hx) fun tk=>?_
  rw [O.rawd_of hes] at hz
  obtain ⟨he,hsy,ents,n,hv,hl,hr⟩:=R.obj k p _ hp hz
  clear rs ra ha hk hx hes
  refine call_meetsIn PySem.F.slot_dict_setdefault ⟨_,hv,rfl⟩ PySem.F.entry_dict_setdefault (PySem.F.args_dict_setdefault_3 _ _ _) (setdefault_meets p.1 hsy xk tk _)
    ⟨ents,n,es,G,ρ,hv,hr,by rw [hr.length]; exact Nat.le_trans hl (by decide),fun t u ht hut=>?_,fun hn h' n' hg hs=>?_⟩
  · rw [ht] at e
    exact so2 e (.tok R hut)
  · rw [hn] at e
    refine ifs e fun hlt e=>so2 e ?_
    have hal:(h'.get? p.1).isSome = true:=by rw [hg]; rfl
    have q:=zone_set (X:=NoX) (s':={ s with heap:=h',toks:=s.toks + 1 }) (o':=.dict (setE xk dv es)) R hp hz rfl ⟨_,_,rfl⟩ (fun b hb _=>hs.2 b hb) hal (by rw [he]; exact hal) rfl
      ⟨he,hsy,_,_,hg,Nat.le_trans (setE_len _ _ _) hlt,hr.putL rd⟩
    exact ⟨_,_,q.1,q.2,rd⟩
theorem ifeq {α:Type} {a b:String} {p q:Option α} {r:α} {C:Prop} (e:(if a = b then p else q) = some r) (h1:b = a → p = some r → C) (h2:q = some r → C):C:=by
  split at e
  · rename_i h; exact h1 h.symm e
  · exact h2 e
theorem mcall_sound (R:ZRel w.params G ρ z s.heap) (hu:A.units + 20 < cLine) {id:String} (e:mcall id o args z = some (v,z')) (ro:RepO w.params G ρ x o) (rs:ROL w.params G ρ ys args) :
    wpAny (model prog w) A (call (.builtin id) (x :: ys)) (fun r s'=>Po w.params G ρ s z' v r s') E s :=
  ifeq e (fun q e=>q ▸ append_sound R e ro rs) fun e=>ifeq e (fun q e=>q ▸ index_sound (tup:=false) R hu e ro rs) fun e=>ifeq e (fun q e=>q ▸ index_sound (tup:=true) R hu e ro rs) fun e =>
    ifeq e (fun q e=>q ▸ get_sound R e ro rs) fun e=>ifeq e (fun q e=>q ▸ setdefault_sound R e ro rs) fun e=>mt e
end
end
end Mine
end
section
open PySem PySem.W PySem.Calls PySem.SeqAt PyProof.Rows
namespace Mine
section
variable {prog:Program} {w:World} {A:Around} {E:Value → Shared → Prop} {s:Shared} {G:Gh} {ρ:Ro} {z z':Zo} {K:Frag} {Pr:Prg} {loose:List S} {mg mb:S → Option Value}
theorem Base.high (B:Base K prog loose mg mb G) {Pm:Params} (R:ZRel Pm G ρ z s.heap):(s.heap.objs.size == sysModules) = false:=by
  have T:=B.top R
  have:=T.g.lt
  have h3:mainGlobals = 3:=rfl
  have h1:sysModules = 1:=rfl
  rw [h3] at this
  rw [h1]
  exact beq_eq_false_iff_ne.mpr fun e=>by rw [e] at this; exact absurd this (by decide)
theorem po_own_dict0 (B:Base K prog loose mg mb G) (R:ZRel w.params G ρ z s.heap):Po w.params G ρ s (z ++ [.dict []]) (.own z.length) (.ref s.heap.objs.size) { s with heap:=s.heap.push (dictOf [] 0) }:=by
  have hg:(s.heap.push (dictOf [] 0)).get? s.heap.objs.size = some (dictOf [] 0):=Heap.get?_push_size _ rfl
  obtain ⟨g,R'⟩:=zone_new (X:=NoX) (s':={ s with heap:=s.heap.push (dictOf [] 0) }) (p:=(s.heap.objs.size,s.heap.objs.size)) (o:=.dict []) R ⟨_,_,rfl⟩ (push_keep _ _) (push_none _) (push_none _)
    (by show Option.isSome ((s.heap.push _).get? s.heap.objs.size) = true; rw [hg]; rfl) (by show Option.isSome ((s.heap.push _).get? s.heap.objs.size) = true; rw [hg]; rfl) ⟨rfl,B.high R,[],0,hg,Nat.zero_le _,.nil⟩
  exact ⟨_,_,g,R',(s.heap.objs.size,s.heap.objs.size),by rw [← R.len]; simp,rfl⟩
inductive ROKV (Pm:Params) (G:Gh) (ρ:Ro):List (S × Value) → List (S × V) → Prop
  | nil:ROKV Pm G ρ [] []
  | cons {k v t vs ts}:RepO Pm G ρ v t → ROKV Pm G ρ vs ts → ROKV Pm G ρ ((k,v) :: vs) ((k,t) :: ts)
theorem ROKV.consE {Pm:Params} {x:List (S × Value)} {y:List (S × V)} {k:S} {v:Value} {kvs:List (S × Value)} {C:List (S × V) → Prop} (r:ROKV Pm G ρ x y) (e:x = (k,v) :: kvs) (K:∀ t ts,RepO Pm G ρ v t → ROKV Pm G ρ kvs ts → C ((k,t) :: ts)):C y:=by
  induction r using ROKV.casesOn with
  | nil=>cases e
  | cons a b=>cases e; exact K _ _ a b
theorem dictOf_roe {h:Heap} {d:Addr} {kvs:List (S × Value)} {ts:List (S × V)} (hd:h.DictOf (strKind prog w) d kvs) (hr:ROKV w.params G ρ kvs ts):∃ ents n,h.get? d = some (dictOf ents n) ∧ ROE w.params G ρ ents ts:=by
  obtain ⟨⟨cls,dd,data,sl⟩,es,ep,ho,⟨h1,h2,h3⟩,h4,hk,hp,hnd⟩:=hd
  clear hnd
  dsimp only at h1 h2 h3 h4
  subst h1 h2 h3 h4
  refine ⟨es.toList,ep,ho,?_⟩
  have hk':∀ e ∈ es.toList,∃ k,(strKind prog w).is k e.key = true ∧ e.hash = (strKind prog w).hash k:=fun e he=>hk e (by simpa using he)
  clear hk ho
  generalize es.toList = l at hp hk'
  induction hp generalizing ts with
  | nil =>
    generalize hq:[] = l' at hr
    induction hr using ROKV.casesOn with
    | nil=>exact .nil
    | cons=>cases hq
  | @cons e kv es kvs h1 h2 h3 ih =>
    refine hr.consE (C:=fun ts=>ROE w.params G ρ (e :: es) ts) (k:=kv.1) (v:=kv.2) rfl fun t ts' a b=>?_
    obtain ⟨k',hk1,hk2⟩:=hk' e (.head _)
    obtain ⟨tk,htk⟩:=Value.isStrOf_shape (show Value.isStrOf kv.1 e.key = true from h1)
    have e1:k' = kv.1:=(strKind prog w).inj e.key k' kv.1 hk1 h1
    have e2:e.hash = PyData.keyHash w.params kv.1:=hk2.trans (e1 ▸ rfl)
    have e3:e = ⟨PyData.keyHash w.params kv.1,.str kv.1 tk,kv.2⟩:=by rw [← e2,← htk,← h2]
    rw [e3]
    exact .cons a (ih b fun e he=>hk' e (.tail _ he))
theorem toString_small {i:Int} (h:i.natAbs < 10 ^ 10):i.natAbs.log2 < 1920:=by
  by_cases h0:i.natAbs = 0
  · rw [h0]; decide
  · exact (Nat.log2_lt h0).mpr (Nat.lt_trans h (by decide +kernel))
section
variable {v a b:V} {x y:Value}
theorem lenV_sound (R:ZRel w.params G ρ z s.heap) {xs:List V} (e1:asList z a = some xs) (ra:RepO w.params G ρ x a):wpAny (model prog w) A (call (.builtin "len") [x]) (fun r s'=>Po w.params G ρ s z (.int xs.length) r s') E s:=by
  obtain ⟨l,vals,rfl,hl,_,hr,hle⟩:=asList_rep R e1 ra
  have hlen:vals.size = xs.length:=hr.length
  have hm:lineMax = 1048576:=rfl
  exact len_list hl (by omega) (.tok R (hlen ▸ .int ..))
theorem rangeV_sound (R:ZRel w.params G ρ z s.heap) (e:rangeV a z = some (v,z')) (ra:RepO w.params G ρ x a):wpAny (model prog w) A (call (.type "range") [x]) (fun r s'=>Po w.params G ρ s z' v r s') E s:=by
  refine bd1 e fun n h e=>ifs e fun hn e=>so2 e (ra.intE (V.int_of h) fun tk=>call_range_1 ?_)
  have en:n = ((n.toNat:Nat):Int):=by omega
  have q:=frozen_new (X:=NoX) (s':={ s with heap:=s.heap.push { cls:=.type "range",data:=.fields #[.int 0 s.toks,.int n tk,.int 1 (s.toks + 1)] },toks:=s.toks + 1 + 1 }) R ⟨_,_,rfl⟩ (push_keep _ _) (push_none _) (Heap.get?_push_size _ rfl)
  exact ⟨_,_,q.1,q.2,RepO.of_rep (Rep.rng (t:=s.toks) (u:=tk) (v:=s.toks + 1) (by rw [Gh.put_self,← en]) (by omega))⟩
theorem listV_sound (R:ZRel w.params G ρ z s.heap) (e:listV a z = some (v,z')) (ra:RepO w.params G ρ x a):wpAny (model prog w) A (call (.type "list") [x]) (fun r s'=>Po w.params G ρ s z' v r s') E s:=by
  refine bd1 e fun xs e1 e=>mp2 e fun ts z1 e3 e=>pr2 (show (_,_) = (_,_) from e) ?_
  obtain ⟨l,vals,rfl,⟨o,ho,hc,n,hd⟩,_,hr,hle⟩:=asList_rep R e1 ra
  obtain ⟨G1,g1,R1,q1⟩:=frzs_ok (X:=NoX) e3 R hr
  have hlen:vals.size = xs.length:=hr.length
  have hl2:vals.size = ts.length:=q1.length
  refine call_list_seq l (.inl rfl) ho hc hd (fun h' c' hk hD=>?_) (by rw [hlen]; exact Nat.le_trans hle (by decide))
  have q:=frozen_new (X:=NoX) (s':={ s with heap:=h' }) R1 ⟨_,_,rfl⟩ hk (push_none _) hD
  exact ⟨_,_,g1.trans q.1,q.2,RepO.of_rep (.list (Gh.put_self ..) rfl rfl rfl (by rw [← hl2,hlen]; exact hle) (q1.mono q.1.g))⟩
theorem dictV_sound (B:Base K prog loose mg mb G) (R:ZRel w.params G ρ z s.heap) (e:dictV a z = some (v,z')) (ra:RepO w.params G ρ x a):wpAny (model prog w) A (call (.type "dict") [x]) (fun r s'=>Po w.params G ρ s z' v r s') E s:=by
  refine bd1 e fun es e1 e=>ifs e fun hes e=>so2 e ?_
  obtain ⟨d,ents,n,rfl,hd,hsy,hr⟩:=asDict_rep R e1 ra
  obtain rfl:=List.isEmpty_iff.mp hes
  obtain rfl:ents = []:=List.length_eq_zero_iff.mp hr.length
  have hdo:s.heap.DictOf (strKind prog w) d []:=⟨_,_,_,hd,⟨rfl,rfl,rfl⟩,rfl,fun e he=>by simp at he,.nil,List.nodup_nil⟩
  refine kt_call_dict hsy hdo (Nat.zero_le _) fun h' hd' hs'=>?_
  obtain ⟨ents',n',hg,hr'⟩:=dictOf_roe (G:=G) (ρ:=ρ) (ts:=[]) hd' .nil
  have hk:∀ b o,s.heap.get? b = some o → h'.get? b = some o:=fun b o e=>by
    have:b ≠ s.heap.objs.size:=fun q=>by rw [q,push_none] at e; exact mt e
    rw [hs'.2 b this]; exact push_keep _ _ _ _ e
  have hl1:(h'.get? s.heap.objs.size).isSome = true:=by rw [hg]; rfl
  have q:=zone_new (X:=NoX) (s':={ s with heap:=h' }) (p:=(s.heap.objs.size,s.heap.objs.size)) (o:=.dict []) R ⟨_,_,rfl⟩ hk (push_none _) (push_none _) hl1 hl1
    ⟨rfl,B.high R,ents',n',hg,Nat.zero_le _,hr'.mono (fun _ _ e=>e) ⟨_,rfl⟩⟩
  exact ⟨_,_,q.1,q.2,(s.heap.objs.size,s.heap.objs.size),by rw [← R.len]; simp,rfl⟩
theorem isinV_sound (O:POk K Pr) (B:Base K prog loose mg mb G) (R:ZRel w.params G ρ z s.heap) (e:isinV Pr a b z = some (v,z')) (ra:RepO w.params G ρ x a) (rb:RepO w.params G ρ y b):wpAny (model prog w) A (call (.builtin "isinstance") [x,y]) (fun r s'=>Po w.params G ρ s z' v r s') E s:=by
  refine bd1 e fun f hf e=>bd1 e fun C hC0 e=>ifs e fun hC e=>bd2 e fun D fs hi e=>ifs e fun hD e=>so2 e (rb.fnE (V.fn_of hf) ?_)
  rw [rf_of hC0]
  obtain ⟨x,d,es,n,rfl,hx,hd,hr⟩:=asInst_rep R hi ra
  clear ra rb e hf hC0 hi hr
  have X:=B.kin R
  have I:InstAt s.heap x (instObj D d) D (some (dictOf es n)):=⟨hx,rfl,rfl,hd⟩
  by_cases hDC:D = C
  · subst hDC
    rw [decide_eq_true (rfl:D = D)]
    exact isi_call X (fun M=>I.type) (by unfold isIn; simp) (by intro q; cases q) (.tok (t:=s.toks) R (.bool _))
  · rw [decide_eq_false hDC]
    obtain ⟨c,hc⟩:=Option.isSome_iff_exists.mp hC
    obtain ⟨c',hc'⟩:=Option.isSome_iff_exists.mp hD
    have o:=O.cls D c' hc'
    exact kin_callC X I (O.isn C c D c' hc hc' hDC) o.cga o.hasDict o.ccl o.cget o.ctk o.cmro (.tok R (.bool _))
theorem maxV_sound (R:ZRel w.params G ρ z s.heap) (hh:A.handled = none) (e:maxV a b z = some (v,z')) (ra:RepO w.params G ρ x a) (rb:RepO w.params G ρ y b):wpAny (model prog w) A (call (.builtin "max") [x,y]) (fun r s'=>Po w.params G ρ s z' v r s') E s:=by
  refine mp1 e fun q e1 e=>pr2 (show (_,_) = (_,_) from e) (ra.intE (ints_of e1).1 fun t=>rb.intE (ints_of e1).2 fun u=>max_two_ints hh fun h' tk hk=>.keeps R ⟨_,_,rfl⟩ hk ?_)
  by_cases c:q.1 < q.2
  · rw [if_pos c,if_pos c]; exact .int ..
  · rw [if_neg c,if_neg c]; exact .int ..
theorem bcall_sound (O:POk K Pr) (B:Base K prog loose mg mb G) (R:ZRel w.params G ρ z s.heap) (hh:A.handled = none) {f:Value} {args:List V} {ys:List Value} (e:bcall Pr f args z = some (v,z')) (rs:ROL w.params G ρ ys args) :
    wpAny (model prog w) A (call f ys) (fun r s'=>Po w.params G ρ s z' v r s') E s:=by
  unfold bcall at e
  cases h:bi? f with
  | some id =>
    rw [h] at e
    rw [bi_of h]
    refine ifeq e (fun q e=>?_) fun e=>?_
    · refine bd1 e fun a ha e=>mp1 e fun xs e1 e=>pr2 e ?_
      obtain ⟨y,rfl,ra⟩:=ROL.one (one_of ha ▸ rs)
      exact q ▸ lenV_sound R e1 ra
    · refine bd2 e fun a b hab e=>?_
      obtain ⟨x,y,rfl,ra,rb⟩:=ROL.two (two_of hab ▸ rs)
      exact ifeq e (fun q e=>q ▸ maxV_sound R hh e ra rb) fun e=>ifeq e (fun q e=>q ▸ isinV_sound O B R e ra rb) mt
  | none =>
    rw [h] at e
    refine bd1 e fun t ht e=>bd1 e fun a ha e=>?_
    obtain ⟨y,rfl,ra⟩:=ROL.one (one_of ha ▸ rs)
    rw [ty_of ht]
    exact ifeq e (fun q e=>q ▸ rangeV_sound R e ra) fun e=>ifeq e (fun q e=>q ▸ listV_sound R e ra) fun e=>ifeq e (fun q e=>q ▸ dictV_sound B R e ra) fun e =>
      ifeq e (fun q e=>q ▸ (bd1 e fun i h e=>ifs e fun hi e=>so2 e (ra.intE (V.int_of h) fun tk=>PySem.P.str_of_int (toString_small hi) (.tok R (.str ..))))) mt
end
end
end Mine
end
section
open PySem PySem.W PySem.Calls PySem.SeqAt PyProof.Rows
namespace Mine
section
variable {prog:Program} {w:World} {A:Around} {E:Value → Shared → Prop} {s:Shared} {G:Gh} {ρ:Ro} {z z':Zo} {K:Frag} {Pr:Prg} {loose:List S} {mg mb:S → Option Value}
variable {cenv:Env} {ks:Ks} {en:En}
theorem name_sound (O:POk K Pr) (B:Base K prog loose mg mb G) (R:ZRel w.params G ρ z s.heap) (F:FRel w.params G ρ cenv ks en s.heap) {x:S} {pos:Pos} {v:V} (hd:x ≠ "__debug__") (e:nameV Pr ks x en z = some (v,z')) :
    wpAny (model prog w) A (eval (.Name x pos) cenv) (fun r s'=>Po w.params G ρ s z' v r s') E s:=by
  have hb:(x == ("__debug__":Str)) = false:=beq_eq_false_iff_ne.mpr hd
  refine bd1 e fun k hl e=>?_
  have hk:cenv.kindOf x = some k:=by unfold Env.kindOf; rw [F.names]; exact hl
  induction k using NameKind.casesOn with
  | «local» =>
    refine mp1 e fun v' h1 e=>pr2 e ?_
    obtain ⟨m,hn,hm⟩:=F.ns
    obtain ⟨u,hu,ru⟩:=hm x v' hl h1
    exact wpAny_Name (wpAny_loadName_local F.kind hk hn hu (.here R ru)) hb
  | cell =>
    refine mp1 e fun v' h1 e=>pr2 e ?_
    obtain ⟨c,ov,hc,hi,_,_,_,hv⟩:=F.cell x hl
    obtain ⟨u,rfl,ru⟩:=hv v' h1
    exact wpAny_Name (wpAny_loadName_cell F.kind hk hc hi (.here R ru)) hb
  | globalImplicit =>
    refine mp1 e fun v' h1 e=>pr2 e ?_
    obtain ⟨u,rfl,hu⟩:=O.glob x v' h1
    have T:=B.top R
    have X:=B.kin R
    refine Name_function_global F.kind hk ?_ hb
    rcases hu with hu | ⟨hu,h2,h3⟩
    · exact loadGlobal_global (mg:=mg) (by rw [F.glob]; exact T.g) (mg_of X T.g hu) (.here R (RepO.of_rep (.fn u)))
    · exact loadGlobal_builtin (mg:=mg) (mb:=mb) (by rw [F.glob]; exact T.g) (mg_none_of X T.g hu) (by rw [F.bui]; exact T.b) ((T.builtins x h3).trans h2) (.here R (RepO.of_rep (.fn u)))
  | _=>exact mt e
theorem attrBase_plain {o:Expr} {attr:S} {whole:Sem Value} (h:noSuper o = true):attributeBase o attr cenv whole = whole:=by
  induction o using Expr.casesOn with
  | Call f args kws pos =>
    induction f using Expr.casesOn <;> try rfl
    induction args using List.casesOn <;> try rfl
    induction kws using List.casesOn <;> first | rfl | exact ff h
  | _=>rfl
theorem attr_eval {o:Expr} {attr:S} {pos:Pos} {Q:Value → Shared → Prop} (hn:noSuper o = true)
    (h:wpAny (model prog w) A (eval o cenv) (fun v s₁=>wpAny (model prog w) A (getAttr v attr true) Q E s₁) E s):wpAny (model prog w) A (eval (.Attribute o attr pos) cenv) Q E s :=
  Attribute_any_ h (by
    show (do let v ← attributeBase o attr cenv (eval o cenv); standAt pos.atName; let r ← holding [v] (getAttr v attr true); letTemporaryGo o v r; pure r) = _
    rw [attrBase_plain hn])
theorem handedIn_rep {Pm:Params} {x:Value} {v:V} (r:RepO Pm G ρ x v) (h:noFn v = true):handedIn x = true:=by
  induction v using V.casesOn with
  | own k=>obtain ⟨p,_,rfl⟩:=r; rfl
  | fn f=>exact ff h
  | none=>rw [r.none_inv]; rfl
  | bool b=>rw [r.bool_inv]; rfl
  | int b=>obtain ⟨_,rfl⟩:=r.int_inv; rfl
  | str b=>obtain ⟨_,rfl⟩:=r.str_inv; rfl
  | tup=>obtain ⟨_⟩:=Rep.inv r; rfl
  | list=>obtain ⟨_⟩:=Rep.inv r; rfl
  | dict=>obtain ⟨_⟩:=Rep.inv r; rfl
  | inst=>obtain ⟨_⟩:=Rep.inv r; rfl
  | rng=>obtain ⟨_,_,_,_,rfl,_⟩:=Rep.inv r; rfl
theorem getAttr_sound (O:POk K Pr) (B:Base K prog loose mg mb G) (R:ZRel w.params G ρ z s.heap) {o:V} {C:Addr} {fs:List (S × V)} {c:Cls} {a:S} {v:V} {x:Value} (hi:asInst z o = some (C,fs)) (hc:Pr.cls C = some c) (ha:c.fields.contains a = true)
    (hv:fs.lookup a = some v) (hf:noFn v = true) (ro:RepO w.params G ρ x o) :
    wpAny (model prog w) A (getAttr x a true) (fun r s'=>Po w.params G ρ s z v r s') E s:=by
  obtain ⟨x,d,es,n,rfl,hx,hd,hr⟩:=asInst_rep R hi ro
  have X:=B.kin R
  have I:InstAt s.heap x (instObj C d) C (some (dictOf es n)):=⟨hx,rfl,rfl,hd⟩
  have k:=O.cls C c hc
  obtain ⟨hg,hfi,ht⟩:=k.fields a (by simpa using ha)
  obtain ⟨u,hu,ru⟩:=(hr.find a).1 v hv
  have hl:lookIn a (dictOf es n) = some (some u):=by
    rw [lookIn_dict]
    unfold getL
    obtain ⟨e0,h1,h2⟩:=Option.map_eq_some_iff.mp hu
    rw [h1,← h2]
  exact get_value X I (plainGet_of hg).1 (findObj_own k.hasDict hfi rfl hl) (handedIn_rep ru hf) (.tok R ru)
theorem putE_all_str {Pm:Params} {es:List DictEntry} {ts:List (S × V)} (h:ROE Pm G ρ es ts):es.any (·.refKey) = false:=by
  rw [List.any_eq_false]
  intro e he
  obtain ⟨x,t,h1,_⟩:=h.keys e he
  unfold DictEntry.refKey
  rw [h1]
  first | rfl | decide | simp
theorem osa_at {C d x:Addr} {es:List DictEntry} {n:Nat} {name:S} {tk:Tok} {v:Value} {ts:List (S × V)} {Rs:Result → Shared → Prop} (X:K.In s.heap) (hx:s.heap.get? x = some (instObj C d)) (D:s.heap.get? d = some (dictOf es n))
    (hr:ROE w.params G ρ es ts) (hp:plainOver K C = true) (ht:takerIn K C name = some none) (hh:hasDictIn K C = true) (hz:es.length ≤ 1000)
    (h:∀ h' n',Heap.SameBut d s.heap h' → h'.get? d = some (dictOf (PySem.W.putL name (PyData.keyHash w.params name) (.str name s.toks) v es) n') → Rs (.ok (.ret .none)) { s with heap:=h',toks:=s.toks + 1 }) :
    codeAny (model prog w) A (.call (.builtin "object.__setattr__") ⟨[.ref x,.str name tk,v],[]⟩) Rs s:=by
  have I:InstAt s.heap x (instObj C d) C (some (dictOf es n)):=⟨hx,rfl,rfl,D⟩
  refine osa_open X I hp ht fun b=>?_
  obtain ⟨cd,hc,hd'⟩:=any_some hh
  refine wpAny_bind (wpAny_pure (wpAny_bind (wpAny_bind (wpAny_loadPart hx (wpAny_bind ((looks_clsIn X hc).here ?_))))))
  rw [hd']
  refine wpAny_pure (a:=some d) (wpAny_bind (wpAny_pure (wpAny_bind ?_)))
  unfold nsSet
  refine wpAny_bind (wpAny_bind (wpAny_askSetting (wpAny_pure (wpAny_bind (wpAny_mkText (wpAny_bind (wpAny_loadPart D ?_)))))))
  have c:(!es.toArray.any (·.key.isStr name) && es.toArray.any (·.refKey)) = false:=by
    rw [← Array.any_toList,← Array.any_toList]
    show (!es.any _ && es.any _) = false
    rw [putE_all_str hr,Bool.and_false]
  dsimp only
  rw [aRefKeyMayBeTheName_at,c]
  have e:=putName_dict name (PyData.keyHash w.params name) (.str name s.toks) v es n
  refine wpAny_updatePart D ?_
  have D':(s.heap.update d (Obj.putName name (PyData.keyHash w.params name) (.str name s.toks) v)).get? d = some (dictOf (PySem.W.putL name (PyData.keyHash w.params name) (.str name s.toks) v es) (putN name es n)):=by
    rw [Heap.get?_update_self _ D (by rw [e]; rfl),e]
  have hlen:=(hr.putL (k:=name) (tk:=s.toks) (RepO.none (P:=w.params) (G:=G) (ρ:=ρ))).length
  have hpl:(PySem.W.putL name (PyData.keyHash w.params name) (.str name s.toks) v es).length ≤ es.length + 1:=by
    have q:∀ l:List DictEntry,(PySem.W.putL name (PyData.keyHash w.params name) (.str name s.toks) v l).length ≤ l.length + 1:=by
      intro l
      induction l with
      | nil=>simp [PySem.W.putL]
      | cons a l ih=>unfold PySem.W.putL; split <;> simp only [List.length_cons] <;> omega
    exact q es
  refine wpAny_bind (wpAny_lookBehind D' (pastItsLine_dict (by rw [List.size_toArray,sizeLine_eq]; omega)) ?_)
  exact wpAny_pure (h _ _ (Heap.SameBut.update ..) D')
def Zd (w:World) (G:Gh) (ρ:Ro) (s:Shared) (z':Zo) (s':Shared):Prop:=∃ G' ρ',Grow NoX G ρ s G' ρ' s' ∧ ZRel w.params G' ρ' z' s'.heap
theorem setField_sound (O:POk K Pr) (B:Base K prog loose mg mb G) (R:ZRel w.params G ρ z s.heap) {o v:V} {a:S} {x y:Value} (e:setFieldV Pr z o a v = some z') (ro:RepO w.params G ρ x o) (rv:RepO w.params G ρ y v) :
    wpAny (model prog w) A (setAttr x a y) (fun _ s'=>Zd w G ρ s z' s') E s:=by
  refine bd1 e fun k hk e=>bd1 e fun ob hz e=>bd2 e fun C fs hf e=>bd1 e fun c hc e=>ifs e fun hq e=>so1 e ?_
  obtain ⟨p,hp,rfl⟩:RepO w.params G ρ x (.own k):=V.own_of hk ▸ ro
  have hq:=(Bool.and_eq_true _ _).mp hq
  rw [Mine.O.rawi_of hf] at hz
  clear e hk hf ro
  obtain ⟨hne,ents,n,hx,hd,hl,hr⟩:=R.obj k p _ hp hz
  have X:=B.kin R
  have kk:=O.cls C c hc
  have ht:=(kk.fields a (by simpa using hq.1)).2.2
  refine set_plain X (⟨hx,rfl,rfl,hd⟩:InstAt s.heap p.1 (instObj C p.2) C (some (dictOf ents n))) kk.setattr ?_
  refine osa_at (s:={ s with toks:=s.toks + 1 }) X hx hd hr kk.over ht kk.hasDict (by rw [hr.length]; exact Nat.le_trans hl (by decide)) fun h' n' hs hg=>?_
  have hx':h'.get? p.1 = some (instObj C p.2):=(hs.2 p.1 hne).trans hx
  have q:=zone_set (X:=NoX) (s':={ s with heap:=h',toks:=s.toks + 1 + 1 }) (o':=.inst C (setE a v fs)) R hp hz rfl ⟨_,_,rfl⟩ (fun b _ hb=>hs.2 b hb) (by rw [hx']; rfl) (by rw [hg]; rfl) rfl
    ⟨hne,_,_,hx',hg,Nat.le_trans (setE_len _ _ _) (of_decide_eq_true hq.2),hr.putL rv⟩
  exact ⟨_,_,q.1,q.2⟩
theorem setItem_list_x {l:Addr} {items:Array Value} {n:Nat} {k:Int} {t:Tok} {v:Value} {Q:Unit → Shared → Prop} (ho:s.heap.get? l = some (listOf items n))
    (h0:0 ≤ k) (hfit:k < 2 ^ 63) (hn:k.toNat < items.size)
    (hQ:∀ h' n',h'.get? l = some (listOf (items.setIfInBounds k.toNat v) n') → Heap.SameBut l s.heap h' → Q () { s with heap:=h' }) :
    wpAny (model prog w) A (setItem (.ref l) (.int k t) v) Q E s:=by
  have hl:s.heap.IsList l items:=⟨_,ho,rfl,_,rfl⟩
  unfold setItem
  try with_reducible refine wpAny_holding ?_
  first | refine wpAny_bind (wpAny_pure ?_) | skip
  refine wpAny_bind (wpAny_sequenceKey hl.typeIs (by decide) ?_)
  refine wpAny_bind (wpAny_callSpecial?_slot (name:=Str.ofString "__setitem__") hl.typeIs slot_list_setitem
    (wpAny_call_entry slot_list_setitem hl.typeIs entry_list_setitem ?_ (args_list_setitem _ _ _)))
  show wpAny _ _ (Builtin.List.listSubscript? (.int k t) >>= _) _ _ s
  refine wpAny_bind (wpAny_listSubscript_int (fitsIndex_of h0 hfit) ?_)
  clear hfit
  obtain ⟨j,rfl⟩:=Int.eq_ofNat_of_zero_le h0
  have hj:j < items.size:=hn
  have hx':items[j]? = some items[j]:=Array.getElem?_eq_getElem hj
  show wpAny _ _ ((seqItemAt l j >>= fun r=>pure (r.map (j,·))) >>= _) _ _ s
  refine wpAny_bind (wpAny_bind (wpAny_seqItemAt ho rfl (wpAny_pure ?_)))
  rw [hx']
  show wpAny _ _ (setSeqItemAt l j v >>= _) _ _ s
  have hfin:∃ n',(s.heap.update l (Obj.mapSeq (·.setIfInBounds j v))).get? l = some (listOf (items.setIfInBounds j v) n') :=
    ⟨_,by rw [Heap.get?_update_self _ ho (by rfl)]; rfl⟩
  obtain ⟨n',hfin⟩:=hfin
  refine wpAny_bind (wpAny_setSeqItemAt ho rfl ?_)
  first
    | exact wpAny_bind (wpAny_pure (wpAny_pure ⟨.none,rfl,wpAny_pure (hQ _ _ hfin (Heap.SameBut.update ..))⟩))
    | exact wpAny_pure ⟨.none,rfl,wpAny_pure (hQ _ _ hfin (Heap.SameBut.update ..))⟩
section
variable {o i v:V} {x y u:Value}
theorem setAt_list (R:ZRel w.params G ρ z s.heap) {k:Nat} {p:Addr × Addr} {vs:List V} {j:Int} {t:Tok} (hp:ρ[k]? = some p) (hz:z[k]? = some (.list vs)) (hj:0 ≤ j ∧ j.toNat < vs.length) (rv:RepO w.params G ρ y v) :
    wpAny (model prog w) A (setItem (.ref p.1) (.int j t) y) (fun _ s'=>Zd w G ρ s (z.set k (.list (vs.set j.toNat v))) s') E s:=by
  obtain ⟨he,vals,n,hv,hl,hr⟩:=R.obj k p _ hp hz
  have hlen:vals.size = vs.length:=hr.length
  have hm:(lineMax:Int) < 2 ^ 63:=by decide
  refine setItem_list_x hv hj.1 (by omega) (hlen ▸ hj.2) fun h' n' hg hs=>?_
  have hal:(h'.get? p.1).isSome = true:=by rw [hg]; rfl
  have q:=zone_set (X:=NoX) (s':={ s with heap:=h' }) (o':=.list (vs.set j.toNat v)) R hp hz rfl ⟨_,_,rfl⟩ (fun b hb _=>hs.2 b hb) hal (by rw [he]; exact hal) rfl
    ⟨he,_,_,hg,by simpa using hl,by simpa using hr.set rv⟩
  exact ⟨_,_,q.1,q.2⟩
theorem setAt_dict (R:ZRel w.params G ρ z s.heap) {k:Nat} {p:Addr × Addr} {es:List (S × V)} {xk:S} {t:Tok} (hp:ρ[k]? = some p) (hz:z[k]? = some (.dict es)) (hlt:es.length < 1000) (rv:RepO w.params G ρ y v) :
    wpAny (model prog w) A (setItem (.ref p.1) (.str xk t) y) (fun _ s'=>Zd w G ρ s (z.set k (.dict (setE xk v es))) s') E s:=by
  obtain ⟨he,hsy,ents,n,hv,hl,hr⟩:=R.obj k p _ hp hz
  have hT:s.TypeIs (.ref p.1) "dict":=⟨_,hv,rfl⟩
  unfold setItem
  try with_reducible refine wpAny_holding ?_
  refine wpAny_bind (wpAny_sequenceKey hT (by decide) ?_)
  refine wpAny_bind (wpAny_callSpecial?_slot (name:=Str.ofString "__setitem__") hT slot_dict_setitem
    (wpAny_call_entry slot_dict_setitem hT entry_dict_setitem ?_ (args_dict_setitem _ _ _)))
  show wpAny _ _ (Builtin.Dict.notOrdered "__setitem__" ⟨[.ref p.1,.str xk t,y],[]⟩ >>= _) _ _ s
  refine wpAny_bind (wpAny_notOrdered_dict hT ?_)
  show wpAny _ _ (dictSet p.1 (.str xk t) y >>= _) _ _ s
  refine wpAny_bind (dictSet_x hv hr (by rw [hr.length]; exact Nat.le_trans hl (by decide)) fun h' n' hg hs=>wpAny_pure ⟨.none,rfl,wpAny_pure ?_⟩)
  have hal:(h'.get? p.1).isSome = true:=by rw [hg]; rfl
  have q:=zone_set (X:=NoX) (s':={ s with heap:=h',toks:=s.toks + 1 }) (o':=.dict (setE xk v es)) R hp hz rfl ⟨_,_,rfl⟩ (fun b hb _=>hs.2 b hb) hal (by rw [he]; exact hal) rfl
    ⟨he,hsy,_,_,hg,Nat.le_trans (setE_len _ _ _) hlt,hr.putL rv⟩
  exact ⟨_,_,q.1,q.2⟩
theorem setAt_sound (R:ZRel w.params G ρ z s.heap) (e:setAtV z o i v = some z') (ro:RepO w.params G ρ x o) (ri:RepO w.params G ρ u i) (rv:RepO w.params G ρ y v) :
    wpAny (model prog w) A (setItem x u y) (fun _ s'=>Zd w G ρ s z' s') E s:=by
  refine bd1 e fun k hk e=>bd1 e fun ob hz e=>?_
  obtain ⟨p,hp,rfl⟩:RepO w.params G ρ x (.own k):=V.own_of hk ▸ ro
  cases h:ob.rawl? with
  | some vs =>
    rw [h] at e
    exact bd1 e fun j h2 e=>ifs e fun hj e=>so1 e (ri.intE (V.int_of h2) fun t=>setAt_list R hp (Mine.O.rawl_of h ▸ hz) hj rv)
  | none =>
    rw [h] at e
    exact bd1 e fun es h1 e=>bd1 e fun xk h2 e=>ifs e fun hj e=>so1 e (ri.strE (V.str_of h2) fun t=>setAt_dict R hp (Mine.O.rawd_of h1 ▸ hz) hj rv)
end
end
end Mine
end
section
open PySem PySem.W PySem.Calls PySem.SeqAt PyProof.Rows
namespace Mine
section
variable {w:Params} {G G':Gh} {ρ ρ':Ro} {s s' s1 s2:Shared} {z:Zo} {h h':Heap} {X Y:Addr → Prop}
structure Hid (G:Gh) (ρ:Ro) (h:Heap) (b:Addr):Prop where
  g:G b = none
  f:¬ Fp ρ b
  l:∃ o,h.get? b = some o
theorem Hid.fresh (R:ZRel w G ρ z h) {b:Addr} (hn:h.get? b = none) (hl:∃ o,h'.get? b = some o):Hid G ρ h' b:=⟨R.gnone hn,R.fnone hn,hl⟩
theorem Hid.grow {b:Addr} (H:Hid G ρ s.heap b) (g:Grow X G ρ s G' ρ' s'):Hid G' ρ' s'.heap b:=by
  obtain ⟨o,ho⟩:=H.l
  refine ⟨?_,fun hf'=>?_,Option.isSome_iff_exists.mp (g.al b (by rw [ho]; rfl))⟩
  · cases q:G' b with
    | none=>rfl
    | some x =>
      rcases g.gf b x q with h | h | h
      · rw [H.g] at h; cases h
      · rw [ho] at h; cases h
      · exact absurd h H.f
  · rcases g.rf b hf' with h | h
    · exact H.f h
    · rw [ho] at h; cases h
theorem Hid.kept {b:Addr} {o:Obj} (H:Hid G ρ s.heap b) (g:Grow X G ρ s G' ρ' s') (hX:¬ X b) (ho:s.heap.get? b = some o):s'.heap.get? b = some o:=g.fr b o ho H.f hX
theorem Hid.at {b:Addr} (H:Hid G ρ h b) (hl:∃ o,h'.get? b = some o):Hid G ρ h' b:=⟨H.g,H.f,hl⟩
theorem ZRel.hid (R:ZRel w G ρ z h) (hk:∀ b o,h.get? b = some o → ¬ Y b → h'.get? b = some o) (hY:∀ b,Y b → G b = none ∧ ¬ Fp ρ b):ZRel w G ρ z h':=by
  have ng:∀ a o,G a = some o → ¬ Y a:=fun a o e y=>by rw [(hY a y).1] at e; cases e
  have nf:∀ a,Fp ρ a → ¬ Y a:=fun a f y=>(hY a y).2 f
  refine ⟨R.len,fun a o e=>hk a o (R.keep a o e) (ng a o e),fun k p o hp ho=>?_,R.new,R.inj,fun a ha=>?_⟩
  · refine (R.obj k p o hp ho).mono (fun _ _ e=>e) ⟨[],by simp⟩ fun _=>?_
    obtain ⟨o1,e1⟩:=Option.isSome_iff_exists.mp (R.live p.1 (Fp.of hp).1)
    obtain ⟨o2,e2⟩:=Option.isSome_iff_exists.mp (R.live p.2 (Fp.of hp).2)
    exact ⟨(hk _ _ e1 (nf _ (Fp.of hp).1)).trans e1.symm,(hk _ _ e2 (nf _ (Fp.of hp).2)).trans e2.symm⟩
  · obtain ⟨o,e⟩:=Option.isSome_iff_exists.mp (R.live a ha); rw [hk a o e (nf a ha)]; rfl
theorem Grow.tail (g:Grow X G ρ s G' ρ' s1) (st:∃ h tk,s2 = { s1 with heap:=h,toks:=tk }) (hk:∀ b o,s1.heap.get? b = some o → ¬ Y b → s2.heap.get? b = some o) (hY:∀ b,Y b → s.heap.get? b = none):Grow X G ρ s G' ρ' s2:=by
  have nY:∀ b o,s.heap.get? b = some o → ¬ Y b:=fun b o e y=>by rw [hY b y] at e; cases e
  refine ⟨g.g,g.r,g.gf,g.rf,fun b o e hf hx=>hk b o (g.fr b o e hf hx) (nY b o e),fun b hb=>?_,?_⟩
  · obtain ⟨o,e⟩:=Option.isSome_iff_exists.mp hb
    obtain ⟨o',e'⟩:=Option.isSome_iff_exists.mp (g.al b hb)
    rw [hk b o' e' (nY b o e)]; rfl
  · obtain ⟨h,t,rfl⟩:=g.st; obtain ⟨h',t',rfl⟩:=st; exact ⟨_,_,rfl⟩
theorem Grow.own (st:∃ h tk,s' = { s with heap:=h,toks:=tk }) (hk:∀ b o,s.heap.get? b = some o → ¬ X b → s'.heap.get? b = some o) (hl:∀ b,X b → (s'.heap.get? b).isSome = true):Grow X G ρ s G ρ s' :=
  ⟨fun _ _ h=>h,⟨[],by simp⟩,fun _ _ h=>.inl h,fun _ h=>.inl h,fun b o e _ hx=>hk b o e hx,fun b hb=>by
    by_cases hx:X b
    · exact hl b hx
    · obtain ⟨o,e⟩:=Option.isSome_iff_exists.mp hb
      rw [hk b o e hx]; rfl,st⟩
theorem Grow.hide' (g:Grow X G ρ s G' ρ' s') (hx:∀ b,X b → Y b ∨ s.heap.get? b = none):Grow Y G ρ s G' ρ' s' :=
  ⟨g.g,g.r,g.gf,g.rf,fun b o e hf hy=>g.fr b o e hf fun hX=>(hx b hX).elim hy fun q=>(by rw [e] at q; cases q),g.al,g.st⟩
theorem adopt_frozen (R:ZRel w G ρ z h) {a:Addr} {o:Obj} (H:Hid G ρ h a) (ho:h.get? a = some o):ZRel w (G.put a o) ρ z h :=
  ⟨R.len,fun b x e=>(put_inv e).elim (R.keep b x) fun ⟨h,e⟩=>h ▸ e ▸ ho,fun k p oo hp hoo=>(R.obj k p oo hp hoo).mono (Gh.put_le H.g) ⟨[],by simp⟩ fun _=>⟨rfl,rfl⟩,
    fun k p oo hp hoo hm=>⟨(put_ne (a:=a) (b:=p.1) fun e=>H.f (e ▸ (Fp.of hp).1)).trans (R.new k p oo hp hoo hm).1,(put_ne (a:=a) (b:=p.2) fun e=>H.f (e ▸ (Fp.of hp).2)).trans (R.new k p oo hp hoo hm).2⟩,R.inj,R.live⟩
theorem Grow.adoptF (g:Grow X G ρ s G' ρ' s1) {a:Addr} {o:Obj} (hg:G' a = none) (hn:s.heap.get? a = none):Grow X G ρ s (G'.put a o) ρ' s1 :=
  ⟨fun b x e=>Gh.put_le hg b x (g.g b x e),g.r,fun b x e=>(put_inv e).elim (g.gf b x) fun h=>.inr (.inl (h.1 ▸ hn)),g.rf,g.fr,g.al,g.st⟩
theorem adopt_zone (R:ZRel w G ρ z h) {p:Addr × Addr} {o:O} (H1:Hid G ρ h p.1) (H2:Hid G ρ h p.2) (ho:ZOb w G (ρ ++ [p]) h p o):ZRel w G (ρ ++ [p]) (z ++ [o]) h :=
  zone_add R H1.g H2.g H1.f H2.f (Option.isSome_iff_exists.mpr H1.l) (Option.isSome_iff_exists.mpr H2.l) ho
theorem Grow.adoptZ (g:Grow X G ρ s G' ρ' s1) {p:Addr × Addr} (h1:s.heap.get? p.1 = none) (h2:s.heap.get? p.2 = none):Grow X G ρ s G' (ρ' ++ [p]) s1 :=
  ⟨g.g,g.r.elim fun t ht=>⟨t ++ [p],by rw [ht,List.append_assoc]⟩,g.gf,fun a ha=>(Fp.app_inv ha).elim (g.rf a) fun h=>.inr (h.elim (fun e=>e ▸ h1) fun e=>e ▸ h2),g.fr,g.al,g.st⟩
end
section
variable {prog:Program} {w:World} {A:Around} {E:Value → Shared → Prop} {s:Shared} {G:Gh} {ρ:Ro} {z z':Zo} {K:Frag} {Pr:Prg} {loose:List S} {mg mb:S → Option Value}
variable {cenv:Env} {ks:Ks} {en:En}
theorem setE_lookup (x y:S) (v:V):∀ e:En,(setE x v e).lookup y = if y = x then some v else e.lookup y
  | []=>by
    simp only [setE,List.lookup_cons,List.lookup_nil]
    by_cases h:y = x
    · subst h; simp
    · simp [h,beq_eq_false_iff_ne.mpr h]
  | (k,u) :: r=>by
    unfold setE
    by_cases hk:k = x
    · subst hk
      rw [if_pos rfl]
      simp only [List.lookup_cons]
      by_cases h:y = k
      · subst h; simp
      · simp [h,beq_eq_false_iff_ne.mpr h]
    · rw [if_neg hk]
      simp only [List.lookup_cons]
      by_cases h:y = k
      · subst h; simp [hk]
      · simp only [beq_eq_false_iff_ne.mpr h]; exact setE_lookup x y v r
theorem cell_of (F:FRel w.params G ρ cenv ks en s.heap) {y:S} {b:Addr} (hy:ks.lookup y = some .cell) (hc:cenv.cells.lookup y = some b):(∃ ov,s.heap.IsCell b ov) ∧ G b = none ∧ ¬ Fp ρ b ∧ b ≠ cenv.locals:=by
  obtain ⟨c,ov,hc',hi,g,f,hne,_⟩:=F.cell y hy
  obtain rfl:=Option.some.inj (hc.symm.trans hc')
  exact ⟨⟨ov,hi⟩,g,f,hne⟩
theorem XF_hid (F:FRel w.params G ρ cenv ks en s.heap):∀ b,XF cenv ks b → G b = none ∧ ¬ Fp ρ b:=by
  rintro b (rfl | ⟨y,hy,hc⟩)
  · exact ⟨F.lG,F.lF⟩
  · exact ⟨(cell_of F hy hc).2.1,(cell_of F hy hc).2.2.1⟩
theorem XF_live (F:FRel w.params G ρ cenv ks en s.heap) {h':Heap} {c:Addr} (hl:∃ o,h'.get? c = some o) (hs:∀ b o,b ≠ c → s.heap.get? b = some o → h'.get? b = some o):∀ b,XF cenv ks b → (h'.get? b).isSome = true:=fun b hb=>by
  by_cases q:b = c
  · exact Option.isSome_iff_exists.mpr (q ▸ hl)
  · have:∃ o,s.heap.get? b = some o:=by
      rcases hb with rfl | ⟨y,hy,hc⟩
      · obtain ⟨m,hn,_⟩:=F.ns; exact Ns_some hn
      · exact (cell_of F hy hc).1.elim fun _ h=>IsCell_some h
    exact this.elim fun o e=>Option.isSome_iff_exists.mpr ⟨o,hs b o q e⟩
structure StQ (w:World) (cenv:Env) (ks:Ks) (G:Gh) (ρ:Ro) (s:Shared) (z:Zo) (en:En) (s':Shared):Prop where
  g:Grow (XF cenv ks) G ρ s G ρ s'
  R:ZRel w.params G ρ z s'.heap
  F:FRel w.params G ρ cenv ks en s'.heap
theorem StQ.of (R:ZRel w.params G ρ z s.heap) (F:FRel w.params G ρ cenv ks en s.heap) {en':En} {h':Heap} {tk:Tok} {c:Addr} (hX:XF cenv ks c) (hl:∃ o,h'.get? c = some o) (hs:∀ b o,b ≠ c → s.heap.get? b = some o → h'.get? b = some o)
    (ns:NsR w.params G ρ cenv ks en' h')
    (cell:∀ x,ks.lookup x = some .cell → CellR w.params G ρ cenv en' h' x):StQ w cenv ks G ρ s z en' { s with heap:=h',toks:=tk } :=
  have hk:∀ b o,s.heap.get? b = some o → ¬ XF cenv ks b → h'.get? b = some o:=fun b o e hb=>hs b o (fun q=>hb (q ▸ hX)) e
  ⟨.own ⟨_,_,rfl⟩ hk (XF_live F hl hs),R.hid hk (XF_hid F),⟨F.kind,F.names,F.glob,F.bui,F.lG,F.lF,ns,cell,F.cinj⟩⟩
theorem setE_ne {x y:S} {v:V} {e:En} (h:y ≠ x):(setE x v e).lookup y = e.lookup y:=(setE_lookup x y v e).trans (if_neg h)
theorem setE_eq {x:S} {v V:V} {e:En} (h:(setE x v e).lookup x = some V):V = v:=(Option.some.inj (((setE_lookup x x v e).trans (if_pos rfl)).symm.trans h)).symm
theorem kind_ne {x y:S} (hx:ks.lookup x = some .local) (hy:ks.lookup y = some .cell):y ≠ x:=fun q=>by rw [q,hx] at hy; cases hy
theorem store_sound (R:ZRel w.params G ρ z s.heap) (F:FRel w.params G ρ cenv ks en s.heap) {x:S} {y:Value} {v:V} (hx:ks.lookup x = some .local ∨ ks.lookup x = some .cell) (rv:RepO w.params G ρ y v) :
    wpAny (model prog w) A (storeName cenv x y) (fun _ s'=>StQ w cenv ks G ρ s z (setE x v en) s') E s:=by
  have hkind:∀ k,ks.lookup x = k → cenv.kindOf x = k:=fun k h=>by unfold Env.kindOf; rw [F.names]; exact h
  obtain ⟨m,hn,hm⟩:=F.ns
  rcases hx with hx | hx
  · refine wpAny_storeName_local (hkind _ hx) hn (fun h' hn' hs=>?_) (by rw [F.kind]; rfl)
    refine StQ.of R F (.inl rfl) (Ns_some hn') (fun b o hb e=>hs.extBut b o hb e) ⟨_,hn',fun y' V hy hV=>?_⟩ fun y' hy=>?_
    · by_cases hyx:y' = x
      · rw [if_pos hyx]; exact ⟨y,rfl,setE_eq (hyx ▸ hV) ▸ rv⟩
      · rw [if_neg hyx]; exact hm y' V hy (setE_ne hyx ▸ hV)
    · obtain ⟨c,ov,hc',⟨o,ho,hd⟩,g,f,hne,hv⟩:=F.cell y' hy
      exact ⟨c,ov,hc',⟨o,hs.extBut _ o hne ho,hd⟩,g,f,hne,fun V hV=>hv V (setE_ne (kind_ne hx hy) ▸ hV)⟩
  · obtain ⟨c,ov,hc,hi,g,f,hne,hv⟩:=F.cell x hx
    refine wpAny_storeName_cell F.kind (hkind _ hx) hc hi fun h' hi' hs=>?_
    refine StQ.of R F (.inr ⟨x,hx,hc⟩) (IsCell_some hi') (fun b o hb e=>hs.extBut b o hb e) ⟨m,hn.at' fun o e=>hs.extBut _ o (Ne.symm hne) e,fun y' V hy hV=>hm y' V hy (setE_ne (Ne.symm (kind_ne hy hx)) ▸ hV)⟩ fun y' hy=>?_
    by_cases hyx:y' = x
    · exact ⟨c,_,hyx ▸ hc,hi',g,f,hne,fun V hV=>⟨y,rfl,setE_eq (hyx ▸ hV) ▸ rv⟩⟩
    · obtain ⟨c',ov',hc',⟨o,ho,hd⟩,g',f',hne',hv'⟩:=F.cell y' hy
      exact ⟨c',ov',hc',⟨o,hs.extBut _ o (fun q=>hyx (F.cinj y' x c' hy hx hc' (q ▸ hc))) ho,hd⟩,g',f',hne',fun V hV=>hv' V (setE_ne hyx ▸ hV)⟩
theorem repL_get {Pm:Params} {vs:List Value} {ts:List V} (h:RepL Pm G vs ts):∀ {i:Nat} {v:Value},i < ts.length → vs[i]? = some v → ∃ t,ts[i]? = some t ∧ Rep Pm G v t :=
  (Rep.all (p:=Rep Pm G) (q:=fun vs ts=>∀ {i:Nat} {v:Value},i < ts.length → vs[i]? = some v → ∃ t,ts[i]? = some t ∧ Rep Pm G v t) (r:=RepE Pm G) id (fun h _=>absurd h (Nat.not_lt_zero _))
    (fun a b i v h e=>by induction i using Nat.casesOn with
      | zero=>exact ⟨_,rfl,Option.some.inj e ▸ a⟩
      | succ i=>exact b (Nat.lt_of_succ_lt_succ h) e) .nil .cons).1 h
structure IterAt (prog:Program) (w:World) (A:Around) (G:Gh) (s0 s:Shared) (I:Addr) (fp wr:List Addr) (n:Nat) (P:Nat → Value → Prop) (St:Nat → Heap → Prop) (vs:List V):Prop where
  W:Walks prog w A I fp wr n P St
  len:n = vs.length
  rep:∀ i v,i < n → P i v → ∃ t,vs[i]? = some t ∧ Rep w.params G v t
  st0:St 0 s.heap
  fpG:∀ b ∈ fp,b ∈ wr ∨ ∃ o,G b = some o
  fresh:∀ b ∈ wr,s0.heap.get? b = none
  live:∀ i h,St i h → ∀ b ∈ wr,∃ o,h.get? b = some o
  gn:∀ b ∈ wr,G b = none
inductive ItQ (prog:Program) (w:World) (A:Around) (G:Gh) (ρ:Ro) (s:Shared) (z':Zo) (vs:List V) (it:Value) (s':Shared):Prop
  | mk (I fp wr n P St G'):it = .ref I → Grow NoX G ρ s G' ρ s' → ZRel w.params G' ρ z' s'.heap → IterAt prog w A G' s s' I fp wr n P St vs → ItQ prog w A G ρ s z' vs it s'
theorem ItQ.grow {G1:Gh} {vs:List V} {it:Value} {s':Shared} (g1:Grow NoX G ρ s G1 ρ s) (h:ItQ prog w A G1 ρ s z' vs it s'):ItQ prog w A G ρ s z' vs it s':=by
  obtain ⟨I,fp,wr,n,P,St,G',e,g,R,q⟩:=h
  exact ⟨I,fp,wr,n,P,St,G',e,g1.trans g,R,q⟩
theorem iter_rng (R:ZRel w.params G ρ z s.heap) (hh:A.handled = none) {n:Nat} {x:Value} (r:RepO w.params G ρ x (.rng n)) :
    wpAny (model prog w) A (pyIter x) (ItQ prog w A G ρ s z ((List.range n).map fun (i:Nat)=>V.int i)) E s:=by
  obtain ⟨a,t,u,q,rfl,g,hn⟩:=Rep.inv r
  have hx:IsRange s.heap a 0 (n:Nat) 1 t u q:=R.keep _ _ g
  have hsz:Builtin.Range.rangeSize 0 (n:Nat) 1 = ((n:Nat):Int):=by rw [rangeSize_one]; split <;> omega
  refine wpAny_pyIter_range hx (small_one (by omega) (by omega) (by omega) (by omega)) ?_
  rw [hsz]
  refine ⟨s.heap.objs.size,_,_,n,_,_,G,rfl,.pure ⟨_,_,rfl⟩ (push_keep _ _),R.keeps (push_keep _ _),Walks.range hh s.heap.objs.size 0 1 n,by simp,?_,?_,fun b hb=>.inl hb,fun b hb=>List.mem_singleton.mp hb ▸ push_none _,fun i h st b hb=>List.mem_singleton.mp hb ▸ ⟨_,st⟩,fun b hb=>List.mem_singleton.mp hb ▸ R.gnone (push_none _)⟩
  · rintro i v hi ⟨t,rfl⟩
    refine ⟨.int i,by simp [hi],?_⟩
    have e0:(0:Int) + (i:Int) * 1 = (i:Int):=by omega
    rw [e0]; exact .int _ _
  · show IsRangeIter (s.heap.push _) s.heap.objs.size (0 + ((0:Nat):Int) * 1) ((n:Int) - ((0:Nat):Int)) 1
    have e0:(0:Int) + ((0:Nat):Int) * 1 = 0:=by omega
    have e1:(n:Int) - ((0:Nat):Int) = (n:Int):=by omega
    rw [e0,e1]
    exact Heap.get?_push_size _ rfl
theorem iter_list (R:ZRel w.params G ρ z s.heap) (hh:A.handled = none) {vs:List V} {x:Value} (r:RSi w.params G "list" vs x):wpAny (model prog w) A (pyIter x) (ItQ prog w A G ρ s z vs) E s:=by
  obtain ⟨g,hc,hd,hs,hl,hr⟩:=r
  rename_i a o vals c
  have hL:s.heap.IsList a vals:=⟨_,R.keep _ _ g,hc,_,hs⟩
  have hlen:vals.size = vs.length:=hr.length
  refine wpAny_pyIter_list hL ?_
  exact ⟨s.heap.objs.size,_,_,_,_,_,G,rfl,.pure ⟨_,_,rfl⟩ (push_keep _ _),R.keeps (push_keep _ _),Walks.list hh s.heap.objs.size a (Nat.ne_of_lt (Heap.lt_size (R.keep _ _ g))) vals,hlen,fun i v hi hv=>repL_get hr (hlen ▸ hi) (by simpa using hv),⟨⟨_,Heap.get?_push_size _ rfl,rfl,rfl⟩,hL.push _⟩,
    fun b hb=>(List.mem_cons.mp hb).elim (fun e=>.inl (e ▸ List.mem_singleton.mpr rfl)) fun hb=>.inr ⟨_,List.mem_singleton.mp hb ▸ g⟩,fun b hb=>List.mem_singleton.mp hb ▸ push_none _,fun i h st b hb=>List.mem_singleton.mp hb ▸ st.1.elim fun o h=>⟨o,h.1⟩,fun b hb=>List.mem_singleton.mp hb ▸ R.gnone (push_none _)⟩
theorem iter_tup (R:ZRel w.params G ρ z s.heap) (hh:A.handled = none) {vs:List V} {x:Value} (r:RSi w.params G "tuple" vs x):wpAny (model prog w) A (pyIter x) (ItQ prog w A G ρ s z vs) E s:=by
  obtain ⟨g,hc,hd,hs,hl,hr⟩:=r
  rename_i a o vals c
  have hL:s.heap.IsTuple a vals:=⟨_,R.keep _ _ g,hc,_,hs⟩
  have hlen:vals.size = vs.length:=hr.length
  refine wpAny_pyIter_tuple hL ?_
  exact ⟨s.heap.objs.size,_,_,_,_,_,G,rfl,.pure ⟨_,_,rfl⟩ (push_keep _ _),R.keeps (push_keep _ _),Walks.tuple hh s.heap.objs.size a (Nat.ne_of_lt (Heap.lt_size (R.keep _ _ g))) vals,hlen,fun i v hi hv=>repL_get hr (hlen ▸ hi) (by simpa using hv),⟨⟨_,Heap.get?_push_size _ rfl,rfl,rfl⟩,⟨_,push_keep _ _ _ _ (R.keep _ _ g),hc,_,hs⟩⟩,
    fun b hb=>(List.mem_cons.mp hb).elim (fun e=>.inl (e ▸ List.mem_singleton.mpr rfl)) fun hb=>.inr ⟨_,List.mem_singleton.mp hb ▸ g⟩,fun b hb=>List.mem_singleton.mp hb ▸ push_none _,fun i h st b hb=>List.mem_singleton.mp hb ▸ st.1.elim fun o h=>⟨o,h.1⟩,fun b hb=>List.mem_singleton.mp hb ▸ R.gnone (push_none _)⟩
theorem iter_sound (R:ZRel w.params G ρ z s.heap) (hh:A.handled = none) {v:V} {vs:List V} {x:Value} (e:iterOf v z = some (vs,z')) (r:RepO w.params G ρ x v) :
    wpAny (model prog w) A (pyIter x) (ItQ prog w A G ρ s z' vs) E s:=by
  unfold iterOf at e
  cases h:v.rng? with
  | some n =>
    rw [h] at e
    exact so2 e (iter_rng R hh (V.rng_of h ▸ r))
  | none =>
    rw [h] at e
    refine bd2 e fun t z1 e1 e=>mp1 e fun us h e=>pr2 e ?_
    clear e
    obtain ⟨G1,g1,R1,r1⟩:=frz_ok (X:=NoX) e1 R r
    have fin:wpAny (model prog w) A (pyIter x) (ItQ prog w A G1 ρ s z1 us) E s:=by
      unfold V.seq? at h
      cases h2:t.tup? with
      | some vs =>
        rw [h2] at h
        have r2:Rep w.params G1 x (.tup vs):=V.tup_of h2 ▸ r1
        exact so1 h (iter_tup R1 hh r2.inv)
      | none =>
        rw [h2] at h
        have r2:Rep w.params G1 x (.list us):=V.lst_of h ▸ r1
        exact iter_list R1 hh r2.inv
    exact wpAny_mono fin (fun it s' h=>h.grow g1) fun _ _ h=>h
end
end Mine
end
section
open PySem PySem.W PySem.Calls PySem.SeqAt PyProof.Rows
namespace Mine
def FlR (w:Params) (G:Gh) (ρ:Ro) (f:Flow) (fl:Fl):Prop:=match fl with
  | .next=>f = .next
  | .ret v=>∃ x,f = .ret x ∧ RepO w G ρ x v
inductive PoS (w:Params) (cenv:Env) (ks:Ks) (G:Gh) (ρ:Ro) (s:Shared) (fl:Fl) (e':En) (z':Zo) (f:Flow) (s':Shared):Prop
  | mk (G' ρ'):Grow (XF cenv ks) G ρ s G' ρ' s' → ZRel w G' ρ' z' s'.heap → FRel w G' ρ' cenv ks e' s'.heap → FlR w G' ρ' f fl → PoS w cenv ks G ρ s fl e' z' f s'
section
variable {prog:Program} {w:World} {A:Around} {E:Value → Shared → Prop} {s:Shared} {G:Gh} {ρ:Ro} {z z':Zo} {K:Frag} {Pr:Prg} {loose:List S} {mg mb:S → Option Value}
theorem bindL_lookup {kindOf:S → Option NameKind} {x:S} (hx:kindOf x = some .local):∀ (binds:List (S × Value)) (m:S → Option Value),bindL kindOf binds m x = (binds.reverse.lookup x).or (m x)
  | [],m=>by simp [bindL]
  | (n,v) :: r,m=>by
    unfold bindL
    rw [bindL_lookup hx r]
    simp only [List.reverse_cons,List.lookup_append]
    cases h:r.reverse.lookup x with
    | some u=>simp
    | none =>
      by_cases hn:x = n
      · subst hn; simp [hx]
      · by_cases hk:kindOf n = some .local
        · simp [hk,hn,List.lookup_cons,beq_eq_false_iff_ne.mpr hn]
        · simp [hk,List.lookup_cons,beq_eq_false_iff_ne.mpr hn]
theorem bindC_lookup {kindOf:S → Option NameKind} {x:S} (hx:kindOf x ≠ some .local):∀ (binds:List (S × Value)) (m:S → Option Value),bindC kindOf binds m x = (binds.reverse.lookup x).or (m x)
  | [],m=>by simp [bindC]
  | (n,v) :: r,m=>by
    unfold bindC
    rw [bindC_lookup hx r]
    simp only [List.reverse_cons,List.lookup_append]
    cases h:r.reverse.lookup x with
    | some u=>simp
    | none =>
      by_cases hn:x = n
      · subst hn; simp [hx]
      · by_cases hk:kindOf n = some .local
        · simp [hk,List.lookup_cons,beq_eq_false_iff_ne.mpr hn]
        · simp [hk,hn,List.lookup_cons,beq_eq_false_iff_ne.mpr hn]
theorem entry_frame {Pm:Params} (R:ZRel Pm G ρ z s.heap) {a:Addr} {fd:FuncData} (hF:FuncOk K Pr a fd) {binds:List (S × Value)} {e:En} (hr:∀ x V,e.lookup x = some V → ∃ v,binds.reverse.lookup x = some v ∧ RepO Pm G ρ v V)
    {env:Env} (he:env = newEnv fd.scope s.heap.objs.size fd.globals (cellsFrom (s.heap.objs.size + 1) fd.scope.names []) (fd.qualname ++ ".<locals>.") (some a) fd.code none fd.builtins) {s₁:Shared}
    (x:InCallC s env.locals (bindL env.kindOf binds fun _=>none) env.cells (bindC env.kindOf binds fun _=>none) s₁):FRel Pm G ρ env fd.scope.names e s₁.heap ∧ ∀ b,XF env fd.scope.names b → s.heap.get? b = none:=by
  have hkind:∀ y,env.kindOf y = fd.scope.names.lookup y:=fun y=>by subst he; rfl
  have hcells:env.cells = cellsFrom (s.heap.objs.size + 1) fd.scope.names []:=by subst he; rfl
  have hloc:s.heap.get? env.locals = none:=Heap.get?_none_of_le x.toInCall.fresh
  have hab:∀ n c,env.cells.lookup n = some c → env.locals < c:=fun n c h=>x.above n c (mem_of_lookup h)
  have hcn:∀ n c,env.cells.lookup n = some c → s.heap.get? c = none:=fun n c h=>Heap.get?_none_of_le (Nat.le_of_lt (Nat.lt_of_le_of_lt x.toInCall.fresh (hab n c h)))
  refine ⟨⟨by subst he; exact hF.kind,by subst he; rfl,by subst he; exact hF.glob,by subst he; exact hF.bui,R.gnone hloc,R.fnone hloc,⟨_,x.toInCall.ns,fun y V hy hV=>?_⟩,fun y hy=>?_,fun y y' c _ _ h1 h2=>name_of_addr x.apart (mem_of_lookup h1) (mem_of_lookup h2)⟩,?_⟩
  · obtain ⟨v,hv,rv⟩:=hr y V hV
    exact ⟨v,by rw [bindL_lookup (by rw [hkind]; exact hy),hv]; rfl,rv⟩
  · obtain ⟨c,hc⟩:=Option.isSome_iff_exists.mp (hF.cin (s.heap.objs.size + 1) y hy)
    have hc':env.cells.lookup y = some c:=by rw [hcells]; exact hc
    refine ⟨c,_,hc',x.cell y c hc',R.gnone (hcn y c hc'),R.fnone (hcn y c hc'),fun q=>absurd (hab y c hc') (by rw [q]; exact Nat.lt_irrefl _),fun V hV=>?_⟩
    obtain ⟨v,hv,rv⟩:=hr y V hV
    exact ⟨v,by rw [bindC_lookup (by rw [hkind,hy]; decide),hv]; rfl,rv⟩
  · rintro b (rfl | ⟨y,_,hc⟩)
    · exact hloc
    · exact hcn y b hc
noncomputable def RP (E:Value → Shared → Prop) (Q:Value → Shared → Prop):Result → Shared → Prop:=fun r s'=>match r with | .ok (.ret x)=>Q x s' | .ok _=>False | .error e=>E e s'
theorem callF_core (O:POk K Pr) (B:Base K prog loose mg mb G) (R:ZRel w.params G ρ z s.heap) {n:Nat} (hroom:Room (n + 1) A) {a:Addr} {fd:FuncData} {b:List Stmt} {args:List V} {ys:List Value} {e e':En} {fl:Fl} {v:V}
    (hf:Pr.func a = some fd) (hbind:bindPars (fd.params.args.map (·.arg)) args (Pr.dfl a) = some e) (hb:fd.body = .stmts b) (hv:fl.val = v) (ra:ROL w.params G ρ ys args)
    (hbody:∀ (A:Around) (E:Value → Shared → Prop) (cenv:Env) (s:Shared),Room n A → ZRel w.params G ρ z s.heap → FRel w.params G ρ cenv fd.scope.names e s.heap →
      wpAny (model prog w) A (execs b cenv) (PoS w.params cenv fd.scope.names G ρ s fl e' z') E s) :
    codeAny (model prog w) A (.call (.ref a) ⟨ys,[]⟩) (RP E fun x s'=>Po w.params G ρ s z' v x s') s:=by
  have hF:=O.func a fd hf
  have X:=B.kin R
  obtain ⟨oc,od,sl,hat⟩:=hF.at_
  obtain ⟨binds,hbt,hlook,hbk⟩:=hF.bind ys args e ra.length hbind
  refine codeAny_call_function (by have:=hroom.dp; omega) (X _ _ hat) rfl hF.co hF.gen hb (codeRec_of X hF.code) (hbt s X _ _ _ _ ?_)
  rw [hF.clos]
  refine wpAny_newFunctionEnv_cells hF.kind (fun y hy=>(hbk y hy).imp id fun h=>⟨h,hF.cin _ _ h⟩) fun env he s₁ x=>?_
  refine ⟨(B.top R).nolimit.keeps x.toInCall.keep,codeAny_func ?_⟩
  obtain ⟨F,hX⟩:=entry_frame R hF (hlook w.params G ρ ra) he x
  have R₁:=R.keeps x.toInCall.keep
  have hroom':Room n (A.deeper env):=⟨hroom.hd,by show A.depth + 1 + n < _; have:=hroom.dp; omega,by show A.units + 3 + 20 * n + 50 < _; have:=hroom.un; omega⟩
  refine wpAny_mono (hbody _ _ env s₁ hroom' R₁ F) (fun f s' h=>?_) fun _ _ h=>h
  obtain ⟨G',ρ',g,R',_,hfl⟩:=h
  have g':Grow NoX G ρ s G' ρ' s':=g.hide x.toInCall.keep (by obtain ⟨h,tk,e⟩:=x.toInCall.same; exact ⟨h,tk,e⟩) hX
  clear hbind hbody F hX
  induction fl using Fl.casesOn with
  | next=>obtain rfl:f = .next:=hfl; exact ⟨G',ρ',g',R',hv ▸ .none⟩
  | ret u=>obtain ⟨y,rfl,ry⟩:=hfl; exact ⟨G',ρ',g',R',hv ▸ ry⟩
theorem make_sound (O:POk K Pr) (B:Base K prog loose mg mb G) (R:ZRel w.params G ρ z s.heap) {n:Nat} (hroom:Room (n + 1) A) {C:Addr} {c:Cls} {args:List V} {ys:List Value} (hc:Pr.cls C = some c) (ra:ROL w.params G ρ ys args)
    (hinit:∀ (A:Around) (E:Value → Shared → Prop) (s:Shared) (G:Gh) (ρ:Ro) (ys:List Value),Base K prog loose mg mb G → Room n A → ZRel w.params G ρ (z ++ [.inst C []]) s.heap → ROL w.params G ρ ys (.own z.length :: args) →
      codeAny (model prog w) A (.call (.ref c.init) ⟨ys,[]⟩) (RP E fun x s'=>Po w.params G ρ s z' .none x s') s) :
    codeAny (model prog w) A (.call (.ref C) ⟨ys,[]⟩) (RP E fun x s'=>Po w.params G ρ s z' (.own z.length) x s') s:=by
  have X:=B.kin R
  have k:=O.cls C c hc
  obtain ⟨hh,gg,d,t,os⟩:=s
  refine make_core (makes_of X k.makes) (looks_findIn X k.init) (fun self=>bind_fn X self k.initFn) (.inl rfl) ?_
  have hx:((hh.push emptyDict).push (instObj C hh.objs.size)).get? (hh.objs.size + 1) = some (instObj C hh.objs.size):=by
    have:((hh.push emptyDict).push (instObj C hh.objs.size)).get? (hh.push emptyDict).objs.size = some (instObj C hh.objs.size):=Heap.get?_push_size _ rfl
    rwa [Heap.size_push] at this
  have hd:((hh.push emptyDict).push (instObj C hh.objs.size)).get? hh.objs.size = some (dictOf [] 0):=Heap.get?_push_of_some _ (Heap.get?_push_size _ rfl)
  have hk:∀ b o,hh.get? b = some o → ((hh.push emptyDict).push (instObj C hh.objs.size)).get? b = some o:=fun b o e=>Heap.get?_push_of_some _ (Heap.get?_push_of_some _ e)
  obtain ⟨g,R'⟩:=zone_new (X:=NoX) (s:=⟨hh,gg,d,t,os⟩) (s':=⟨(hh.push emptyDict).push (instObj C hh.objs.size),gg,d,t,os⟩) (p:=(hh.objs.size + 1,hh.objs.size)) (o:=.inst C []) R ⟨_,_,rfl⟩ hk
    (Heap.get?_none_of_le (Nat.le_succ _)) (push_none _) (by show Option.isSome (Heap.get? _ (hh.objs.size + 1)) = true; rw [hx]; rfl) (by show Option.isSome (Heap.get? _ hh.objs.size) = true; rw [hd]; rfl)
    ⟨Nat.succ_ne_self _,[],0,hx,hd,Nat.zero_le _,.nil⟩
  have hroom':Room n (A.under (.builtin "type.__call__" ⟨.ref C :: ys,[]⟩)):=⟨hroom.hd,by
    show A.depth + 1 + n < _; have:=hroom.dp; omega,by
    show A.units + Code.cUnits (.builtin "type.__call__" ⟨.ref C :: ys,[]⟩) + 20 * n + 50 < _
    have h1:=hroom.un
    have h2:Code.cUnits (.builtin "type.__call__" ⟨.ref C :: ys,[]⟩) ≤ 10:=by
      have e:Code.frames (.builtin "type.__call__" ⟨.ref C :: ys,[]⟩) = 0:=rfl
      show 1 + 3 * Code.frames (.builtin "type.__call__" ⟨.ref C :: ys,[]⟩) ≤ 10
      rw [e]; decide
    omega⟩
  have hz:(ρ ++ [(hh.objs.size + 1,hh.objs.size)])[z.length]? = some (hh.objs.size + 1,hh.objs.size):=by rw [← R.len]; simp
  refine codeAny_mono (hinit _ E _ G _ _ B hroom' R' (.cons ⟨_,hz,rfl⟩ (ra.mono g.g g.r))) fun r s' h=>?_
  rcases r with e | (v | _ | _ | _) <;> first | exact h | exact h.elim | skip
  obtain ⟨G',ρ',g',R'',rx⟩:=h
  refine ⟨rx.none_inv,G',ρ',g.trans g',R'',?_⟩
  obtain ⟨t',ht⟩:=g'.r
  exact ⟨(hh.objs.size + 1,hh.objs.size),by rw [ht,List.getElem?_append_left (List.getElem?_eq_some_iff.mp hz).1]; exact hz,rfl⟩
end
end Mine
end
section
open PySem PySem.W PySem.Calls PySem.SeqAt PyProof.Rows
namespace Mine
section
variable {w:Params} {G G':Gh} {ρ ρ':Ro} {s s' s1 s2:Shared} {z:Zo} {h h':Heap} {X Y:Addr → Prop} {cenv:Env} {ks:Ks} {e:En}
theorem FRel.liveX (F:FRel w G ρ cenv ks e h) {b:Addr} (hb:XF cenv ks b):∃ o,h.get? b = some o:=by
  rcases hb with rfl | ⟨y,hy,hc⟩
  · obtain ⟨m,hn,_⟩:=F.ns; exact Ns_some hn
  · obtain ⟨c,ov,hc',hi,_⟩:=F.cell y hy
    obtain rfl:=Option.some.inj (hc.symm.trans hc')
    exact IsCell_some hi
theorem FRel.at (F:FRel w G ρ cenv ks e h) (hk:∀ b o,XF cenv ks b → h.get? b = some o → h'.get? b = some o):FRel w G ρ cenv ks e h':=by
  obtain ⟨m,hn,hm⟩:=F.ns
  refine ⟨F.kind,F.names,F.glob,F.bui,F.lG,F.lF,⟨m,hn.at' fun o ho=>hk _ o (.inl rfl) ho,hm⟩,fun x hx=>?_,F.cinj⟩
  obtain ⟨c,ov,hc,hi,g,f,hl,hv⟩:=F.cell x hx
  obtain ⟨o,ho,hd⟩:=hi
  exact ⟨c,ov,hc,⟨o,hk c o (.inr ⟨x,hx,hc⟩) ho,hd⟩,g,f,hl,hv⟩
end
section
variable {prog:Program} {w:World} {A:Around} {E:Value → Shared → Prop} {s:Shared} {G:Gh} {ρ:Ro} {z z':Zo} {K:Frag} {Pr:Prg} {loose:List S} {mg mb:S → Option Value}
variable {cenv:Env} {ks:Ks} {en en':En} {fl:Fl}
noncomputable def BodyOk (prog:Program) (w:World) (A:Around) (K:Frag) (loose:List S) (mg mb:S → Option Value) (cenv:Env) (ks:Ks) (b:List Stmt) (f:En → Zo → Option (Fl × En × Zo)):Prop :=
  ∀ (E:Value → Shared → Prop) (G:Gh) (ρ:Ro) (s:Shared) (e:En) (z:Zo) (fl:Fl) (e':En) (z':Zo),f e z = some (fl,e',z') → Base K prog loose mg mb G → ZRel w.params G ρ z s.heap → FRel w.params G ρ cenv ks e s.heap →
    wpAny (model prog w) A (execs b cenv) (PoS w.params cenv ks G ρ s fl e' z') E s
structure LI (w:World) (cenv:Env) (ks:Ks) (G:Gh) (ρ:Ro) (s:Shared) (G1:Gh) (wr:List Addr) (St:Nat → Heap → Prop) (i:Nat) (G':Gh) (ρ':Ro) (e:En) (z:Zo) (s':Shared):Prop where
  g:Grow (XF cenv ks) G ρ s G' ρ' s'
  le:∀ a o,G1 a = some o → G' a = some o
  R:ZRel w.params G' ρ' z s'.heap
  F:FRel w.params G' ρ' cenv ks e s'.heap
  st:St i s'.heap
  hid:∀ b ∈ wr,Hid G' ρ' s'.heap b
section
variable {I:Addr} {fp wr:List Addr} {n i:Nat} {P:Nat → Value → Prop} {St:Nat → Heap → Prop} {vs:List V} {s₂ s' s2:Shared} {G1 G' G2:Gh} {ρ' ρ2:Ro} {e e2:En} {z2:Zo}
theorem LI.go (IT:IterAt prog w A G1 s s₂ I fp wr n P St vs) (hX:∀ b,b ∈ wr → ¬ XF cenv ks b) (l:LI w cenv ks G ρ s G1 wr St i G' ρ' e z s') (g:Grow (XF cenv ks) G' ρ' s' G2 ρ2 s2) (R:ZRel w.params G2 ρ2 z2 s2.heap) (F:FRel w.params G2 ρ2 cenv ks e2 s2.heap) :
    LI w cenv ks G ρ s G1 wr St i G2 ρ2 e2 z2 s2 :=
  ⟨l.g.trans g,fun a o e=>g.g a o (l.le a o e),R,F,IT.W.frame i _ _ l.st fun b hb o e=>(IT.fpG b hb).elim (fun hw=>(l.hid b hw).kept g (hX b hw) e) fun ⟨o',ho'⟩=>by
    have e1:=l.R.keep b o' (l.le b o' ho')
    rw [Option.some.inj (e.symm.trans e1)]
    exact R.keep b o' (g.g b o' (l.le b o' ho')),fun b hb=>(l.hid b hb).grow g⟩
theorem LI.item (IT:IterAt prog w A G1 s s₂ I fp wr n P St vs) (hX:∀ b,b ∈ wr → ¬ XF cenv ks b) (l:LI w cenv ks G ρ s G1 wr St i G' ρ' e z s') {j:Nat} {h₁:Heap} {tk:Tok} (st:St j h₁) (hk:∀ b o,b ∉ wr → s'.heap.get? b = some o → h₁.get? b = some o) :
    LI w cenv ks G ρ s G1 wr St j G' ρ' e z { s' with heap:=h₁,toks:=tk } :=
  ⟨l.g.tail (Y:=(· ∈ wr)) ⟨_,_,rfl⟩ (fun b o e hb=>hk b o hb e) IT.fresh,l.le,l.R.hid (Y:=(· ∈ wr)) (fun b o e hb=>hk b o hb e) fun b hb=>⟨(l.hid b hb).g,(l.hid b hb).f⟩,l.F.at fun b o hb e=>hk b o (fun hw=>hX b hw hb) e,st,fun b hb=>(l.hid b hb).at (IT.live _ _ st b hb)⟩
end
inductive FI (w:World) (cenv:Env) (ks:Ks) (G:Gh) (ρ:Ro) (s:Shared) (G1:Gh) (wr:List Addr) (St:Nat → Heap → Prop) (n:Nat) (H:Nat → En → Zo → Prop) (k:Nat) (s':Shared):Prop
  | mk (i G' ρ' e z):k = n + 1 - i → i ≤ n → LI w cenv ks G ρ s G1 wr St i G' ρ' e z s' → H i e z → FI w cenv ks G ρ s G1 wr St n H k s'
inductive WI (w:World) (cenv:Env) (ks:Ks) (G:Gh) (ρ:Ro) (s:Shared) (H:Nat → En → Zo → Prop) (k:Nat) (s':Shared):Prop
  | mk (G' ρ' e z):Grow (XF cenv ks) G ρ s G' ρ' s' → ZRel w.params G' ρ' z s'.heap → FRel w.params G' ρ' cenv ks e s'.heap → H k e z → WI w cenv ks G ρ s H k s'
theorem drop_at {vs:List V} {i:Nat} {t:V} (ht:vs[i]? = some t):vs.drop i = t :: vs.drop (i + 1):=by
  have hi':=(List.getElem?_eq_some_iff.mp ht).1
  rw [List.drop_eq_getElem_cons hi',Option.some.inj ((List.getElem?_eq_getElem hi').symm.trans ht)]
theorem for_core {x:S} {px:Pos} {b:List Stmt} {f:En → Zo → Option (Fl × En × Zo)} (hbody:BodyOk prog w A K loose mg mb cenv ks b f) (hx:ks.lookup x = some .local ∨ ks.lookup x = some .cell)
    (B:Base K prog loose mg mb G) (R:ZRel w.params G ρ z s.heap) (F:FRel w.params G ρ cenv ks en s.heap) (hh:A.handled = none) {v:V} {vs:List V} {y:Value} {z2:Zo} (e:iterOf v z = some (vs,z2)) (ry:RepO w.params G ρ y v)
    (hl:forL (fun v e z=>f (setE x v e) z) vs en z2 = some (fl,en',z')) (E':Value → Shared → Prop) :
    wpAny (model prog w) A (pyIter y) (fun it s₂=>codeAny (model prog w) A (.forLoop (.Name x px) it b [] cenv) (fun r s'=>match r with | .ok f=>PoS w.params cenv ks G ρ s fl en' z' f s' | .error e=>E' e s') s₂) E s:=by
  refine wpAny_mono (iter_sound R hh e ry) (fun it s₂ h=>?_) fun _ _ h=>h
  obtain ⟨I,fp,wr,n,P,St,G1,rfl,g1,R1,IT⟩:=h
  have hX:∀ b,b ∈ wr → ¬ XF cenv ks b:=fun b hb hX=>(F.liveX hX).elim fun o ho=>mt ((IT.fresh b hb).symm.trans ho)
  refine codeAny_forLoop (FI w cenv ks G ρ s G1 wr St n fun i e z=>forL (fun v e z=>f (setE x v e) z) (vs.drop i) e z = some (fl,en',z')) ?_ (n + 1)
    ⟨0,G1,ρ,en,z2,rfl,Nat.zero_le _,⟨g1.weaken (fun _ h=>h.elim),fun _ _ e=>e,R1,F.grow0 g1,IT.st0,fun b hb=>⟨IT.gn b hb,R.fnone (IT.fresh b hb),IT.live 0 _ IT.st0 b hb⟩⟩,hl⟩
  clear R1 F g1 hl e ry R hh
  intro k s' hI
  obtain ⟨i,G',ρ',e_i,z_i,rfl,hi,l,hl⟩:=hI
  by_cases hlt:i < n
  · refine IT.W.item i s' _ _ hlt l.st fun u h₁ tk hP st₁ hk₁=>?_
    obtain ⟨t,ht,rt⟩:=IT.rep i u hlt hP
    have l₁:=l.item IT hX (tk:=tk) st₁ hk₁
    rw [drop_at ht] at hl
    refine bd3 hl fun fl1 e1 z1 hf1 hl1=>?_
    have rt':=RepO.of_rep (ρ:=ρ') (rt.mono l.le)
    clear hl l ht rt st₁ hk₁ hP
    refine wpAny_assign_Name (wpAny_mono (store_sound (s:={ s' with heap:=h₁,toks:=tk }) l₁.R l₁.F hx rt') (fun _ s2 h2=>?_) fun _ _ h=>h)
    have l₂:=l₁.go IT hX h2.g h2.R h2.F
    clear l₁ h2 rt'
    refine wpAny_mono (hbody _ G' ρ' s2 _ _ fl1 e1 z1 hf1 (B.mono l₂.g.g) l₂.R l₂.F) (fun fw s3 h3=>?_) fun _ _ h=>h
    obtain ⟨G3,ρ3,g₃,R₃,F₃,hfl⟩:=h3
    have l₃:=l₂.go IT hX g₃ R₃ F₃
    clear l₂ hf1
    induction fl1 using Fl.casesOn with
    | next =>
      obtain rfl:fw = .next:=hfl
      exact ⟨n + 1 - (i + 1),by omega,i + 1,G3,ρ3,e1,z1,rfl,hlt,l₃,hl1⟩
    | ret r =>
      obtain ⟨xr,rfl,rr⟩:=hfl
      exact so3 (C:=fun fl en' z'=>PoS w.params cenv ks G ρ s fl en' z' _ _) (show some (_,_,_) = some (_,_,_) from hl1) ⟨G3,ρ3,l₃.g,R₃,F₃,xr,rfl,rr⟩
  · have hin:i = n:=by omega
    subst hin
    rw [show vs.drop i = [] by rw [List.drop_eq_nil_iff,IT.len]; exact Nat.le_refl _] at hl
    refine IT.W.done s' _ _ l.st fun h₁ tk hk₁=>wpAny_execs_nil ?_
    exact so3 (C:=fun fl en' z'=>PoS w.params cenv ks G ρ s fl en' z' _ _) (show some (_,_,_) = some (_,_,_) from hl) ⟨G',ρ',l.g.tail (Y:=(· ∈ wr)) ⟨_,_,rfl⟩ (fun b o e hb=>hk₁ b o hb e) IT.fresh,l.R.hid (Y:=(· ∈ wr)) (fun b o e hb=>hk₁ b o hb e) fun b hb=>⟨(l.hid b hb).g,(l.hid b hb).f⟩,l.F.at fun b o hb e=>hk₁ b o (fun hw=>hX b hw hb) e,rfl⟩
noncomputable def TestOk (prog:Program) (w:World) (A:Around) (K:Frag) (loose:List S) (mg mb:S → Option Value) (cenv:Env) (ks:Ks) (t:Expr) (f:En → Zo → Option (Bool × Zo)):Prop :=
  ∀ (E:Value → Shared → Prop) (G:Gh) (ρ:Ro) (s:Shared) (e:En) (z:Zo) (b:Bool) (z':Zo),f e z = some (b,z') → Base K prog loose mg mb G → ZRel w.params G ρ z s.heap → FRel w.params G ρ cenv ks e s.heap →
    wpAny (model prog w) A (isTrue t cenv (eval t cenv)) (PoB w.params G ρ s z' b) E s
theorem while_core {t:Expr} {b:List Stmt} {ft:En → Zo → Option (Bool × Zo)} {f:En → Zo → Option (Fl × En × Zo)} (htest:TestOk prog w A K loose mg mb cenv ks t ft) (hbody:BodyOk prog w A K loose mg mb cenv ks b f)
    (B:Base K prog loose mg mb G) (R:ZRel w.params G ρ z s.heap) (F:FRel w.params G ρ cenv ks en s.heap) {n:Nat} (hl:whileL ft f n en z = some (fl,en',z')) (E':Value → Shared → Prop) :
    codeAny (model prog w) A (.whileLoop t b [] cenv) (fun r s'=>match r with | .ok f=>PoS w.params cenv ks G ρ s fl en' z' f s' | .error e=>E' e s') s:=by
  refine codeAny_whileLoop (WI w cenv ks G ρ s fun k e z=>whileL ft f k e z = some (fl,en',z')) ?_ n ⟨G,ρ,en,z,.refl,R,F,hl⟩
  clear R F hl
  intro k s' hI
  obtain ⟨G',ρ',e_i,z_i,g,R',F',hl⟩:=hI
  induction k using Nat.casesOn with
  | zero=>exact mt hl
  | succ k =>
    refine bd2 hl fun c z1 h1 h2=>?_
    clear hl
    refine wpAny_mono (htest _ G' ρ' s' e_i z_i c z1 h1 (B.mono g.g) R' F') (fun c' s2 h=>?_) fun _ _ h=>h
    obtain ⟨rfl,G2,ρ2,g2,R2⟩:=h
    have F2:=F'.grow0 g2
    have g2':=g.trans (g2.weaken (Y:=XF cenv ks) fun _ h=>h.elim)
    have B2:=(B.mono g.g).mono g2.g
    clear g g2 F' R' h1
    induction c' using Bool.casesOn with
    | false=>exact so3 (C:=fun fl en' z'=>wpAny (model prog w) A _ (fun f s'=>PoS w.params cenv ks G ρ s fl en' z' f s') _ _) (show some (_,_,_) = some (_,_,_) from h2) (wpAny_execs_nil ⟨G2,ρ2,g2',R2,F2,rfl⟩)
    | true =>
      refine bd3 h2 fun fl1 e1 z2 h3 h4=>?_
      refine wpAny_mono (hbody _ G2 ρ2 s2 e_i z1 fl1 e1 z2 h3 B2 R2 F2) (fun fw s3 h=>?_) fun _ _ h=>h
      obtain ⟨G3,ρ3,g3,R3,F3,hfl⟩:=h
      clear h2 h3
      induction fl1 using Fl.casesOn with
      | next =>
        obtain rfl:fw = .next:=hfl
        exact ⟨k,Nat.lt_succ_self _,G3,ρ3,e1,z2,g2'.trans g3,R3,F3,h4⟩
      | ret r =>
        obtain ⟨xr,rfl,rr⟩:=hfl
        exact so3 (C:=fun fl en' z'=>PoS w.params cenv ks G ρ s fl en' z' _ _) (show some (_,_,_) = some (_,_,_) from h4) ⟨G3,ρ3,g2'.trans g3,R3,F3,xr,rfl,rr⟩
end
end Mine
end
section
open PySem PySem.W PySem.Calls PySem.SeqAt PyProof.Rows
namespace Mine
noncomputable def clFrom (env:Env):List (S × NameKind) → List (S × Addr) → List (S × Addr)
  | [],acc=>acc
  | (n,k) :: r,acc=>clFrom env r (if k == .free then (n,(env.cells.lookup n).getD 0) :: acc else acc)
theorem clFrom_ok (env:Env):∀ (names:List (S × NameKind)) (acc:List (S × Addr)),(∀ n,(n,NameKind.free) ∈ names → (env.cells.lookup n).isSome = true) → (∀ y c,acc.lookup y = some c → env.cells.lookup y = some c) →
    (∀ y c,(clFrom env names acc).lookup y = some c → env.cells.lookup y = some c) ∧ (∀ y,(y,NameKind.free) ∈ names ∨ (acc.lookup y).isSome = true → ((clFrom env names acc).lookup y).isSome = true)
  | [],acc,_,h=>⟨h,fun y hy=>hy.elim (fun q=>by cases q) id⟩
  | (n,k) :: r,acc,hn,h=>by
    by_cases hk:k = .free
    · subst hk
      obtain ⟨c,hc⟩:=Option.isSome_iff_exists.mp (hn n (.head _))
      have ih:=clFrom_ok env r ((n,c) :: acc) (fun m hm=>hn m (.tail _ hm)) (fun y c' hy=>by
        simp only [List.lookup_cons] at hy
        by_cases hyn:y = n
        · subst hyn; simp at hy; subst hy; exact hc
        · simp only [beq_eq_false_iff_ne.mpr hyn] at hy; exact h y c' hy)
      have e:clFrom env ((n,.free) :: r) acc = clFrom env r ((n,c) :: acc):=by simp [clFrom,hc]
      rw [e]
      refine ⟨ih.1,fun y hy=>ih.2 y ?_⟩
      rcases hy with hy | hy
      · rcases List.mem_cons.mp hy with q | hy
        · cases q; right; simp
        · exact .inl hy
      · right
        simp only [List.lookup_cons]
        by_cases hyn:y = n
        · subst hyn; simp
        · simp only [beq_eq_false_iff_ne.mpr hyn]; exact hy
    · have e:clFrom env ((n,k) :: r) acc = clFrom env r acc:=by simp [clFrom,hk]
      rw [e]
      have ih:=clFrom_ok env r acc (fun m hm=>hn m (.tail _ hm)) h
      refine ⟨ih.1,fun y hy=>ih.2 y ?_⟩
      rcases hy with hy | hy
      · rcases List.mem_cons.mp hy with q | hy
        · cases q; exact absurd rfl hk
        · exact .inl hy
      · exact .inr hy
theorem closure_go (env:Env) (f:S × NameKind → List (S × Addr) → Sem (ForInStep (List (S × Addr))))
    (hf:∀ name kind cs,f (name,kind) cs = if kind == .free then (do let a ← cellOf env name; pure (.yield ((name,a) :: cs))) else pure (.yield cs)) :
    ∀ (names:List (S × NameKind)) (acc:List (S × Addr)),(∀ n,(n,NameKind.free) ∈ names → (env.cells.lookup n).isSome = true) → forIn names acc f = pure (clFrom env names acc)
  | [],acc,_=>by rw [List.forIn_nil]; rfl
  | (n,k) :: r,acc,hn=>by
    rw [List.forIn_cons,hf]
    by_cases hk:k = .free
    · subst hk
      obtain ⟨c,hc⟩:=Option.isSome_iff_exists.mp (hn n (.head _))
      have e:clFrom env ((n,.free) :: r) acc = clFrom env r ((n,c) :: acc):=by simp [clFrom,hc]
      have ec:cellOf env n = pure c:=by unfold cellOf; rw [hc]
      rw [e,← closure_go env f hf r _ (fun m hm=>hn m (.tail _ hm))]
      simp [ec]
    · have e:clFrom env ((n,k) :: r) acc = clFrom env r acc:=by simp [clFrom,hk]
      have hb:(k == NameKind.free) = false:=beq_eq_false_iff_ne.mpr hk
      rw [e,← closure_go env f hf r _ (fun m hm=>hn m (.tail _ hm))]
      simp [hb]
theorem closure_ok {env:Env} {sc:Scope} (h:∀ n,(n,NameKind.free) ∈ sc.names → (env.cells.lookup n).isSome = true):closureFor sc env = pure (clFrom env sc.names []):=by
  unfold closureFor
  dsimp only
  rw [closure_go env _ (fun name kind cs=>by cases hk:kind == NameKind.free <;> simp [hk]) _ _ h]
  rfl
theorem lookup_mapK (g:S → NameKind → NameKind) (y:S):∀ l:Ks,(l.map fun (n,k)=>(n,g n k)).lookup y = (l.lookup y).map (g y)
  | []=>rfl
  | (n,k) :: r=>by
    simp only [List.map_cons,List.lookup_cons]
    by_cases h:y = n
    · subst h; simp
    · simp only [beq_eq_false_iff_ne.mpr h]; exact lookup_mapK g y r
theorem relK_lookup (ks inner:Ks) (y:S):(relK ks inner).lookup y = (inner.lookup y).map fun k=>if k == .free && ks.lookup y == some .cell then .cell else k:=by
  rw [← lookup_mapK (fun n k=>if k == .free && ks.lookup n == some .cell then .cell else k) y inner]
  congr 1
  unfold relK
  apply List.map_congr_left
  rintro ⟨n,k⟩ _
  dsimp only
  split <;> rfl
structure CompOk (ks:Ks) (x:S) (sc:Scope):Prop where
  kind:sc.kind = .function
  lx:sc.names.lookup x = some .local
  x0:x ≠ (".0":S)
  nocell:∀ y ∈ sc.names,y.2 ≠ .cell
  loc:∀ y ∈ sc.names,y.2 = .local → sc.names.lookup y.1 = some .local
  locx:∀ y,sc.names.lookup y = some .local → y = x ∨ y = (".0":S)
  free:∀ n,(n,NameKind.free) ∈ sc.names → ks.lookup n = some .cell
theorem compOk_of {ks:Ks} {x:S} {sc:Scope} (h:compOk ks x sc = true):CompOk ks x sc:=by
  unfold compOk at h
  simp only [Bool.and_eq_true,beq_iff_eq,bne_iff_ne,ne_eq,List.all_eq_true] at h
  obtain ⟨⟨⟨h1,h2⟩,h3⟩,h4⟩:=h
  refine ⟨h1,h2,h3,fun y hy hc=>?_,fun y hy hl=>?_,fun y hy=>?_,fun n hn=>?_⟩
  · obtain ⟨n,k⟩:=y; simp only at hc; subst hc; have:=h4 _ hy; simp at this
  · obtain ⟨n,k⟩:=y; simp only at hl; subst hl; have:=h4 _ hy; simp at this; exact this.2
  · have:=h4 _ (mem_of_lookup hy); simp at this; exact this.1
  · have:=h4 _ hn; simp at this; exact this.1
section
variable {prog:Program} {w:World} {A:Around} {E:Value → Shared → Prop} {s:Shared} {G:Gh} {ρ:Ro} {z z':Zo} {K:Frag} {Pr:Prg} {loose:List S} {mg mb:S → Option Value}
variable {cenv:Env} {ks:Ks} {en:En}
theorem relabel_names {Pm:Params} {h:Heap} (F:FRel Pm G ρ cenv ks en h) (sc:Scope):(relabel sc cenv).names = relK ks sc.names:=by
  unfold relabel relK
  apply List.map_congr_left
  rintro ⟨n,k⟩ _
  have h1:(cenv.scope.kind == ScopeKind.function) = true:=by rw [F.kind]; rfl
  have h2:cenv.kindOf n = ks.lookup n:=by unfold Env.kindOf; rw [F.names]
  simp only [h1,h2,Bool.and_true]
theorem comp_frame {Pm:Params} {h:Heap} {C:Addr} (F:FRel Pm G ρ cenv ks en h) (F0:∀ b,XF cenv ks b → b ≠ C) {sc:Scope} {x:S} (c:CompOk ks x sc) (h0l:en.lookup (".0":S) = none) (hC:G C = none ∧ ¬ Fp ρ C) {m:S → Option Value} (hn:h.Ns C m) {v:Value} {t:V}
    (hm:m x = some v) (rt:RepO Pm G ρ v t):FRel Pm G ρ (compEnvC sc (clFrom cenv sc.names []) C cenv) (relK ks sc.names) (setE x t en) h:=by
  have cl:=clFrom_ok cenv sc.names [] (fun n hn=>by
    obtain ⟨c',ov,hc,_⟩:=F.cell n (c.free n hn)
    rw [hc]; rfl) (fun y c h=>by cases h)
  have kcell:∀ y,(relK ks sc.names).lookup y = some .cell → (y,NameKind.free) ∈ sc.names ∧ ks.lookup y = some .cell:=fun y hy=>by
    rw [relK_lookup] at hy
    obtain ⟨k,hk,e⟩:=Option.map_eq_some_iff.mp hy
    split at e
    · rename_i hq
      simp only [Bool.and_eq_true,beq_iff_eq] at hq
      obtain ⟨rfl,hq⟩:=hq
      exact ⟨mem_of_lookup hk,hq⟩
    · subst e; exact absurd rfl (c.nocell _ (mem_of_lookup hk))
  refine ⟨c.kind,relabel_names F sc,F.glob,F.bui,hC.1,hC.2,⟨m,hn,fun y V hy hV=>?_⟩,fun y hy=>?_,fun y y' a hy hy' h1 h2=>F.cinj y y' a (kcell y hy).2 (kcell y' hy').2 (cl.1 y a h1) (cl.1 y' a h2)⟩
  · have hl:sc.names.lookup y = some .local:=by
      rw [relK_lookup] at hy
      obtain ⟨k,hk,e⟩:=Option.map_eq_some_iff.mp hy
      split at e
      · cases e
      · subst e; exact hk
    rw [setE_lookup] at hV
    rcases c.locx y hl with rfl | rfl
    · rw [if_pos rfl] at hV; cases hV; exact ⟨v,hm,rt⟩
    · rw [if_neg (fun q=>c.x0 q.symm),h0l] at hV; cases hV
  · obtain ⟨hf,hk⟩:=kcell y hy
    obtain ⟨a,ov,ha,hi,g,f,hne,hv⟩:=F.cell y hk
    obtain ⟨a',ha'⟩:=Option.isSome_iff_exists.mp (cl.2 y (.inl hf))
    have:a' = a:=by have:=cl.1 y a' ha'; rw [ha] at this; cases this; rfl
    subst this
    refine ⟨a',ov,ha',hi,g,f,F0 a' (.inr ⟨y,hk,ha⟩),fun V hV=>?_⟩
    rw [setE_lookup] at hV
    have hyx:y ≠ x:=fun q=>by
      subst q
      rw [relK_lookup,c.lx] at hy
      simp at hy
    rw [if_neg hyx] at hV
    exact hv V hV
end
end Mine
end
section
open PySem PySem.W PySem.Calls PySem.SeqAt PyProof.Rows
namespace Mine
section
variable {prog:Program} {w:World} {A:Around} {E:Value → Shared → Prop} {s:Shared} {G:Gh} {ρ:Ro} {z z':Zo} {K:Frag} {Pr:Prg} {loose:List S} {mg mb:S → Option Value}
variable {cenv:Env} {ks:Ks} {en:En}
noncomputable def TestsOk (prog:Program) (w:World) (A:Around) (K:Frag) (loose:List S) (mg mb:S → Option Value) (ke:Env → Prop) (ks:Ks) (ifs:List Expr) (f:En → Zo → Option (Bool × Zo)):Prop :=
  ∀ (env:Env) (E:Value → Shared → Prop) (G:Gh) (ρ:Ro) (s:Shared) (e:En) (z:Zo) (b:Bool) (z':Zo),ke env → f e z = some (b,z') → Base K prog loose mg mb G → ZRel w.params G ρ z s.heap → FRel w.params G ρ env ks e s.heap →
    wpAny (model prog w) A (forIn ifs true fun c r=>if r = true then do let ok ← isTrue c env (eval c env); pure (ForInStep.yield ok) else pure (ForInStep.yield r)) (PoB w.params G ρ s z' b) E s
noncomputable def EltOk (prog:Program) (w:World) (A:Around) (K:Frag) (loose:List S) (mg mb:S → Option Value) (ks:Ks) (elt:Expr) (f:En → Zo → Option (V × Zo)):Prop :=
  ∀ (env:Env) (E:Value → Shared → Prop) (G:Gh) (ρ:Ro) (s:Shared) (e:En) (z:Zo) (v:V) (z':Zo),f e z = some (v,z') → Base K prog loose mg mb G → ZRel w.params G ρ z s.heap → FRel w.params G ρ env ks e s.heap →
    wpAny (model prog w) A (eval elt env) (Po w.params G ρ s z' v) E s
theorem compL_len {f:V → Zo → Option (Option V × Zo)}:∀ {vs:List V} {z:Zo} {rs:List V} {z':Zo},compL f vs z = some (rs,z') → rs.length ≤ vs.length:=by
  intro vs
  induction vs with
  | nil=>intro z rs z' h; exact so2 (C:=fun rs _=>rs.length ≤ ([]:List V).length) (show some (_,_) = some (_,_) from h) (Nat.le_refl _)
  | cons v vs ih =>
    intro z rs z' h
    refine bd2 h fun r z1 h1 h=>mp2 h fun rs' z2 h3 h=>pr2 (C:=fun rs _=>rs.length ≤ (v :: vs).length) (show (_,_) = (_,_) from h) ?_
    induction r using Option.casesOn with
    | none=>exact Nat.le_succ_of_le (ih h3)
    | some r=>exact Nat.succ_le_succ (ih h3)
structure CE (prog:Program) (w:World) (A:Around) (s:Shared) (G1:Gh) (s₂:Shared) (I:Addr) (fp wr:List Addr) (n:Nat) (P:Nat → Value → Prop) (St:Nat → Heap → Prop) (vs:List V) (D C:Addr):Prop where
  it:IterAt prog w A G1 s s₂ I fp wr n P St vs
  y0:∀ b,(b ∈ wr ∨ b = D ∨ b = C) → s.heap.get? b = none
  nd:∀ b ∈ wr,b ≠ D ∧ b ≠ C
  ne:D ≠ C
structure CI (w:World) (G:Gh) (ρ:Ro) (s:Shared) (G1:Gh) (wr:List Addr) (St:Nat → Heap → Prop) (D C:Addr) (i:Nat) (G':Gh) (ρ':Ro) (z:Zo) (ys:Array Value) (nn:Nat) (m:S → Option Value) (dn:List V) (s':Shared):Prop where
  g:Grow NoX G ρ s G' ρ' s'
  le:∀ a o,G1 a = some o → G' a = some o
  R:ZRel w.params G' ρ' z s'.heap
  st:St i s'.heap
  hid:∀ b,(b ∈ wr ∨ b = D ∨ b = C) → Hid G' ρ' s'.heap b
  d:s'.heap.get? D = some (listOf ys nn)
  N:s'.heap.Ns C m
  dn:RepL w.params G' ys.toList dn
section
variable {I D C:Addr} {fp wr:List Addr} {n i:Nat} {P:Nat → Value → Prop} {St:Nat → Heap → Prop} {vs dn:List V} {s₂ s' s2:Shared} {G1 G' G2:Gh} {ρ' ρ2:Ro} {z2:Zo} {ys:Array Value} {nn:Nat} {m:S → Option Value}
theorem CI.grow (c:CE prog w A s G1 s₂ I fp wr n P St vs D C) (l:CI w G ρ s G1 wr St D C i G' ρ' z ys nn m dn s') (g:Grow NoX G' ρ' s' G2 ρ2 s2) (R:ZRel w.params G2 ρ2 z2 s2.heap):CI w G ρ s G1 wr St D C i G2 ρ2 z2 ys nn m dn s2 :=
  ⟨l.g.trans g,fun a o e=>g.g a o (l.le a o e),R,c.it.W.frame i _ _ l.st fun b hb o e=>(c.it.fpG b hb).elim (fun hw=>(l.hid b (.inl hw)).kept g id e) fun ⟨o',ho'⟩=>by
    rw [Option.some.inj (e.symm.trans (l.R.keep b o' (l.le b o' ho')))]
    exact R.keep b o' (g.g b o' (l.le b o' ho')),fun b hb=>(l.hid b hb).grow g,(l.hid D (.inr (.inl rfl))).kept g id l.d,l.N.at' fun o e=>(l.hid C (.inr (.inr rfl))).kept g id e,l.dn.mono g.g⟩
theorem CI.item (c:CE prog w A s G1 s₂ I fp wr n P St vs D C) (l:CI w G ρ s G1 wr St D C i G' ρ' z ys nn m dn s') {j:Nat} {h₁:Heap} {tk:Tok} (st:St j h₁) (hk:∀ b o,b ∉ wr → s'.heap.get? b = some o → h₁.get? b = some o) :
    CI w G ρ s G1 wr St D C j G' ρ' z ys nn m dn { s' with heap:=h₁,toks:=tk } :=
  have d:=hk D _ (fun q=>(c.nd _ q).1 rfl) l.d
  have N:=l.N.at' fun o e=>hk C o (fun q=>(c.nd _ q).2 rfl) e
  ⟨l.g.tail (Y:=(· ∈ wr)) ⟨_,_,rfl⟩ (fun b o e hb=>hk b o hb e) c.it.fresh,l.le,l.R.hid (Y:=(· ∈ wr)) (fun b o e hb=>hk b o hb e) fun b hb=>⟨(l.hid b (.inl hb)).g,(l.hid b (.inl hb)).f⟩,st,
    fun b hb=>(l.hid b hb).at (hb.elim (c.it.live _ _ st b) fun h=>h.elim (fun h=>h ▸ ⟨_,d⟩) fun h=>h ▸ Ns_some N),d,N,l.dn⟩
theorem CI.own (c:CE prog w A s G1 s₂ I fp wr n P St vs D C) (l:CI w G ρ s G1 wr St D C i G' ρ' z ys nn m dn s') {h₁:Heap} {tk:Tok} {ys':Array Value} {nn':Nat} {m':S → Option Value} {dn':List V} (hk:∀ b o,b ≠ D → b ≠ C → s'.heap.get? b = some o → h₁.get? b = some o)
    (d:h₁.get? D = some (listOf ys' nn')) (N:h₁.Ns C m') (hd:RepL w.params G' ys'.toList dn'):CI w G ρ s G1 wr St D C i G' ρ' z ys' nn' m' dn' { s' with heap:=h₁,toks:=tk } :=
  have hk':∀ b o,s'.heap.get? b = some o → ¬ (b = D ∨ b = C) → h₁.get? b = some o:=fun b o e hb=>hk b o (fun q=>hb (.inl q)) (fun q=>hb (.inr q)) e
  ⟨l.g.tail (Y:=fun b=>b = D ∨ b = C) ⟨_,_,rfl⟩ hk' fun b hb=>c.y0 b (.inr hb),l.le,l.R.hid (Y:=fun b=>b = D ∨ b = C) hk' fun b hb=>⟨(l.hid b (.inr hb)).g,(l.hid b (.inr hb)).f⟩,
    c.it.W.frame i _ _ l.st fun b hb o e=>hk' b o e fun q=>(c.it.fpG b hb).elim (fun hw=>q.elim (c.nd b hw).1 (c.nd b hw).2) fun ⟨o',ho'⟩=>mt ((l.hid b (.inr q)).g.symm.trans (l.le b o' ho')),
    fun b hb=>(l.hid b hb).at (hb.elim (fun h=>(l.hid b (.inl h)).l.elim fun o e=>⟨o,hk b o (c.nd b h).1 (c.nd b h).2 e⟩) fun h=>h.elim (fun h=>h ▸ ⟨_,d⟩) fun h=>h ▸ Ns_some N),d,N,hd⟩
end
inductive CX (w:World) (G:Gh) (ρ:Ro) (s:Shared) (G1:Gh) (wr:List Addr) (St:Nat → Heap → Prop) (D C:Addr) (n:Nat) (rs:List V) (H:Nat → Zo → List V → Prop) (k:Nat) (s':Shared):Prop
  | mk (i G' ρ' z ys nn m dn rest):k = n + 1 - i → i ≤ n → CI w G ρ s G1 wr St D C i G' ρ' z ys nn m dn s' → H i z rest → dn ++ rest = rs → dn.length ≤ i → CX w G ρ s G1 wr St D C n rs H k s'
section
variable {x:S} {px:Pos} {elt iter:Expr} {ifs:List Expr} {sc:Scope} {pos:Pos} {ft:En → Zo → Option (Bool × Zo)} {fe:En → Zo → Option (V × Zo)}
variable {I D C:Addr} {fp wr:List Addr} {n:Nat} {P:Nat → Value → Prop} {St:Nat → Heap → Prop} {vs rs:List V} {s₂ s₁:Shared} {G1:Gh} {z2:Zo}
theorem comp_loop (htest:TestsOk prog w A K loose mg mb (fun _=>True) (relK ks sc.names) ifs ft) (helt:EltOk prog w A K loose mg mb (relK ks sc.names) elt fe) (c:CompOk ks x sc) (h0:en.lookup (".0":S) = none) (B:Base K prog loose mg mb G) (F:FRel w.params G ρ cenv ks en s.heap)
    (ce:CE prog w A s G1 s₂ I fp wr n P St vs D C) (hfit:vs.length ≤ lineMax) {m0:S → Option Value} (l0:CI w G ρ s G1 wr St D C 0 G1 ρ z2 #[] 0 m0 [] s₁)
    (hl:compL (compG ft fe x en) vs z2 = some (rs,z')) {RR:Value → Addr → Result → Shared → Prop}
    (hRR:∀ D C G' ρ' s' m,Grow NoX G ρ s G' ρ' s' → ZRel w.params G' ρ' z' s'.heap → Rep w.params G' (.ref D) (.list rs) → s'.heap.Ns C m → Hid G' ρ' s'.heap C → s.heap.get? C = none → RR (.ref D) C (.ok .next) s') :
    codeAny (model prog w) A (.compLoop (.ListComp elt [⟨.Name x px,iter,ifs,0⟩] sc pos) 0 (.ref I) (.ref D) (compEnvC sc (clFrom cenv sc.names []) C cenv)) (RR (.ref D) C) s₁:=by
  have hXne:∀ b,XF cenv ks b → b ≠ C:=fun b hX hb=>(F.liveX hX).elim fun o ho=>mt ((ce.y0 b (.inr (.inr hb))).symm.trans ho)
  have hcx:(compEnvC sc (clFrom cenv sc.names []) C cenv).kindOf x = some .local:=by
    show ((relabel sc cenv).names).lookup x = _
    rw [relabel_names F,relK_lookup,c.lx]; rfl
  refine codeAny_compLoop_tests (CX w G ρ s G1 wr St D C n rs fun i z rest=>compL (compG ft fe x en) (vs.drop i) z = some (rest,z')) ?_ (n + 1) ⟨0,G1,ρ,z2,#[],0,_,[],rs,rfl,Nat.zero_le _,l0,hl,rfl,Nat.le_refl _⟩
  clear l0 hl
  intro k s' hI
  obtain ⟨i,G',ρ',z_i,ys,nn,m,dn,rest,rfl,hi,l,hl,hrs,hdl⟩:=hI
  by_cases hlt:i < n
  · clear hRR
    have nx:n + 1 - (i + 1) < n + 1 - i:=by omega
    refine ce.it.W.item i s' _ _ hlt l.st fun u ha tk hP sta hka=>?_
    obtain ⟨t,ht,rt⟩:=ce.it.rep i u hlt hP
    have la:=l.item ce (tk:=tk) sta hka
    rw [drop_at ht] at hl
    have rt':=RepO.of_rep (ρ:=ρ') (rt.mono l.le)
    clear l sta hka ht rt hP
    refine bd2 hl fun r z1 hg1 hl1=>mp2 hl1 fun rest' z2' hl2 hl3=>bd2 hg1 fun bb zt ht1 hg2=>?_
    clear hl hl1 hg1
    refine wpAny_assign_Name (wpAny_storeName_local hcx la.N (fun hb hnb hsb=>?_) (by show ((sc.kind == ScopeKind.class) || (sc.kind == ScopeKind.module && _)) = false; rw [c.kind]; rfl))
    have lb:=la.own ce (tk:=tk + 1) (h₁:=hb) (fun b o _ hq e=>hsb.extBut b o hq e) (hsb.extBut _ _ ce.ne la.d) hnb la.dn
    clear la hsb
    have Fc:=comp_frame (F.grow0 lb.g) hXne c h0 ⟨(lb.hid C (.inr (.inr rfl))).g,(lb.hid C (.inr (.inr rfl))).f⟩ hnb (v:=u) (t:=t) (by simp) rt'
    clear hnb rt'
    refine wpAny_mono (htest _ _ G' ρ' { s' with heap:=hb,toks:=tk + 1 } _ z_i bb zt trivial ht1 (B.mono lb.g.g) lb.R Fc) (fun ok s3 h3=>?_) fun _ _ h=>h
    obtain ⟨rfl,G3,ρ3,g3,R3⟩:=h3
    have l3:=lb.grow ce g3 R3
    have Fc3:=Fc.grow0 g3
    clear lb g3 R3 Fc ht1
    induction ok using Bool.casesOn with
    | false =>
      refine so2 (C:=fun r z1=>((match r with | some x=>x :: rest' | none=>rest'),z2') = (rest,z') → compL (compG ft fe x en) (List.drop (i + 1) vs) z1 = some (rest',z2') → _) (show some (_,_) = some (_,_) from hg2) (fun hl3 hl2=>?_) hl3 hl2
      exact pr2 (C:=fun rest z'=>dn ++ rest = rs → ∃ m,m < n + 1 - i ∧ CX w G ρ s G1 wr St D C n rs (fun i z rest=>compL (compG ft fe x en) (vs.drop i) z = some (rest,z')) m _) (show (_,_) = (_,_) from hl3)
        (fun hrs=>⟨n + 1 - (i + 1),nx,i + 1,G3,ρ3,zt,ys,nn,_,dn,rest',rfl,hlt,l3,hl2,hrs,Nat.le_succ_of_le hdl⟩) hrs
    | true =>
      refine bd2 hg2 fun ev' ze he1 hg3=>mp2 hg3 fun tv zf hf1 hg4=>?_
      clear hg2 hg3
      refine wpAny_mono (helt _ _ G3 ρ3 s3 _ zt ev' ze he1 (B.mono l3.g.g) l3.R Fc3) (fun yv s4 h4=>?_) fun _ _ h=>h
      obtain ⟨G4,ρ4,g4,R4,r4⟩:=h4
      obtain ⟨G5,g5,R5,r5⟩:=frz_ok (X:=NoX) hf1 R4 r4
      have l4:=l3.grow ce (g4.trans g5) R5
      clear l3 g4 g5 R4 R5 r4 he1 hf1 Fc3
      have hlen:ys.size = dn.length:=l4.dn.length
      have hnv:=ce.it.len
      refine append_at l4.d (fun h5 hs5 hD5=>?_) (by rw [hlen]; exact Nat.le_trans (by omega:dn.length ≤ lineMax) (by decide))
      have l5:=l4.own ce (tk:=s4.toks) (h₁:=h5) (dn':=dn ++ [tv]) (fun b o hq _ e=>hs5.extBut b o hq e) hD5 (l4.N.at' fun o e=>hs5.extBut _ o (Ne.symm ce.ne) e) (by rw [Array.toList_push]; exact l4.dn.append (.cons r5 .nil))
      clear l4 hs5 hD5 r5
      refine pr2 (C:=fun r z1=>((match r with | some x=>x :: rest' | none=>rest'),z2') = (rest,z') → compL (compG ft fe x en) (List.drop (i + 1) vs) z1 = some (rest',z2') → _) (show (_,_) = (_,_) from hg4) (fun hl3 hl2=>?_) hl3 hl2
      exact pr2 (C:=fun rest z'=>dn ++ rest = rs → ∃ m,m < n + 1 - i ∧ CX w G ρ s G1 wr St D C n rs (fun i z rest=>compL (compG ft fe x en) (vs.drop i) z = some (rest,z')) m _) (show (_,_) = (_,_) from hl3)
        (fun hrs=>⟨n + 1 - (i + 1),nx,i + 1,G5,ρ4,zf,ys.push yv,nn + 1,_,dn ++ [tv],rest',rfl,hlt,l5,hl2,by rw [← hrs,List.append_assoc]; rfl,by rw [List.length_append,List.length_singleton]; omega⟩) hrs
  · have hin:i = n:=by omega
    subst hin
    rw [show vs.drop i = [] by rw [List.drop_eq_nil_iff,ce.it.len]; exact Nat.le_refl _] at hl
    refine so2 (C:=fun rest z'=>dn ++ rest = rs → (∀ D C G' ρ' s' m,Grow NoX G ρ s G' ρ' s' → ZRel w.params G' ρ' z' s'.heap → Rep w.params G' (.ref D) (.list rs) → s'.heap.Ns C m → Hid G' ρ' s'.heap C → s.heap.get? C = none → RR (.ref D) C (.ok .next) s') → _) (show some (_,_) = some (_,_) from hl) (fun hrs hRR=>?_) hrs hRR
    obtain rfl:dn = rs:=(List.append_nil dn).symm.trans hrs
    refine ce.it.W.done s' _ _ l.st fun ha tk hka=>?_
    have DA:ha.get? D = some (listOf ys nn):=hka _ _ (fun q=>(ce.nd _ q).1 rfl) l.d
    have NA:ha.Ns C m:=l.N.at' fun o e=>hka _ o (fun q=>(ce.nd _ q).2 rfl) e
    have HD:=(l.hid D (.inr (.inl rfl))).at ⟨_,DA⟩
    have HC:=(l.hid C (.inr (.inr rfl))).at (Ns_some NA)
    have hnv:=ce.it.len
    exact hRR D C (G'.put D (listOf ys nn)) ρ' { s' with heap:=ha,toks:=tk } m ((l.g.tail (Y:=(· ∈ wr)) ⟨_,_,rfl⟩ (fun b o e hb=>hka b o hb e) ce.it.fresh).adoptF HD.g (ce.y0 D (.inr (.inl rfl))))
      (adopt_frozen (l.R.hid (Y:=(· ∈ wr)) (fun b o e hb=>hka b o hb e) fun b hb=>⟨(l.hid b (.inl hb)).g,(l.hid b (.inl hb)).f⟩) HD DA) (.list (Gh.put_self ..) rfl rfl rfl (by omega) (l.dn.mono (Gh.put_le HD.g))) NA ⟨(put_ne (Ne.symm ce.ne)).trans HC.g,HC.f,HC.l⟩ (ce.y0 C (.inr (.inr rfl)))
theorem comp_core (htest:TestsOk prog w A K loose mg mb (fun _=>True) (relK ks sc.names) ifs ft) (helt:EltOk prog w A K loose mg mb (relK ks sc.names) elt fe) (c:CompOk ks x sc) (h0:en.lookup (".0":S) = none)
    (B:Base K prog loose mg mb G) (R:ZRel w.params G ρ z s.heap) (F:FRel w.params G ρ cenv ks en s.heap) (hh:A.handled = none) {v:V} {y:Value} (e:iterOf v z = some (vs,z2)) (hfit:vs.length ≤ lineMax) (ry:RepO w.params G ρ y v)
    (hl:compL (compG ft fe x en) vs z2 = some (rs,z')) {RR:Value → Addr → Result → Shared → Prop}
    (hRR:∀ D C G' ρ' s' m,Grow NoX G ρ s G' ρ' s' → ZRel w.params G' ρ' z' s'.heap → Rep w.params G' (.ref D) (.list rs) → s'.heap.Ns C m → Hid G' ρ' s'.heap C → s.heap.get? C = none → RR (.ref D) C (.ok .next) s') :
    wpAny (model prog w) A (pyIter y) (fun it s₂=>wpAny (model prog w) A (newList []) (fun acc s₃=>wpAny (model prog w) A (newFunctionEnv sc cenv.globals (clFrom cenv sc.names []) [] cenv.qual none .none (some cenv)) (fun cv s₄ =>
      codeAny (model prog w) A (.compStart (.ListComp elt [⟨.Name x px,iter,ifs,0⟩] sc pos) 0 it acc { cv with scope:=relabel sc cenv }) (RR acc cv.locals) s₄) E s₃) E s₂) E s:=by
  refine wpAny_mono (iter_sound R hh e ry) (fun it s₂ h=>?_) fun _ _ h=>h
  obtain ⟨I,fp,wr,n,P,St,G1,rfl,g1,R1,IT⟩:=h
  refine wpAny_newObj_type (wpAny_newFunctionEnv c.nocell (by intro y hy; simp at hy) (fun h₁ hns₁ hsb₁=>?_) c.kind)
  dsimp only at hns₁ hsb₁ ⊢
  generalize hH2:s₂.heap.push { cls:=.type "list",dict:=none,data:=.seq ([]:List Value).toArray } = H2 at hns₁ hsb₁ ⊢
  have hC:H2.objs.size = s₂.heap.objs.size + 1:=by rw [← hH2,Heap.size_push]
  have below:∀ b o,s₂.heap.get? b = some o → b ≠ H2.objs.size ∧ b ≠ s₂.heap.objs.size:=fun b o e=>⟨by rw [hC]; exact Nat.ne_of_lt (Nat.lt_succ_of_lt (Heap.lt_size e)),Nat.ne_of_lt (Heap.lt_size e)⟩
  have hDC:s₂.heap.objs.size ≠ H2.objs.size:=by rw [hC]; exact Nat.ne_of_lt (Nat.lt_succ_self _)
  have old:∀ b o,s₂.heap.get? b = some o → h₁.get? b = some o:=fun b o e=>hsb₁.extBut b o (below b o e).1 (Heap.get?_push_of_some _ (hH2 ▸ Heap.get?_push_of_some _ e))
  have hacc:h₁.get? s₂.heap.objs.size = some (listOf #[] 0):=hsb₁.extBut _ _ hDC (Heap.get?_push_of_some _ (hH2 ▸ Heap.get?_push_size _ rfl))
  have dn2:s₂.heap.get? s₂.heap.objs.size = none:=Heap.get?_none_of_le (Nat.le_refl _)
  have cn2:s₂.heap.get? H2.objs.size = none:=Heap.get?_none_of_le (by rw [hC]; exact Nat.le_succ _)
  clear below hC hsb₁ hH2
  generalize s₂.heap.objs.size = D at *
  generalize H2.objs.size = C at *
  have ce:CE prog w A s G1 s₂ I fp wr n P St vs D C:=⟨IT,fun b hb=>hb.elim (IT.fresh b) fun h=>none_of_al g1.al (h.elim (fun h=>h ▸ dn2) fun h=>h ▸ cn2),fun b hb=>(IT.live 0 _ IT.st0 b hb).elim fun o ho=>⟨fun q=>mt (dn2.symm.trans (q ▸ ho)),fun q=>mt (cn2.symm.trans (q ▸ ho))⟩,hDC⟩
  have st1:St 0 h₁:=IT.W.frame _ _ _ IT.st0 fun b _ o e=>old b o e
  have l0:CI w G ρ s G1 wr St D C 0 G1 ρ z2 #[] 0 _ [] { s₂ with heap:=h₁,toks:=s₂.toks + ([]:List (Str × Value)).length }:=⟨g1.trans (.pure ⟨_,_,rfl⟩ old),fun _ _ e=>e,R1.keeps old,st1,
    fun b hb=>hb.elim (fun hb=>⟨IT.gn b hb,R.fnone (IT.fresh b hb),IT.live 0 _ st1 b hb⟩) fun h=>h.elim (fun h=>h ▸ Hid.fresh R1 dn2 ⟨_,hacc⟩) fun h=>h ▸ Hid.fresh R1 cn2 (Ns_some hns₁),hacc,hns₁,.nil⟩
  have loop:=comp_loop (px:=px) (iter:=iter) (pos:=pos) htest helt c h0 B F ce hfit l0 hl hRR
  exact codeAny_compStart_list loop (IT.W.self 0 _ _ _ st1 loop)
end
end
end Mine
end
section
open PySem PySem.W PySem.Calls PySem.SeqAt PyProof.Rows
namespace Mine
section
variable {prog:Program} {w:World} {A:Around} {E:Value → Shared → Prop} {s:Shared} {G:Gh} {ρ:Ro} {z z':Zo} {K:Frag} {Pr:Prg} {loose:List S} {mg mb:S → Option Value}
variable {cenv:Env} {ks:Ks} {en:En}
theorem storeAll_sound (ts:List Expr) {vs:List V} {en en':En} {ys:List Value} {s:Shared} (h:storeAll ks ts vs en = some en') (R:ZRel w.params G ρ z s.heap) (F:FRel w.params G ρ cenv ks en s.heap) (r:ROL w.params G ρ ys vs) (E:Value → Shared → Prop) :
    wpAny (model prog w) A (assignInOrder ((assignEach ts cenv).map (·.2)) ys) (fun _ s'=>StQ w cenv ks G ρ s z en' s') E s:=by
  induction ts generalizing vs en ys s with
  | nil =>
    refine ifs h fun q h=>so1 h ?_
    obtain rfl:=List.isEmpty_iff.mp q
    rw [r.inv]
    exact wpAny_pure ⟨.refl,R,F⟩
  | cons t ts ih =>
    induction vs using List.casesOn with
    | nil=>exact mt h
    | cons v vs =>
      refine bd1 h fun y hy h=>ifs h fun hk h2=>r.consE (C:=fun ys=>wpAny (model prog w) A (assignInOrder ((assignEach (t :: ts) cenv).map (·.2)) ys) _ E s) fun u us a b=>?_
      obtain ⟨p,rfl⟩:=nameOf_of hy
      show wpAny _ _ (do holding us (assign (.Name y p) cenv u); assignInOrder ((assignEach ts cenv).map (·.2)) us) _ _ _
      exact wpAny_bind (wpAny_holding (wpAny_assign_Name (wpAny_mono (store_sound R F hk a) (fun _ s2 q2=>wpAny_mono (ih h2 q2.R q2.F b) (fun _ s3 h3=>⟨q2.g.trans h3.g,h3.R,h3.F⟩) fun _ _ h=>h) fun _ _ h=>h)))
theorem storeAll_len {ts:List Expr} {vs:List V} {en en':En} (h:storeAll ks ts vs en = some en'):(assignEach ts cenv).length = vs.length ∧ (assignEach ts cenv).findIdx? (·.1) = none:=by
  induction ts generalizing vs en with
  | nil=>exact ifs h fun q h=>by rw [List.isEmpty_iff.mp q]; exact ⟨rfl,rfl⟩
  | cons t ts ih =>
    induction vs using List.casesOn with
    | nil=>exact mt h
    | cons v vs =>
      refine bd1 h fun y hy h=>ifs h fun hk h2=>?_
      have ih:=ih h2
      obtain ⟨p,rfl⟩:=nameOf_of hy
      refine ⟨congrArg Nat.succ ih.1,?_⟩
      show List.findIdx? _ ((false,_) :: assignEach ts cenv) = none
      rw [List.findIdx?_cons,ih.2]
      rfl
theorem unpack_go (R:ZRel w.params G ρ z s.heap) (F:FRel w.params G ρ cenv ks en s.heap) {ts:List Expr} {vs:List V} {en':En} (hs:storeAll ks ts vs en = some en') {items:Array Value} (hr:ROL w.params G ρ items.toList vs) {h':Heap} (he:Heap.ExtBut s.heap.objs.size s.heap h') :
    wpAny (model prog w) A (assignInOrder ((assignEach ts cenv).map (·.2)) items.toList) (fun _ s'=>StQ w cenv ks G ρ s z en' s') E { s with heap:=h' }:=by
  have hk:∀ b o,s.heap.get? b = some o → h'.get? b = some o:=fun b o e=>he b o (Nat.ne_of_lt (Heap.lt_size e)) e
  exact wpAny_mono (storeAll_sound ts (s:={ s with heap:=h' }) hs (R.keeps hk) (F.at fun b o _ e=>hk b o e) hr E) (fun _ s3 h3=>⟨(Grow.pure ⟨_,_,rfl⟩ hk).trans h3.g,h3.R,h3.F⟩) fun _ _ h=>h
theorem unpack_sound (R:ZRel w.params G ρ z s.heap) (F:FRel w.params G ρ cenv ks en s.heap) (hh:A.handled = none) {ts:List Expr} {k:Nat} {pos:Pos} {v:V} {vs:List V} {en':En} {x:Value} (e:asSeq z v = some vs) (hs:storeAll ks ts vs en = some en') (r:RepO w.params G ρ x v) :
    wpAny (model prog w) A (assign (.Tuple ts k pos) cenv x) (fun _ s'=>StQ w cenv ks G ρ s z en' s') E s:=by
  obtain ⟨hl,hst⟩:=storeAll_len (cenv:=cenv) hs
  refine asSeq_el e (fun q=>?_) fun e=>?_
  · obtain ⟨g,hc,hd,hsq,hle,hr⟩:RSi w.params G "tuple" vs x:=Rep.inv (show RepO w.params G ρ x (.tup vs) from q ▸ r)
    rename_i a o vals n
    have ht:s.heap.IsTuple a vals:=⟨_,R.keep _ _ g,hc,_,hsq⟩
    exact wpAny_assign_Tuple hh ht (hl.trans hr.length.symm) hst fun h' he=>unpack_go R F hs (.of_rep hr) he
  · obtain ⟨l,vals,rfl,hL,_,hr,_⟩:=asList_rep R e r
    rw [arm_assign_Tuple]
    refine wpAny_bind (wpAny_standAt ?_)
    unfold unpack
    rw [show (assignEach ts cenv).length = vals.size from hl.trans hr.length.symm,hst]
    exact wpAny_bind (wpAny_holding (kun_itemsOf hh hL fun h' he=>unpack_go R F hs hr he))
theorem ev_noStar {n:Nat} {x:Expr} {e:En} {r:V × Zo} (h:ev Pr n ks x e z = some r) {xs:List Expr}:starEach (x :: xs) cenv = (false,eval x cenv) :: starEach xs cenv:=by
  induction x using Expr.casesOn with
  | Starred=>induction n using Nat.casesOn <;> exact mt h
  | _=>rfl
theorem evs_noStar {pos:Pos} {n:Nat} {xs:List Expr} {e:En} {r:List V × Zo} (h:evs Pr n ks xs e z = some r):(backTo pos (starEach xs cenv)).any (·.1) = false:=by
  induction n generalizing xs z r with
  | zero=>exact mt h
  | succ n ih =>
    induction xs using List.casesOn with
    | nil=>rfl
    | cons x xs =>
      refine bd2 h fun v z1 h1 h2=>mp2 h2 fun vs z2 h3 _=>?_
      rw [ev_noStar h1]
      exact ih h3
theorem meth_eval {o:Expr} {name:S} {apos pos:Pos} {args:List Expr} {Q:Value → Shared → Prop} (hn:noSuper o = true) (hp:(apos.endLine == pos.line) = true) (hl:args.length < 30) (hs:(backTo pos (starEach args cenv)).any (·.1) = false)
    (h:wpAny (model prog w) A (eval o cenv) (fun ov s₁=>wpAny (model prog w) A (getMethod ov name (do return (← importBound o cenv).getD true)) (fun fx s₂=>wpAny (model prog w) A (callWith pos fx.1 fx.2 (backTo pos (starEach args cenv)) []) Q E s₂) E s₁) E s) :
    wpAny (model prog w) A (eval (.Call (.Attribute o name apos) args [] pos) cenv) Q E s:=by
  show wpAny _ _ (do
    let ov ← attributeBase o name cenv (eval o cenv)
    standAt apos.atName
    methodCall o name apos pos cenv ov (args.length + 0) (backTo pos (starEach args cenv)) []) Q E s
  rw [attrBase_plain hn]
  refine wpAny_bind (wpAny_mono h (fun ov s₁ h₁=>wpAny_bind (wpAny_standAt ?_)) fun _ _ h=>h)
  have few:methodCallForm (args.length + 0) (backTo pos (starEach args cenv)) [] = true:=by
    unfold methodCallForm
    have:(backTo pos (starEach args cenv)).all (!·.1) = true:=by
      rw [List.all_eq_true]
      intro q hq
      rw [List.any_eq_false] at hs
      simpa using hs q hq
    rw [this]
    simp; omega
  unfold methodCall
  rw [few]
  refine wpAny_bind (wpAny_holding (wpAny_mono h₁ (fun fx s₂ h₂=>?_) fun _ _ h=>h))
  unfold methodCallPos
  rw [if_pos (by rw [hp,Bool.or_true])]
  exact wpAny_bind (wpAny_pure h₂)
theorem callWith_sound {f:Value} {first:List Value} {pos:Pos} {args:List Expr} {Q:Value → Shared → Prop} (hs:(backTo pos (starEach args cenv)).any (·.1) = false)
    (hk:∀ h,K.In h → ∃ k,(k = Keeper.frame ∨ k = Keeper.machine ∨ k = Keeper.boundFrame) ∧ Looks (model prog w) h (keeperOf f) k)
    (h:wpAny (model prog w) A (spliced (backTo pos (starEach args cenv))) (fun vs s₁=>K.In s₁.heap ∧ wpAny (model prog w) A (call f (first ++ vs)) Q E s₁) E s) :
    wpAny (model prog w) A (callWith pos f first (backTo pos (starEach args cenv)) []) Q E s:=by
  refine callWith_of (by rw [hs]; rfl) hk ?_
  revert h hs
  generalize backTo pos (starEach args cenv) = l
  intro hs h
  induction l using List.casesOn with
  | nil =>
    unfold evalArgs
    show wpAny _ _ (spliced [] >>= _) _ _ _
    refine wpAny_bind (wpAny_mono h (fun vs s' h'=>?_) fun _ _ x=>x)
    refine wpAny_bind (wpAny_pure ?_)
    refine wpAny_holding ?_
    exact wpAny_bind (wpAny_pure (wpAny_bind (wpAny_pure (wpAny_pure h'))))
  | cons q r =>
    obtain ⟨st,t⟩:=q
    induction st using Bool.casesOn with
    | true=>exact ff hs.symm
    | false=>exact evalArgs_plain h
end
end Mine
end
section
open PySem PySem.W PySem.Calls PySem.SeqAt PyProof.Rows
namespace Mine
section
variable {prog:Program} {w:World} {A:Around} {E:Value → Shared → Prop} {s:Shared} {G:Gh} {ρ:Ro} {z z':Zo} {K:Frag} {Pr:Prg} {loose:List S} {mg mb:S → Option Value}
variable {cenv:Env} {ks:Ks} {en:En}
theorem meth_sound {Pm:Params} {M:Model} (R:ZRel Pm G ρ z s.heap) {a:S} {id:String} {v:V} {x:Value} {pl:Sem Bool} {Q:Value × List Value → Shared → Prop} (e:meth z v a = some id) (r:RepO Pm G ρ x v) (h:Q (.builtin id,[x]) s) :
    wpAny M A (getMethod x a pl) Q E s:=by
  unfold meth at e
  split at e
  · rename_i hl
    obtain ⟨xs,hxs⟩:=Option.isSome_iff_exists.mp hl
    obtain ⟨l,vals,rfl,hL,hd,_,_⟩:=asList_rep R hxs r
    split at e
    · rename_i ha; subst ha
      rw [← Option.some.inj e] at h
      exact getMethod_builtin hL.typeIs PySem.F.plainAttrs_list PySem.F.slot_list_append PySem.F.type_list_append (fun a e=>by cases e; exact hd) h
    · refine ifs e fun ha e=>?_
      rw [← Option.some.inj e] at h
      rw [ha]
      exact getMethod_builtin hL.typeIs PySem.F.plainAttrs_list PySem.F.slot_list_index PySem.F.type_list_index (fun a e=>by cases e; exact hd) h
  · split at e
    · rename_i hl
      obtain ⟨xs,hxs⟩:=Option.isSome_iff_exists.mp hl
      obtain ⟨d,es,n,rfl,hd,_,_⟩:=asDict_rep R hxs r
      have hT:s.TypeIs (.ref d) "dict":=⟨_,hd,rfl⟩
      split at e
      · rename_i ha; subst ha
        rw [← Option.some.inj e] at h
        exact getMethod_builtin hT PySem.F.plainAttrs_dict PySem.F.slot_dict_get PySem.F.type_dict_get (fun a e=>by cases e; exact ⟨_,hd,rfl⟩) h
      · refine ifs e fun ha e=>?_
        rw [← Option.some.inj e] at h
        rw [ha]
        exact getMethod_builtin hT PySem.F.plainAttrs_dict PySem.F.slot_dict_setdefault PySem.F.type_dict_setdefault (fun a e=>by cases e; exact ⟨_,hd,rfl⟩) h
    · refine ifs e fun ht e=>ifs e fun ha e=>?_
      rw [← Option.some.inj e] at h
      rw [ha]
      obtain ⟨ts,hts⟩:=Option.isSome_iff_exists.mp ht
      obtain ⟨g,hc,hdn,hs,hl,hr⟩:RSi Pm G "tuple" ts x:=Rep.inv (show RepO Pm G ρ x (.tup ts) from V.tup_of hts ▸ r)
      exact getMethod_builtin ⟨_,R.keep _ _ g,hc⟩ PySem.F.plainAttrs_tuple PySem.F.slot_tuple_index PySem.F.type_tuple_index (fun a e=>by cases e; exact ⟨_,R.keep _ _ g,hdn⟩) h
theorem instMeth_sound (O:POk K Pr) (B:Base K prog loose mg mb G) (R:ZRel w.params G ρ z s.heap) {o:V} {C f:Addr} {fs:List (S × V)} {c:Cls} {a:S} {x:Value} {pl:Sem Bool} {Q:Value × List Value → Shared → Prop}
    (hi:asInst z o = some (C,fs)) (hc:Pr.cls C = some c) (hf:c.meths.lookup a = some f) (hn:fs.any (·.1 == a) = false) (ro:RepO w.params G ρ x o) (h:Q (.ref f,[x]) s):wpAny (model prog w) A (getMethod x a pl) Q E s:=by
  obtain ⟨x,d,es,n,rfl,hx,hd,hr⟩:=asInst_rep R hi ro
  have X:=B.kin R
  have I:InstAt s.heap x (instObj C d) C (some (dictOf es n)):=⟨hx,rfl,rfl,hd⟩
  obtain ⟨h1,h2,h3,_⟩:=(O.cls C c hc).meths a f hf
  have hl:fs.lookup a = none:=by
    rw [List.lookup_eq_none_iff]
    intro p hp
    rw [List.any_eq_false] at hn
    have:=hn p hp
    simpa [BEq.comm] using this
  have hg:getL a es = some none:=by
    unfold getL
    rw [(hr.find a).2 hl,putE_all_str hr]
    rfl
  exact method_fn X I (plainGet_of h3).1 (plainGet_of h3).2 h1 (beq_iff_eq.mp h2) (by show (lookIn a (dictOf es n)).map _ = _; rw [lookIn_dict,hg]; rfl) h
theorem dropV {p pos:Pos} {v:Value} {Q:Flow → Shared → Prop} (h:Q .next s):wpAny (model prog w) A (dropValue (.Yield none p) pos v) Q E s:=by
  induction v using Value.casesOn with
  | ref a=>exact wpAny_bind (wpAny_standAt (wpAny_bind (wpAny_runValue (codeAny_builtin entry_let_go (show wpAny _ _ (ret .none) _ _ s from wpAny_pure (wpAny_pure h))))))
  | _=>exact wpAny_pure h
theorem dropE {e:Expr} {p pos:Pos} {v:Value} (h:(e.ctorIdx == 23) = false):dropValue e pos v = dropValue (.Yield none p) pos v:=by
  induction e using Expr.casesOn <;> first | exact ff h.symm | kernel_rfl
theorem dropValue_sound {e:Expr} {pos:Pos} {v:Value} {Q:Flow → Shared → Prop} (h:Q .next s):wpAny (model prog w) A (dropValue e pos v) Q E s:=by
  cases q:e.ctorIdx == 23 with
  | false=>rw [dropE (p:=pos) q]; exact dropV h
  | true=>induction e using Expr.casesOn <;> first | exact ff q | exact wpAny_pure h
theorem notSet {iter:Expr} (h:isSet iter = false):∀ x,foldedSetIterable iter cenv x = pure x:=by
  intro y
  induction iter using Expr.casesOn <;> first | rfl | exact ff h.symm
theorem comp_eval {x:S} {px:Pos} {elt iter:Expr} {ifs:List Expr} {sc:Scope} {pos:Pos} {ft:En → Zo → Option (Bool × Zo)} {fe:En → Zo → Option (V × Zo)}
    (htest:TestsOk prog w A K loose mg mb (fun _=>True) (relK ks sc.names) ifs ft) (helt:EltOk prog w A K loose mg mb (relK ks sc.names) elt fe) (c:CompOk ks x sc) (h0:en.lookup (".0":S) = none)
    (B:Base K prog loose mg mb G) (R:ZRel w.params G ρ z s.heap) (F:FRel w.params G ρ cenv ks en s.heap) (hh:A.handled = none) (hset:isSet iter = false) {v:V} {vs rs:List V} {z1 z2:Zo}
    (hit:∀ E,wpAny (model prog w) A (eval iter cenv) (Po w.params G ρ s z1 v) E s) (e:iterOf v z1 = some (vs,z2)) (hfit:vs.length ≤ lineMax)
    (hl:compL (compG ft fe x en) vs z2 = some (rs,z')):wpAny (model prog w) A (eval (.ListComp elt [⟨.Name x px,iter,ifs,0⟩] sc pos) cenv) (Po w.params G ρ s z' (.list rs)) E s:=by
  rw [eval_ListComp]
  refine wpAny_comprehension_free (use:=none) rfl (notSet hset) (closure_ok fun n hn=>by
    obtain ⟨c',ov,hc,_⟩:=F.cell n (c.free n hn); rw [hc]; rfl) c.kind c.loc (wpAny_mono (hit E) (fun xv s₁ h₁=>?_) fun _ _ e=>e)
  obtain ⟨G1,ρ1,g1,R1,r1⟩:=h₁
  have F1:=F.grow0 g1
  refine comp_core htest helt c h0 (B.mono g1.g) R1 F1 hh e hfit r1 hl (RR:=fun acc C=>compPost (model prog w) A E none (Po w.params G ρ s z' (.list rs)) acc C) fun D C G' ρ' s' m g' R' rD hn hC hCs=>?_
  refine ⟨m,hn,fun h' hs'=>?_⟩
  refine ⟨G',ρ',g1.trans (g'.tail (Y:=(· = C)) ⟨_,_,rfl⟩ (fun b o e hb=>hs'.extBut b o hb e) fun b hb=>hb ▸ hCs),R'.hid (Y:=(· = C)) (fun b o e hb=>hs'.extBut b o hb e) (fun b hb=>hb ▸ ⟨hC.g,hC.f⟩),RepO.of_rep rD⟩
theorem comp_assign {x y:S} {px py:Pos} {elt iter:Expr} {ifs:List Expr} {sc:Scope} {pos spos:Pos} {ft:En → Zo → Option (Bool × Zo)} {fe:En → Zo → Option (V × Zo)}
    (htest:TestsOk prog w A K loose mg mb (fun _=>True) (relK ks sc.names) ifs ft) (helt:EltOk prog w A K loose mg mb (relK ks sc.names) elt fe) (c:CompOk ks x sc) (h0:en.lookup (".0":S) = none)
    (B:Base K prog loose mg mb G) (R:ZRel w.params G ρ z s.heap) (F:FRel w.params G ρ cenv ks en s.heap) (hh:A.handled = none) (hset:isSet iter = false) {v:V} {vs rs:List V} {z1 z2:Zo}
    (hit:∀ E,wpAny (model prog w) A (eval iter cenv) (Po w.params G ρ s z1 v) E s) (e:iterOf v z1 = some (vs,z2)) (hfit:vs.length ≤ lineMax)
    (hl:compL (compG ft fe x en) vs z2 = some (rs,z')) (hy:ks.lookup y = some .local ∨ ks.lookup y = some .cell) :
    wpAny (model prog w) A (exec (.Assign [.Name y py] (.ListComp elt [⟨.Name x px,iter,ifs,0⟩] sc pos) spos) cenv) (PoS w.params cenv ks G ρ s .next (setE y (.list rs) en) z') E s:=by
  by_cases hsw:swapsWith (.ListComp elt [⟨.Name x px,iter,ifs,0⟩] sc pos) (some (.Name y py)) spos.line cenv = pure true
  · rw [exec_Assign_Name_used _ _ _ _ hsw]
    refine wpAny_bind (wpAny_standAt (wpAny_bind ?_))
    show wpAny _ A (do let _ ← comprehension (.ListComp elt [⟨.Name x px,iter,ifs,0⟩] sc pos) sc cenv _ (newList []) false (eval iter cenv) (some (assign (.Name y py) cenv))) _ _ s
    refine wpAny_bind (wpAny_mono (wpAny_comprehension_free (use:=some (assign (.Name y py) cenv)) (Q:=fun _ s'=>PoS w.params cenv ks G ρ s .next (setE y (.list rs) en) z' .next s') rfl (notSet hset) (closure_ok fun n hn=>by
      obtain ⟨c',ov,hc,_⟩:=F.cell n (c.free n hn); rw [hc]; rfl) c.kind c.loc (wpAny_mono (hit E) (fun xv s₁ h₁=>?_) fun _ _ e=>e)) (fun _ s' hq=>wpAny_pure (wpAny_pure hq)) fun _ _ e=>e)
    obtain ⟨G1,ρ1,g1,R1,r1⟩:=h₁
    have F1:=F.grow0 g1
    refine comp_core htest helt c h0 (B.mono g1.g) R1 F1 hh e hfit r1 hl (RR:=fun acc C=>compPost (model prog w) A E (some (assign (.Name y py) cenv)) (fun _ s'=>PoS w.params cenv ks G ρ s .next (setE y (.list rs) en) z' .next s') acc C) fun D C G' ρ' s' m g' R' rD hn hC hCs=>?_
    have gA:=g1.trans g'
    have F':=F.grow0 gA
    have hXC:∀ b,XF cenv ks b → b ≠ C:=fun b hb q=>by
      obtain ⟨o,ho⟩:=F1.liveX hb
      rw [q,hCs] at ho; cases ho
    show wpAny _ A (assign (.Name y py) cenv (.ref D)) _ _ _
    refine wpAny_assign_Name (wpAny_mono (store_sound R' F' hy (RepO.of_rep rD)) (fun _ s2 h2=>?_) fun _ _ h=>h)
    obtain ⟨g2,R2,F2⟩:=h2
    refine ⟨m,hn.at' fun o e=>hC.kept g2 (fun hx=>hXC C hx rfl) e,fun h' hs'=>?_⟩
    have hC2:=hC.grow g2
    have hCs0:s.heap.get? C = none:=none_of_al g1.al hCs
    refine ⟨G',ρ',((gA.weaken (Y:=XF cenv ks) fun _ h=>h.elim).trans g2).tail (Y:=(· = C)) ⟨_,_,rfl⟩ (fun b o e hb=>hs'.extBut b o hb e) (fun b hb=>hb ▸ hCs0),R2.hid (Y:=(· = C)) (fun b o e hb=>hs'.extBut b o hb e) (fun b hb=>hb ▸ ⟨hC2.g,hC2.f⟩),F2.at fun b o hb e=>hs'.extBut b o (hXC b hb) e,rfl⟩
  · have hsw':swapsWith (.ListComp elt [⟨.Name x px,iter,ifs,0⟩] sc pos) (some (.Name y py)) spos.line cenv = pure false:=by
      have:∃ b:Bool,swapsWith (.ListComp elt [⟨.Name x px,iter,ifs,0⟩] sc pos) (some (.Name y py)) spos.line cenv = pure b:=⟨_,rfl⟩
      obtain ⟨b,hb⟩:=this
      cases b with
      | true=>exact absurd hb hsw
      | false=>exact hb
    refine wpAny_Assign_Name (wpAny_mono (comp_eval htest helt c h0 B R F hh hset hit e hfit hl) (fun u s1 h1=>?_) fun _ _ h=>h) hsw'
    obtain ⟨G1,ρ1,g1,R1,r1⟩:=h1
    refine wpAny_mono (store_sound R1 (F.grow0 g1) hy r1) (fun _ s2 h2=>?_) fun _ _ h=>h
    obtain ⟨g2,R2,F2⟩:=h2
    exact ⟨G1,ρ1,(g1.weaken (Y:=XF cenv ks) fun _ h=>h.elim).trans g2,R2,F2,rfl⟩
end
end Mine
end
section
open PySem PySem.W PySem.Calls PySem.SeqAt PyProof.Rows
namespace Mine
section
variable (prog:Program) (w:World) (K:Frag) (Pr:Prg) (loose:List S) (mg mb:S → Option Value)
def EvOk (n:Nat):Prop:=∀ ks x e z v z',ev Pr n ks x e z = some (v,z') → ∀ A E s G ρ cenv,Room n A → Base K prog loose mg mb G → ZRel w.params G ρ z s.heap → FRel w.params G ρ cenv ks e s.heap →
  wpAny (model prog w) A (eval x cenv) (Po w.params G ρ s z' v) E s
def EvoOk (n:Nat):Prop:=∀ ks x e z v z',evo Pr n ks x e z = some (v,z') → ∀ A E s G ρ cenv,Room n A → Base K prog loose mg mb G → ZRel w.params G ρ z s.heap → FRel w.params G ρ cenv ks e s.heap →
  wpAny (model prog w) A (evalPart x cenv) (Po w.params G ρ s z' v) E s
def EvsOk (n:Nat):Prop:=∀ ks xs e z vs z',evs Pr n ks xs e z = some (vs,z') → ∀ pos A E s G ρ cenv,Room n A → Base K prog loose mg mb G → ZRel w.params G ρ z s.heap → FRel w.params G ρ cenv ks e s.heap →
  wpAny (model prog w) A (spliced (backTo pos (starEach xs cenv))) (PoL w.params G ρ s z' vs) E s
def PairsOk (n:Nat):Prop:=∀ ks vv e z vs z',evs Pr n ks vv e z = some (vs,z') → ∀ kk names pos,kk.mapM strKey = some names → kk.length = vv.length → ∀ A E s G ρ cenv,Room n A → Base K prog loose mg mb G → ZRel w.params G ρ z s.heap → FRel w.params G ρ cenv ks e s.heap →
  wpAny (model prog w) A (evalPairs (pairTrees kk vv cenv pos)) (fun prs s'=>∃ G' ρ',Grow NoX G ρ s G' ρ' s' ∧ ZRel w.params G' ρ' z' s'.heap ∧ ∃ vals,Carries (strKind prog w) prs (names.zip vals) ∧ ROL w.params G' ρ' vals vs) E s
def EvbOk (n:Nat):Prop:=∀ ks op xs e z v z',evb Pr n ks op xs e z = some (v,z') → ∀ pos A E s G ρ cenv,Room n A → Base K prog loose mg mb G → ZRel w.params G ρ z s.heap → FRel w.params G ρ cenv ks e s.heap →
  wpAny (model prog w) A (eval (.BoolOp op xs pos) cenv) (Po w.params G ρ s z' v) E s
def TstOk (n:Nat):Prop:=∀ ks x e z b z',tst Pr n ks x e z = some (b,z') → ∀ A E s G ρ cenv,Room n A → Base K prog loose mg mb G → ZRel w.params G ρ z s.heap → FRel w.params G ρ cenv ks e s.heap →
  wpAny (model prog w) A (isTrue x cenv (eval x cenv)) (PoB w.params G ρ s z' b) E s
def TstsOk (n:Nat):Prop:=∀ ks op xs e z b z',tsts Pr n ks op xs e z = some (b,z') → ∀ pos whole A E s G ρ cenv,Room n A → Base K prog loose mg mb G → ZRel w.params G ρ z s.heap → FRel w.params G ρ cenv ks e s.heap →
  wpAny (model prog w) A (isTrue (.BoolOp op xs pos) cenv whole) (PoB w.params G ρ s z' b) E s
def CallVOk (n:Nat):Prop:=∀ f args z v z',callV Pr n (.fn f) args z = some (v,z') → ∀ ys A E s G ρ,Room n A → Base K prog loose mg mb G → ZRel w.params G ρ z s.heap → ROL w.params G ρ ys args →
  wpAny (model prog w) A (call f ys) (Po w.params G ρ s z' v) E s
def CallFOk (n:Nat):Prop:=∀ a args z v z',callF Pr n a args z = some (v,z') → ∀ ys A E s G ρ,Room n A → Base K prog loose mg mb G → ZRel w.params G ρ z s.heap → ROL w.params G ρ ys args →
  codeAny (model prog w) A (.call (.ref a) ⟨ys,[]⟩) (RP E (Po w.params G ρ s z' v)) s
def ExOk (n:Nat):Prop:=∀ ks st e z fl e' z',ex Pr n ks st e z = some (fl,e',z') → ∀ A E s G ρ cenv,Room n A → Base K prog loose mg mb G → ZRel w.params G ρ z s.heap → FRel w.params G ρ cenv ks e s.heap →
  wpAny (model prog w) A (exec st cenv) (PoS w.params cenv ks G ρ s fl e' z') E s
def ExsOk (n:Nat):Prop:=∀ ks st e z fl e' z',exs Pr n ks st e z = some (fl,e',z') → ∀ A E s G ρ cenv,Room n A → Base K prog loose mg mb G → ZRel w.params G ρ z s.heap → FRel w.params G ρ cenv ks e s.heap →
  wpAny (model prog w) A (execs st cenv) (PoS w.params cenv ks G ρ s fl e' z') E s
def AsgOk (n:Nat):Prop:=∀ ks t v e z e' z',asg Pr n ks t v e z = some (e',z') → ∀ x A E s G ρ cenv,Room n A → Base K prog loose mg mb G → ZRel w.params G ρ z s.heap → FRel w.params G ρ cenv ks e s.heap → RepO w.params G ρ x v →
  wpAny (model prog w) A (assign t cenv x) (fun _ s'=>∃ G' ρ',Grow (XF cenv ks) G ρ s G' ρ' s' ∧ ZRel w.params G' ρ' z' s'.heap ∧ FRel w.params G' ρ' cenv ks e' s'.heap) E s
structure AllOk (n:Nat):Prop where
  ev:EvOk prog w K Pr loose mg mb n
  evo:EvoOk prog w K Pr loose mg mb n
  evs:EvsOk prog w K Pr loose mg mb n
  prs:PairsOk prog w K Pr loose mg mb n
  evb:EvbOk prog w K Pr loose mg mb n
  tst:TstOk prog w K Pr loose mg mb n
  tsts:TstsOk prog w K Pr loose mg mb n
  callV:CallVOk prog w K Pr loose mg mb n
  callF:CallFOk prog w K Pr loose mg mb n
  ex:ExOk prog w K Pr loose mg mb n
  exs:ExsOk prog w K Pr loose mg mb n
  asg:AsgOk prog w K Pr loose mg mb n
def OrcOk:Prop:=∀ a F,Pr.orc a = some F → ∀ ts v,F ts = some v → ∀ ys A E s G ρ z,Room Pr.need A → Base K prog loose mg mb G → ZRel w.params G ρ z s.heap → RepL w.params G ys ts →
  wpAny (model prog w) A (call (.ref a) ys) (fun r s'=>∃ G',Grow NoX G ρ s G' ρ s' ∧ ZRel w.params G' ρ z s'.heap ∧ Rep w.params G' r v) E s
def OrbOk:Prop:=∀ a F,Pr.orb a = some F → ∀ o ts r o',F o ts = some (r,o') → plainO o = true → ∀ k p ys A E s G ρ z,Room Pr.need A → Base K prog loose mg mb G → ZRel w.params G ρ z s.heap → ρ[k]? = some p → z[k]? = some o → RepL w.params G ys ts →
  wpAny (model prog w) A (call (.ref a) (.ref p.1 :: ys)) (fun x s'=>∃ G',Grow NoX G ρ s G' ρ s' ∧ ZRel w.params G' ρ (z.set k o') s'.heap ∧ Rep w.params G' x r) E s
end
structure Cx (prog:Program) (w:World) (K:Frag) (loose:List S) (mg mb:S → Option Value) (cenv:Env) (ks:Ks) (e:En) (G:Gh) (ρ:Ro) (z:Zo) (s:Shared):Prop where
  B:Base K prog loose mg mb G
  R:ZRel w.params G ρ z s.heap
  F:FRel w.params G ρ cenv ks e s.heap
section
variable {prog:Program} {w:World} {A:Around} {E:Value → Shared → Prop} {s:Shared} {G:Gh} {ρ:Ro} {z z' z1:Zo} {K:Frag} {Pr:Prg} {loose:List S} {mg mb:S → Option Value}
variable {cenv:Env} {ks:Ks} {e e1:En} {n:Nat} {k:Value → Shared → Prop}
theorem Room.u {n:Nat} (r:Room n A):A.units + 20 < cLine:=by have:=r.un; omega
theorem Room.pred {n:Nat} (r:Room (n + 1) A):Room n A:=r.less (Nat.le_succ n)
theorem Cx.grow (c:Cx prog w K loose mg mb cenv ks e G ρ z s) {G1 ρ1 s1} (g:Grow NoX G ρ s G1 ρ1 s1) (R:ZRel w.params G1 ρ1 z1 s1.heap):Cx prog w K loose mg mb cenv ks e G1 ρ1 z1 s1:=⟨c.B.mono g.g,R,c.F.grow0 g⟩
theorem EvOk.to (Q:EvOk prog w K Pr loose mg mb n) {x:Expr} {v:V} (h:ev Pr n ks x e z = some (v,z1)) (r:Room n A) (c:Cx prog w K loose mg mb cenv ks e G ρ z s)
    (H:∀ y s1 G1 ρ1,Grow NoX G ρ s G1 ρ1 s1 → Cx prog w K loose mg mb cenv ks e G1 ρ1 z1 s1 → RepO w.params G1 ρ1 y v → k y s1):wpAny (model prog w) A (eval x cenv) k E s :=
  wpAny_mono (Q _ _ _ _ _ _ h A E s G ρ cenv r c.B c.R c.F) (fun _ _ hs=>by obtain ⟨G1,ρ1,g,R,r⟩:=hs; exact H _ _ G1 ρ1 g (c.grow g R) r) fun _ _ h=>h
theorem EvoOk.to (Q:EvoOk prog w K Pr loose mg mb n) {x:Option Expr} {v:V} (h:evo Pr n ks x e z = some (v,z1)) (r:Room n A) (c:Cx prog w K loose mg mb cenv ks e G ρ z s)
    (H:∀ y s1 G1 ρ1,Grow NoX G ρ s G1 ρ1 s1 → Cx prog w K loose mg mb cenv ks e G1 ρ1 z1 s1 → RepO w.params G1 ρ1 y v → k y s1):wpAny (model prog w) A (evalPart x cenv) k E s :=
  wpAny_mono (Q _ _ _ _ _ _ h A E s G ρ cenv r c.B c.R c.F) (fun _ _ hs=>by obtain ⟨G1,ρ1,g,R,r⟩:=hs; exact H _ _ G1 ρ1 g (c.grow g R) r) fun _ _ h=>h
theorem EvsOk.to (Q:EvsOk prog w K Pr loose mg mb n) {xs:List Expr} {vs:List V} (h:evs Pr n ks xs e z = some (vs,z1)) {pos:Pos} (r:Room n A) (c:Cx prog w K loose mg mb cenv ks e G ρ z s) {k:List Value → Shared → Prop}
    (H:∀ ys s1 G1 ρ1,Grow NoX G ρ s G1 ρ1 s1 → Cx prog w K loose mg mb cenv ks e G1 ρ1 z1 s1 → ROL w.params G1 ρ1 ys vs → k ys s1):wpAny (model prog w) A (spliced (backTo pos (starEach xs cenv))) k E s :=
  wpAny_mono (Q _ _ _ _ _ _ h pos A E s G ρ cenv r c.B c.R c.F) (fun _ _ hs=>by obtain ⟨G1,ρ1,g,R,r⟩:=hs; exact H _ _ G1 ρ1 g (c.grow g R) r) fun _ _ h=>h
theorem TstOk.to (Q:TstOk prog w K Pr loose mg mb n) {x:Expr} {b:Bool} (h:tst Pr n ks x e z = some (b,z1)) (r:Room n A) (c:Cx prog w K loose mg mb cenv ks e G ρ z s) {k:Bool → Shared → Prop}
    (H:∀ s1 G1 ρ1,Grow NoX G ρ s G1 ρ1 s1 → Cx prog w K loose mg mb cenv ks e G1 ρ1 z1 s1 → k b s1):wpAny (model prog w) A (isTrue x cenv (eval x cenv)) k E s :=
  wpAny_mono (Q _ _ _ _ _ _ h A E s G ρ cenv r c.B c.R c.F) (fun _ _ hs=>by obtain ⟨rfl,G1,ρ1,g,R⟩:=hs; exact H _ G1 ρ1 g (c.grow g R)) fun _ _ h=>h
theorem Po.up {G1 ρ1 s1} {m:Sem Value} {v:V} (g:Grow NoX G ρ s G1 ρ1 s1) (h:wpAny (model prog w) A m (Po w.params G1 ρ1 s1 z v) E s1):wpAny (model prog w) A m (Po w.params G ρ s z v) E s1:=wpAny_mono h (fun _ _ h=>h.trans g) fun _ _ h=>h
theorem PoB.up {G1 ρ1 s1} {m:Sem Bool} {v:Bool} (g:Grow NoX G ρ s G1 ρ1 s1) (h:wpAny (model prog w) A m (PoB w.params G1 ρ1 s1 z v) E s1):wpAny (model prog w) A m (PoB w.params G ρ s z v) E s1:=wpAny_mono h (fun _ _ h=>h.trans g) fun _ _ h=>h
theorem EvOk.end (Q:EvOk prog w K Pr loose mg mb n) {x:Expr} {v:V} (h:ev Pr n ks x e z = some (v,z1)) (r:Room n A) (c:Cx prog w K loose mg mb cenv ks e G ρ z s):wpAny (model prog w) A (eval x cenv) (Po w.params G ρ s z1 v) E s:=Q _ _ _ _ _ _ h A E s G ρ cenv r c.B c.R c.F
theorem evs_len {xs:List Expr} {vs:List V} (h:evs Pr n ks xs e z = some (vs,z')):vs.length = xs.length:=by
  induction n generalizing xs z vs z' with
  | zero=>exact mt h
  | succ n ih =>
    induction xs using List.casesOn with
    | nil=>exact so2 (C:=fun vs _=>vs.length = ([]:List Expr).length) (show some (_,_) = some (_,_) from h) rfl
    | cons x xs=>exact bd2 h fun v z1 h1 h=>mp2 h fun vs' z2 h2 h=>pr2 (C:=fun vs _=>vs.length = (x :: xs).length) (show (_,_) = (_,_) from h) (congrArg Nat.succ (ih h2))
theorem evo_step (H:EvOk prog w K Pr loose mg mb n):EvoOk prog w K Pr loose mg mb (n + 1):=by
  intro ks x e z v z' h A E s G ρ cenv r B R F
  induction x using Option.casesOn with
  | none=>exact so2 (C:=fun v z'=>wpAny (model prog w) A (evalPart none cenv) (Po w.params G ρ s z' v) E s) (show some (_,_) = some (_,_) from h) (wpAny_pure (.here R .none))
  | some x=>exact H ks x e z v z' h A E s G ρ cenv r.pred B R F
theorem evs_step (H:EvOk prog w K Pr loose mg mb n) (Hs:EvsOk prog w K Pr loose mg mb n):EvsOk prog w K Pr loose mg mb (n + 1):=by
  intro ks xs e z vs z' h pos A E s G ρ cenv r B R F
  induction xs using List.casesOn with
  | nil=>exact so2 (C:=fun v z'=>wpAny (model prog w) A (spliced (backTo pos (starEach [] cenv))) (PoL w.params G ρ s z' v) E s) (show some (_,_) = some (_,_) from h) (spliced_nil ⟨G,ρ,.refl,R,.nil⟩)
  | cons x xs =>
    refine bd2 h fun v z1 h1 h=>mp2 h fun vs' z2 h3 h=>pr2 (C:=fun v z'=>wpAny (model prog w) A (spliced (backTo pos (starEach (x :: xs) cenv))) (PoL w.params G ρ s z' v) E s) (show (_,_) = (_,_) from h) ?_
    rw [ev_noStar h1]
    exact spliced_cons (H.to h1 r.pred ⟨B,R,F⟩ fun u s1 G1 ρ1 g1 c1 r1=>Hs.to h3 r.pred c1 fun us s2 G2 ρ2 g2 c2 r2=>⟨G2,ρ2,g1.trans g2,c2.R,.cons (r1.mono g2.g g2.r) r2⟩)
theorem prs_step (H:EvOk prog w K Pr loose mg mb n) (Hs:PairsOk prog w K Pr loose mg mb n):PairsOk prog w K Pr loose mg mb (n + 1):=by
  intro ks vv e z vs z' h kk names pos hkk hlen A E s G ρ cenv r B R F
  induction vv using List.casesOn with
  | nil =>
    obtain rfl:=List.length_eq_zero_iff.mp hlen
    obtain rfl:=Option.some.inj hkk
    exact so2 (C:=fun v z'=>wpAny (model prog w) A (evalPairs (pairTrees [] [] cenv pos)) (fun prs s'=>∃ G' ρ',Grow NoX G ρ s G' ρ' s' ∧ ZRel w.params G' ρ' z' s'.heap ∧ ∃ vals,Carries (strKind prog w) prs (([]:List S).zip vals) ∧ ROL w.params G' ρ' vals v) E s) (show some (_,_) = some (_,_) from h)
      (evalPairs_nil ⟨G,ρ,.refl,R,[],trivial,.nil⟩)
  | cons x xs =>
    induction kk using List.casesOn with
    | nil=>exact absurd hlen.symm (Nat.succ_ne_zero _)
    | cons k kk =>
      rw [List.mapM_cons] at hkk
      refine bd2 h fun v z1 h1 h=>mp2 h fun vs' z2 h3 h=>bd1 hkk fun nm hk1 hkk=>bd1 hkk fun nms hk3 hk4=>?_
      obtain rfl:=Option.some.inj hk4
      induction k using Option.casesOn with
      | none=>exact mt hk1
      | some k =>
        obtain ⟨kx,px,rfl⟩:=strOf_of hk1
        refine pr2 (C:=fun v z'=>wpAny (model prog w) A (evalPairs (pairTrees (some (.Constant (.str nm) kx px) :: kk) (x :: xs) cenv pos)) (fun prs s'=>∃ G' ρ',Grow NoX G ρ s G' ρ' s' ∧ ZRel w.params G' ρ' z' s'.heap ∧ ∃ vals,Carries (strKind prog w) prs ((nm :: nms).zip vals) ∧ ROL w.params G' ρ' vals v) E s) (show (_,_) = (_,_) from h) ?_
        refine evalPairs_cons (Constant_str ?_)
        refine wpAny_bind (H.to (s:={ s with toks:=s.toks + 1 }) h1 r.pred ⟨B,R,F⟩ fun u s1 G1 ρ1 g1 c1 r1=>wpAny_bind (wpAny_standAt (wpAny_pure ?_)))
        refine wpAny_mono (Hs ks xs e z1 vs' z2 h3 kk nms pos hk3 (Nat.succ.inj hlen) A E s1 G1 ρ1 cenv r.pred c1.B c1.R c1.F) (fun prs s2 hp=>?_) fun _ _ h=>h
        obtain ⟨G2,ρ2,g2,R2,vals,hc,r2⟩:=hp
        exact ⟨G2,ρ2,((Grow.pure ⟨_,_,rfl⟩ fun _ _ e=>e).trans g1).trans g2,R2,u :: vals,⟨strKind_is prog w nm s.toks,rfl,hc⟩,.cons (r1.mono g2.g g2.r) r2⟩
theorem evb_step (H:EvOk prog w K Pr loose mg mb n) (Hb:EvbOk prog w K Pr loose mg mb n):EvbOk prog w K Pr loose mg mb (n + 1):=by
  intro ks op xs e z v z' h pos A E s G ρ cenv r B R F
  have r':=r.pred
  induction xs using List.casesOn with
  | nil=>exact mt h
  | cons x xs =>
    induction xs using List.casesOn with
    | nil=>exact BoolOp_one (H _ _ _ _ _ _ h A E s G ρ cenv r' B R F)
    | cons y ys =>
      refine bd2 h fun u z1 h1 h=>bd1 h fun b h3 h=>?_
      induction op using BoolOp.casesOn with
      | And =>
        refine BoolOp_and (H.to h1 r' ⟨B,R,F⟩ fun uv s1 G1 ρ1 g1 c1 r1=>truth_sound h3 r1 ?_)
        induction b using Bool.casesOn with
        | true=>exact Po.up g1 (Hb _ _ _ _ _ _ _ h pos A E s1 G1 ρ1 cenv r' c1.B c1.R c1.F)
        | false=>exact so2 (C:=fun v z'=>Po w.params G ρ s z' v uv s1) (show some (_,_) = some (_,_) from h) ⟨G1,ρ1,g1,c1.R,r1⟩
      | Or =>
        refine BoolOp_or (H.to h1 r' ⟨B,R,F⟩ fun uv s1 G1 ρ1 g1 c1 r1=>truth_sound h3 r1 ?_)
        induction b using Bool.casesOn with
        | false=>exact Po.up g1 (Hb _ _ _ _ _ _ _ h pos A E s1 G1 ρ1 cenv r' c1.B c1.R c1.F)
        | true=>exact so2 (C:=fun v z'=>Po w.params G ρ s z' v uv s1) (show some (_,_) = some (_,_) from h) ⟨G1,ρ1,g1,c1.R,r1⟩
theorem tsts_step (H:TstOk prog w K Pr loose mg mb n) (Hb:TstsOk prog w K Pr loose mg mb n):TstsOk prog w K Pr loose mg mb (n + 1):=by
  intro ks op xs e z b z' h pos whole A E s G ρ cenv r B R F
  have r':=r.pred
  induction xs using List.casesOn with
  | nil =>
    refine so2 (C:=fun b z'=>wpAny (model prog w) A (isTrue (.BoolOp op [] pos) cenv whole) (PoB w.params G ρ s z' b) E s) (show some (_,_) = some (_,_) from h) ?_
    induction op using BoolOp.casesOn with
    | And=>exact isTrue_and_nil ⟨rfl,G,ρ,.refl,R⟩
    | Or=>exact isTrue_or_nil ⟨rfl,G,ρ,.refl,R⟩
  | cons x xs =>
    refine bd2 h fun b z1 h1 h=>?_
    induction op using BoolOp.casesOn with
    | And =>
      refine isTrue_and (H.to h1 r' ⟨B,R,F⟩ fun s1 G1 ρ1 g1 c1=>?_)
      induction b using Bool.casesOn with
      | true=>exact PoB.up g1 (Hb _ _ _ _ _ _ _ h pos _ A E s1 G1 ρ1 cenv r' c1.B c1.R c1.F)
      | false=>exact so2 (C:=fun v z'=>PoB w.params G ρ s z' v false s1) (show some (_,_) = some (_,_) from h) ⟨rfl,G1,ρ1,g1,c1.R⟩
    | Or =>
      refine isTrue_or (H.to h1 r' ⟨B,R,F⟩ fun s1 G1 ρ1 g1 c1=>?_)
      induction b using Bool.casesOn with
      | false=>exact PoB.up g1 (Hb _ _ _ _ _ _ _ h pos _ A E s1 G1 ρ1 cenv r' c1.B c1.R c1.F)
      | true=>exact so2 (C:=fun v z'=>PoB w.params G ρ s z' v true s1) (show some (_,_) = some (_,_) from h) ⟨rfl,G1,ρ1,g1,c1.R⟩
theorem notMarks {op:CmpOp} {r:Expr} (h:isSet r = false):behindInMarks op r = false:=by induction r using Expr.casesOn <;> first | rfl | exact ff h.symm
theorem tst_plain (H:EvOk prog w K Pr loose mg mb n) {x:Expr} {b:Bool} (h:tstD (ev Pr n ks x e z) = some (b,z')) (r:Room n A) (c:Cx prog w K loose mg mb cenv ks e G ρ z s)
    (hp:∀ {Q:Bool → Shared → Prop},wpAny (model prog w) A (eval x cenv) (fun v s'=>wpAny (model prog w) A (truthy v) Q E s') E s → wpAny (model prog w) A (isTrue x cenv (eval x cenv)) Q E s):wpAny (model prog w) A (isTrue x cenv (eval x cenv)) (PoB w.params G ρ s z' b) E s :=
  hp (bd2 h fun u z1 h1 h=>mp1 h fun d h3 h=>H.to h1 r c fun y s1 G1 ρ1 g1 c1 r1=>truth_sound h3 r1 (pr2 (C:=fun b z'=>PoB w.params G ρ s z' b d s1) (show (_,_) = (_,_) from h) ⟨rfl,G1,ρ1,g1,c1.R⟩))
theorem tst_step (H:EvOk prog w K Pr loose mg mb n) (Ht:TstOk prog w K Pr loose mg mb n) (Hts:TstsOk prog w K Pr loose mg mb n):TstOk prog w K Pr loose mg mb (n + 1):=by
  intro ks x e z b z' h A E s G ρ cenv r B R F
  have r':=r.pred
  have c:Cx prog w K loose mg mb cenv ks e G ρ z s:=⟨B,R,F⟩
  replace h:tstB (fs Pr n) ks e z (viewE x) = some (b,z'):=h
  generalize viewE x = vx at h
  clear B R F r
  induction vx using EV.casesOn with
  | not y p=>exact mp2 h fun c1 z1 h1 h=>pr2 (C:=fun b z'=>wpAny (model prog w) A (isTrue (.UnaryOp .Not y p) cenv (eval (.UnaryOp .Not y p) cenv)) (PoB w.params G ρ s z' b) E s) (show (_,_) = (_,_) from h) (isTrue_not (Ht.to h1 r' c fun s1 G1 ρ1 g1 c1=>⟨rfl,G1,ρ1,g1,c1.R⟩))
  | bool op es p=>exact Hts _ _ _ _ _ _ _ h _ _ A E s G ρ cenv r' c.B c.R c.F
  | cmp l op rr p =>
    refine ifbn h fun hset h=>bd2 h fun a z1 h1 h=>bd2 h fun c' z2 h3 h=>mp1 h fun d h5 h=>pr2 (C:=fun b z'=>wpAny (model prog w) A (isTrue (.Compare l [op] [rr] p) cenv (eval (.Compare l [op] [rr] p) cenv)) (PoB w.params G ρ s z' b) E s) (show (_,_) = (_,_) from h) ?_
    refine wpAny_isTrue_Compare1 (H.to h1 r' c fun av s1 G1 ρ1 g1 c1 ra=>H.to h3 r' c1 fun cv s2 G2 ρ2 g2 c2 rc=>wpAny_mono (cmp_sound c2.R r'.u h5 (ra.mono g2.g g2.r) rc) (fun q s3 hq=>?_) fun _ _ h=>h) (notMarks hset)
    obtain ⟨rfl,G3,ρ3,g3,R3,_⟩:=hq
    exact wpAny_truthy_bool ⟨rfl,G3,ρ3,(g1.trans g2).trans g3,R3⟩
  | neg=>exact mt h
  | ite=>exact mt h
  | bad=>exact mt h
  | _=>exact tst_plain H h r' c fun h=>isTrue_plain h rfl
end
end Mine
end
section
open PySem PySem.W PySem.Calls PySem.SeqAt PyProof.Rows
set_option maxHeartbeats 1000000
namespace Mine
section
variable {prog:Program} {w:World} {A:Around} {E:Value → Shared → Prop} {s:Shared} {G:Gh} {ρ:Ro} {z z':Zo} {K:Frag} {Pr:Prg} {loose:List S} {mg mb:S → Option Value}
variable {cenv:Env} {ks:Ks} {en:En} {n:Nat}
theorem call_eval {f:Expr} {args:List Expr} {pos:Pos} (hf:isAttr f = false):eval (.Call f args [] pos) cenv = (do let fv ← eval f cenv; callWith pos fv [] (backTo pos (starEach args cenv)) []):=by
  induction f using Expr.casesOn <;> first | rfl | exact ff hf.symm
theorem callV_keep (O:POk K Pr) {M:Model} {f:V} {args:List V} {r:V × Zo} (h:callV Pr n f args z = some r):∃ fv,f = .fn fv ∧ ∀ h,K.In h → ∃ k,(k = Keeper.frame ∨ k = Keeper.machine ∨ k = Keeper.boundFrame) ∧ Looks M h (keeperOf fv) k:=by
  induction n using Nat.casesOn with
  | zero=>exact mt h
  | succ n =>
    refine bd1 h fun fv hf h=>⟨fv,V.fn_of hf,?_⟩
    cases hr:rf? fv with
    | none =>
      refine fun h X=>⟨.machine,.inr (.inl rfl),?_⟩
      induction fv using Value.casesOn <;> first | exact Looks.of_pure rfl | exact mt hr.symm
    | some a =>
      rw [hr] at h
      rw [rf_of hr]
      refine keeps_K ?_
      replace h:refB Pr (fs Pr n) n a args z = some r:=h
      unfold refB at h
      cases h1:Pr.orc a with
      | some F=>exact O.keepO a (.inl (by rw [h1]; rfl))
      | none =>
        cases h2:Pr.orb a with
        | some F=>exact O.keepO a (.inr (by rw [h2]; rfl))
        | none =>
          rw [h1,h2] at h
          cases h3:Pr.cls a with
          | some c=>exact (O.cls a c h3).keep
          | none =>
            rw [h3] at h
            induction n using Nat.casesOn with
            | zero=>exact mt h
            | succ n=>exact bd1 h fun fd h1 _=>(O.func a fd h1).keep
variable {e:En} {z1 z2:Zo} {v:V} {pos:Pos}
theorem apply_sound (O:POk K Pr) (Hs:EvsOk prog w K Pr loose mg mb n) (Hc:CallVOk prog w K Pr loose mg mb n) {f:V} {fv:Value} {first:List Value} {firstV:List V} {args:List Expr} {vs:List V}
    (r:Room n A) (c:Cx prog w K loose mg mb cenv ks e G ρ z s) (hf:f = .fn fv) (rf:ROL w.params G ρ first firstV) (h1:evs Pr n ks args e z = some (vs,z1)) (h2:callV Pr n f (firstV ++ vs) z1 = some (v,z2)) :
    wpAny (model prog w) A (callWith pos fv first (backTo pos (starEach args cenv)) []) (Po w.params G ρ s z2 v) E s:=by
  subst hf
  obtain ⟨fv',e',hk⟩:=callV_keep (M:=model prog w) O h2
  obtain rfl:=V.fn.inj e'
  exact callWith_sound (evs_noStar h1) hk (Hs.to h1 r c fun ys s1 G1 ρ1 g1 c1 r1=>⟨c1.B.kin c1.R,Po.up g1 (Hc _ _ _ _ _ h2 _ A E s1 G1 ρ1 r c1.B c1.R ((rf.mono g1.g g1.r).append r1))⟩)
theorem tests_of (H:TstOk prog w K Pr loose mg mb n) (r:Room n A) {ks':Ks} {ifs:List Expr}:TestsOk prog w A K loose mg mb (fun _=>True) ks' ifs (ifsV (fs Pr n) ks' ifs):=by
  intro env E G ρ s e z b z' _ h B R F
  induction ifs using List.casesOn with
  | nil=>exact so2 (C:=fun b z'=>wpAny (model prog w) A _ (PoB w.params G ρ s z' b) E s) (show some (_,_) = some (_,_) from h) (wpAny_tests_nil ⟨rfl,G,ρ,.refl,R⟩)
  | cons c l =>
    induction l using List.casesOn with
    | nil=>exact wpAny_tests_one (H _ _ _ _ _ _ h A E s G ρ env r B R F)
    | cons=>exact mt h
theorem elt_of (H:EvOk prog w K Pr loose mg mb n) (r:Room n A) {ks':Ks} {elt:Expr}:EltOk prog w A K loose mg mb ks' elt (ev Pr n ks' elt) :=
  fun env E G ρ s e z v z' h B R F=>H _ _ _ _ _ _ h A E s G ρ env r B R F
section
theorem ev_const (c:Cx prog w K loose mg mb cenv ks e G ρ z s) {d:Const} {kx:Nat} (h:constV d = some v):wpAny (model prog w) A (eval (.Constant d kx pos) cenv) (Po w.params G ρ s z v) E s:=by
  induction d using Const.casesOn with
  | none=>exact so1 (C:=fun v=>wpAny (model prog w) A _ (Po w.params G ρ s z v) E s) (show some _ = some _ from h) (PyProof.Rows.Constant_none (.here c.R .none))
  | bool=>exact so1 (C:=fun v=>wpAny (model prog w) A _ (Po w.params G ρ s z v) E s) (show some _ = some _ from h) (PyProof.Rows.Constant_bool (.here c.R (.bool _)))
  | int=>exact so1 (C:=fun v=>wpAny (model prog w) A _ (Po w.params G ρ s z v) E s) (show some _ = some _ from h) (wpAny_Constant_int (.tok c.R (.int ..)))
  | str=>exact so1 (C:=fun v=>wpAny (model prog w) A _ (Po w.params G ρ s z v) E s) (show some _ = some _ from h) (Constant_str (.tok c.R (.str ..)))
  | _=>exact mt h
theorem fit_of {vs ts:List V} (h:fit vs = some ts):ts = vs ∧ vs.length ≤ lineMax:=ifs h fun q h=>⟨(Option.some.inj h).symm,q⟩
theorem ev_tup (Q:EvsOk prog w K Pr loose mg mb n) (r:Room n A) (c:Cx prog w K loose mg mb cenv ks e G ρ z s) {es:List Expr} {kx:Nat} {vs ts:List V} (h1:evs Pr n ks es e z = some (vs,z1)) (h3:frzs vs z1 = some (ts,z2)) (h5:ts.length ≤ lineMax) :
    wpAny (model prog w) A (eval (.Tuple es kx pos) cenv) (Po w.params G ρ s z2 (.tup ts)) E s:=by
  refine Tuple_ (Q.to h1 r c fun ys s1 G1 ρ1 g1 c1 r1=>?_)
  obtain ⟨G2,g2,R2,r2⟩:=frzs_ok (X:=NoX) h3 c1.R r1
  refine wpAny_newTuple ?_ (by rw [r2.length]; exact Nat.le_trans h5 (by decide))
  have q:=frozen_new (X:=NoX) (s':={ s1 with heap:=s1.heap.push { cls:=.type "tuple",data:=.seq ys.toArray } }) R2 ⟨_,_,rfl⟩ (push_keep _ _) (push_none _) (Heap.get?_push_size _ rfl)
  exact ⟨_,_,(g1.trans g2).trans q.1,q.2,RepO.of_rep (.tup (Gh.put_self ..) rfl rfl rfl h5 (r2.mono q.1.g))⟩
theorem ev_list (Q:EvsOk prog w K Pr loose mg mb n) (r:Room n A) (c:Cx prog w K loose mg mb cenv ks e G ρ z s) {es:List Expr} {vs:List V} (h1:evs Pr n ks es e z = some (vs,z1)) (h5:vs.length ≤ lineMax) :
    wpAny (model prog w) A (eval (.List es pos) cenv) (Po w.params G ρ s (z1 ++ [.list vs]) (.own z1.length)) E s :=
  List_ (Q.to h1 r c fun ys s1 G1 ρ1 g1 c1 r1=>wpAny_newList (Po.trans g1 (po_own_list (n:=0) c1.R (by simpa using r1) h5)) (by rw [r1.length]; exact Nat.le_trans h5 (by decide)))
theorem strKeys:∀ {kk:List (Option Expr)} {names:List S},kk.mapM strKey = some names → kk.length = names.length ∧ kk.all (·.isSome) = true:=by
  intro kk
  induction kk with
  | nil=>intro names h; obtain rfl:=Option.some.inj h; exact ⟨rfl,rfl⟩
  | cons k kk ih =>
    intro names h
    rw [List.mapM_cons] at h
    refine bd1 h fun a h1 h=>bd1 h fun b h2 h=>?_
    obtain rfl:=Option.some.inj h
    refine ⟨congrArg Nat.succ (ih h2).1,?_⟩
    rw [List.all_cons,(ih h2).2,Bool.and_true]
    induction k using Option.casesOn with
    | none=>exact mt h1
    | some k=>rfl
theorem names_ok {names:List S} (h:namesOk names = true):names.Nodup ∧ names.length ≤ 15:=by
  unfold namesOk at h
  split at h
  · exact ⟨List.nodup_nil,Nat.zero_le _⟩
  · exact ⟨by simp,by simp⟩
  · simp at h; exact ⟨by simp [h],by simp⟩
  · cases h
theorem zip_rokv {Pm:Params} {names:List S} {vals:List Value} {vs:List V} (r:ROL Pm G ρ vals vs):ROKV Pm G ρ (names.zip vals) (names.zip vs):=by
  induction r generalizing names with
  | nil=>rw [List.zip_nil_right,List.zip_nil_right]; exact .nil
  | cons a b ih=>induction names using List.casesOn with
    | nil=>exact .nil
    | cons nm nms=>exact .cons a ih
theorem ev_dict (Q:PairsOk prog w K Pr loose mg mb n) (r:Room n A) (c:Cx prog w K loose mg mb cenv ks e G ρ z s) {kk:List (Option Expr)} {vv:List Expr} {names:List S} {vs:List V} (hk:kk.mapM strKey = some names) (h1:evs Pr n ks vv e z = some (vs,z1)) (hl:names.length = vs.length) (hn:namesOk names = true) :
    wpAny (model prog w) A (eval (.Dict kk vv pos) cenv) (Po w.params G ρ s (z1 ++ [.dict (names.zip vs)]) (.own z1.length)) E s:=by
  obtain ⟨hkl,hall⟩:=strKeys hk
  obtain ⟨hnd,hn15⟩:=names_ok hn
  have hkn:kk.length = vv.length:=by rw [hkl,hl,evs_len h1]
  by_cases hnil:kk = []
  · subst hnil
    obtain rfl:=List.length_eq_zero_iff.mp hkl.symm
    obtain rfl:=List.length_eq_zero_iff.mp hkn.symm
    obtain rfl:=List.length_eq_zero_iff.mp hl.symm
    have hz:z1 = z:=by
      induction n using Nat.casesOn with
      | zero=>exact mt h1
      | succ n=>exact (Prod.mk.inj (Option.some.inj h1)).2.symm
    subst hz
    exact wpAny_Dict_empty (po_own_dict0 c.B c.R)
  · refine wpAny_Dict_walk (knd:=strKind prog w) hall hkn (by have:=List.length_pos_iff.mpr hnil; omega) (by rw [hkl]; exact hn15) ?_
    have k0:=push_keep s.heap { cls:=.type "dict",data:=.dict #[] }
    have hD:(s.heap.push { cls:=.type "dict",data:=.dict #[] }).get? s.heap.objs.size = some (dictOf [] 0):=Heap.get?_push_size _ rfl
    have hid:Hid G ρ (s.heap.push { cls:=.type "dict",data:=.dict #[] }) s.heap.objs.size:=Hid.fresh c.R (push_none _) ⟨_,hD⟩
    refine wpAny_mono (Q ks vv e z vs z1 h1 kk names pos hk hkn A E { s with heap:=s.heap.push { cls:=.type "dict",data:=.dict #[] } } G ρ cenv r c.B (c.R.keeps k0) (c.F.at fun b o _ e=>k0 b o e)) (fun prs s1 hp=>?_) fun _ _ h=>h
    obtain ⟨G1,ρ1,g1,R1,vals,hc,r1⟩:=hp
    have hid1:=Hid.grow (s:={ s with heap:=s.heap.push { cls:=.type "dict",data:=.dict #[] } }) hid g1
    have hD1:s1.heap.get? s.heap.objs.size = some (dictOf [] 0):=Hid.kept (s:={ s with heap:=s.heap.push { cls:=.type "dict",data:=.dict #[] } }) hid g1 id hD
    have gA0:=(Grow.pure (X:=NoX) (G:=G) (ρ:=ρ) (s:=s) (s':={ s with heap:=s.heap.push { cls:=.type "dict",data:=.dict #[] } }) ⟨_,_,rfl⟩ k0).trans g1
    clear hid hD k0 g1 hall hkn hk h1 hnil hkl
    refine ⟨names.zip vals,hc,⟨_,_,_,hD1,⟨rfl,rfl,rfl⟩,rfl,fun e he=>by simp at he,.nil,List.nodup_nil⟩,fun h' hd' hs'=>?_⟩
    have hmap:(names.zip vals).map (·.1) = names:=List.map_fst_zip (by rw [r1.length,hl]; exact Nat.le_refl _)
    rw [merged_nil_of_nodup _ (by rw [hmap]; exact hnd)] at hd'
    obtain ⟨ents,nn,hg',hr'⟩:=dictOf_roe hd' (zip_rokv r1)
    have hk':∀ b o,s1.heap.get? b = some o → ¬ b = s.heap.objs.size → h'.get? b = some o:=fun b o e hb=>hs'.extBut b o hb e
    have gA:Grow NoX G ρ s G1 ρ1 { s1 with heap:=h',toks:=s1.toks + prs.length }:=gA0.tail (Y:=(· = s.heap.objs.size)) ⟨_,_,rfl⟩ hk' fun b hb=>hb ▸ push_none _
    have R2:ZRel w.params G1 ρ1 z1 h':=R1.hid (Y:=(· = s.heap.objs.size)) hk' fun b hb=>hb ▸ ⟨hid1.g,hid1.f⟩
    have hid2:Hid G1 ρ1 h' s.heap.objs.size:=hid1.at ⟨_,hg'⟩
    have hzz:(names.zip vs).length ≤ 1000:=by rw [List.length_zip]; omega
    have R3:=adopt_zone (p:=(s.heap.objs.size,s.heap.objs.size)) (o:=.dict (names.zip vs)) R2 hid2 hid2 ⟨rfl,c.B.high c.R,ents,nn,hg',hzz,hr'.mono (fun _ _ e=>e) ⟨_,rfl⟩⟩
    exact ⟨G1,_,gA.adoptZ (p:=(s.heap.objs.size,s.heap.objs.size)) (push_none _) (push_none _),R3,(s.heap.objs.size,s.heap.objs.size),by rw [← R2.len]; simp,rfl⟩
theorem ev_attr (O:POk K Pr) (Q:EvOk prog w K Pr loose mg mb n) (r:Room n A) (c:Cx prog w K loose mg mb cenv ks e G ρ z s) {o:Expr} {a:S} {ov:V} (hn:noSuper o = true) (h1:ev Pr n ks o e z = some (ov,z1)) (h2:attrV Pr z1 ov a = some (v,z2)) :
    wpAny (model prog w) A (eval (.Attribute o a pos) cenv) (Po w.params G ρ s z2 v) E s :=
  bd2 h2 fun C fs h3 h=>bd1 h fun cl h5 h=>ifs h fun ha h=>bd1 h fun u h7 h=>ifs h fun hu h=>so2 (C:=fun v z2=>wpAny (model prog w) A (eval (.Attribute o a pos) cenv) (Po w.params G ρ s z2 v) E s) h
    (attr_eval hn (Q.to h1 r c fun x s1 G1 ρ1 g1 c1 r1=>Po.up g1 (getAttr_sound O c1.B c1.R h3 h5 ha h7 hu r1)))
theorem ev_slice (Q:EvOk prog w K Pr loose mg mb n) (Qo:EvoOk prog w K Pr loose mg mb n) (r:Room n A) (c:Cx prog w K loose mg mb cenv ks e G ρ z s) {o:Expr} {l u st:Option Expr} {p:Pos} {ov lv uv sv:V} {z3 z4 z5:Zo}
    (h1:ev Pr n ks o e z = some (ov,z1)) (h3:evo Pr n ks l e z1 = some (lv,z2)) (h5:evo Pr n ks u e z2 = some (uv,z3)) (h7:evo Pr n ks st e z3 = some (sv,z4)) (h:sliceV ov lv uv sv z4 = some (v,z5)) :
    wpAny (model prog w) A (eval (.Subscript o (.Slice l u st p) pos) cenv) (Po w.params G ρ s z5 v) E s :=
  bd1 h fun xs h9 h=>bd1 h fun ys h11 h=>mp2 h fun ts z6 h13 h=>pr2 (C:=fun v z5=>wpAny (model prog w) A (eval (.Subscript o (.Slice l u st p) pos) cenv) (Po w.params G ρ s z5 v) E s) (show (_,_) = (_,_) from h)
    (Subscript_ (Q.to h1 r c fun x s1 G1 ρ1 g1 c1 r1=>wpAny_Slice (Qo.to h3 r c1 fun xl s2 G2 ρ2 g2 c2 r2=>Qo.to h5 r c2 fun xu s3 G3 ρ3 g3 c3 r3=>Qo.to h7 r c3 fun xst s4 G4 ρ4 g4 c4 r4 =>
      wpAny_mono (cut_sound c4.R h9 (((r1.mono g2.g g2.r).mono g3.g g3.r).mono g4.g g4.r) ((r2.mono g3.g g3.r).mono g4.g g4.r) (r3.mono g4.g g4.r) r4 h11 h13) (fun _ _ h=>h.trans (((g1.trans g2).trans g3).trans g4)) fun _ _ h=>h)))
theorem ev_meth (O:POk K Pr) (Q:AllOk prog w K Pr loose mg mb n) (r:Room n A) (c:Cx prog w K loose mg mb cenv ks e G ρ z s) {o:Expr} {a:S} {ap:Pos} {args:List Expr} {ov:V} (hn:noSuper o = true) (hp:(ap.endLine == pos.line) = true) (hl:args.length < 30)
    (h1:ev Pr n ks o e z = some (ov,z1)) (h:methB Pr (fs Pr n) ks a args e ov z1 = some (v,z2)) :
    wpAny (model prog w) A (eval (.Call (.Attribute o a ap) args [] pos) cenv) (Po w.params G ρ s z2 v) E s:=by
  unfold methB at h
  cases hi:asInst z1 ov with
  | some q =>
    rw [hi] at h
    refine bd1 h fun cl h3 h=>bd1 h fun f h5 h=>ifbn h fun hany h=>bd2 h fun vs z3 h7 h8=>?_
    exact meth_eval hn hp hl (evs_noStar h7) (Q.ev.to h1 r c fun x s1 G1 ρ1 g1 c1 r1=>instMeth_sound O c1.B c1.R hi h3 h5 hany r1 (Po.up g1 (apply_sound O Q.evs Q.callV (firstV:=[ov]) r c1 rfl (.cons r1 .nil) h7 h8)))
  | none =>
    rw [hi] at h
    refine bd1 h fun id h3 h=>bd2 h fun vs z3 h7 h8=>?_
    exact meth_eval hn hp hl (evs_noStar h7) (Q.ev.to h1 r c fun x s1 G1 ρ1 g1 c1 r1=>meth_sound c1.R h3 r1 (callWith_sound (K:=K) (evs_noStar h7) (fun _ _=>⟨.machine,.inr (.inl rfl),Looks.of_pure rfl⟩)
      (Q.evs.to h7 r c1 fun ys s2 G2 ρ2 g2 c2 r2=>⟨c2.B.kin c2.R,Po.up (g1.trans g2) (mcall_sound c2.R r.u h8 (r1.mono g2.g g2.r) r2)⟩)))
theorem ev_call (O:POk K Pr) (Q:AllOk prog w K Pr loose mg mb n) (r:Room n A) (c:Cx prog w K loose mg mb cenv ks e G ρ z s) {f:Expr} {args:List Expr} {fv:V} {vs:List V} {z3:Zo} (hf:isAttr f = false) (h1:ev Pr n ks f e z = some (fv,z1)) (h3:evs Pr n ks args e z1 = some (vs,z2)) (h4:callV Pr n fv vs z2 = some (v,z3)) :
    wpAny (model prog w) A (eval (.Call f args [] pos) cenv) (Po w.params G ρ s z3 v) E s:=by
  rw [call_eval hf]
  obtain ⟨fv',q,_⟩:=callV_keep (M:=model prog w) O h4
  exact wpAny_bind (Q.ev.to h1 r c fun x s1 G1 ρ1 g1 c1 r1=>r1.fnE q (Po.up g1 (apply_sound O Q.evs Q.callV (firstV:=[]) r c1 q .nil h3 h4)))
theorem ev_bin (Q:EvOk prog w K Pr loose mg mb n) (r:Room n A) (c:Cx prog w K loose mg mb cenv ks e G ρ z s) {l rr:Expr} {op:Operator} {a b:V} {z3:Zo} (h1:ev Pr n ks l e z = some (a,z1)) (h3:ev Pr n ks rr e z1 = some (b,z2)) (h4:binV z2 op a b = some (v,z3)) :
    wpAny (model prog w) A (eval (.BinOp l op rr pos) cenv) (Po w.params G ρ s z3 v) E s :=
  wpAny_BinOp (Q.to h1 r c fun x s1 G1 ρ1 g1 c1 r1=>Q.to h3 r c1 fun y s2 G2 ρ2 g2 c2 r2=>Po.up (g1.trans g2) (bin_sound c2.R h4 (r1.mono g2.g g2.r) r2))
theorem ev_cmp (Q:EvOk prog w K Pr loose mg mb n) (r:Room n A) (c:Cx prog w K loose mg mb cenv ks e G ρ z s) {l rr:Expr} {op:CmpOp} {a b:V} {d:Bool} (hs:isSet rr = false) (h1:ev Pr n ks l e z = some (a,z1)) (h3:ev Pr n ks rr e z1 = some (b,z2)) (h5:cmpV z2 op a b = some d) :
    wpAny (model prog w) A (eval (.Compare l [op] [rr] pos) cenv) (Po w.params G ρ s z2 (.bool d)) E s :=
  wpAny_Compare1 (Q.to h1 r c fun x s1 G1 ρ1 g1 c1 r1=>Q.to h3 r c1 fun y s2 G2 ρ2 g2 c2 r2=>wpAny_mono (cmp_sound c2.R r.u h5 (r1.mono g2.g g2.r) r2) (fun _ _ h=>h.2.trans (g1.trans g2)) fun _ _ h=>h) (notMarks hs)
theorem ev_ite (Q:AllOk prog w K Pr loose mg mb n) (r:Room n A) (c:Cx prog w K loose mg mb cenv ks e G ρ z s) {t a b:Expr} {d:Bool} (h1:tst Pr n ks t e z = some (d,z1)) (h2:(if d = true then ev Pr n ks a e z1 else ev Pr n ks b e z1) = some (v,z2)) :
    wpAny (model prog w) A (eval (.IfExp t a b pos) cenv) (Po w.params G ρ s z2 v) E s:=by
  refine IfExp_ (Q.tst.to h1 r c fun s1 G1 ρ1 g1 c1=>?_)
  induction d using Bool.casesOn with
  | true=>exact Po.up g1 (Q.ev.end h2 r c1)
  | false=>exact Po.up g1 (Q.ev.end h2 r c1)
theorem comp_cond {b c d:Bool} (h:(b || !(c && d)) = false):b = false ∧ c = true ∧ d = true:=by
  cases b <;> cases c <;> cases d <;> first | exact ⟨rfl,rfl,rfl⟩ | cases h
end
theorem ev_step (O:POk K Pr) (Q:AllOk prog w K Pr loose mg mb n):EvOk prog w K Pr loose mg mb (n + 1):=by
  intro ks x e z v z' h A E s G ρ cenv r B R F
  have r':=r.pred
  have hh:=r.hd
  have c:Cx prog w K loose mg mb cenv ks e G ρ z s:=⟨B,R,F⟩
  replace h:evB Pr (fs Pr n) ks e z (viewE x) = some (v,z'):=h
  generalize viewE x = vx at h
  clear B R F r
  induction vx using EV.casesOn with
  | const d k p=>exact mp1 h fun v' h1 h=>pr2 (C:=fun v z'=>wpAny (model prog w) A (eval (.Constant d k p) cenv) (Po w.params G ρ s z' v) E s) h (ev_const c h1)
  | name x p=>exact ifn h fun hd h=>name_sound O c.B c.R c.F hd h
  | tup es k p=>exact bd2 h fun vs z1 h1 h=>bd2 h fun ts z2 h3 h=>mp1 h fun ts' h5 h=>pr2 (C:=fun v z'=>wpAny (model prog w) A (eval (.Tuple es k p) cenv) (Po w.params G ρ s z' v) E s) h ((fit_of h5).1 ▸ ev_tup Q.evs r' c h1 h3 (fit_of h5).2)
  | list es p=>exact bd2 h fun vs z1 h1 h=>mp1 h fun ts' h5 h=>pr2 (C:=fun v z'=>wpAny (model prog w) A (eval (.List es p) cenv) (Po w.params G ρ s z' v) E s) h ((fit_of h5).1 ▸ ev_list Q.evs r' c h1 (fit_of h5).2)
  | dict kk vv p=>exact bd1 h fun names hk h=>bd2 h fun vs z1 h1 h=>ifs h fun hq h=>so2 (C:=fun v z'=>wpAny (model prog w) A (eval (.Dict kk vv p) cenv) (Po w.params G ρ s z' v) E s) h (ev_dict Q.prs r' c hk h1 (of_decide_eq_true ((Bool.and_eq_true _ _).mp hq).1) ((Bool.and_eq_true _ _).mp hq).2)
  | attr o a p=>exact ifs h fun hn h=>bd2 h fun ov z1 h1 h=>ev_attr O Q.ev r' c hn h1 h
  | slice o l u st p q=>exact bd2 h fun ov z1 h1 h=>bd2 h fun lv z2 h3 h=>bd2 h fun uv z3 h5 h=>bd2 h fun sv z4 h7 h=>ev_slice Q.ev Q.evo r' c h1 h3 h5 h7 h
  | item o i p hs=>exact bd2 h fun ov z1 h1 h=>bd2 h fun iv z2 h3 h=>mp1 h fun u h5 h=>pr2 (C:=fun v z'=>wpAny (model prog w) A (eval (.Subscript o i p) cenv) (Po w.params G ρ s z' v) E s) h (Subscript_ (Q.ev.to h1 r' c fun x s1 G1 ρ1 g1 c1 r1=>Q.ev.to h3 r' c1 fun y s2 G2 ρ2 g2 c2 r2=>Po.up (g1.trans g2) (item_sound c2.R h5 (r1.mono g2.g g2.r) r2 hs)))
  | meth o a ap args p=>exact ifs h fun hq h=>bd2 h fun ov z1 h1 h=>have q:=(Bool.and_eq_true _ _).mp hq; ev_meth O Q r' c ((Bool.and_eq_true _ _).mp q.1).1 ((Bool.and_eq_true _ _).mp q.1).2 (of_decide_eq_true q.2) h1 h
  | call f args p hf=>exact bd2 h fun fv z1 h1 h=>bd2 h fun vs z2 h3 h=>ev_call O Q r' c hf h1 h3 h
  | bin l op rr p=>exact bd2 h fun a z1 h1 h=>bd2 h fun b z2 h3 h=>ev_bin Q.ev r' c h1 h3 h
  | cmp l op rr p=>exact ifbn h fun hs h=>bd2 h fun a z1 h1 h=>bd2 h fun b z2 h3 h=>mp1 h fun d h5 h=>pr2 (C:=fun v z'=>wpAny (model prog w) A (eval (.Compare l [op] [rr] p) cenv) (Po w.params G ρ s z' v) E s) h (ev_cmp Q.ev r' c hs h1 h3 h5)
  | bool op es p=>exact Q.evb _ _ _ _ _ _ _ h _ A E s G ρ cenv r' c.B c.R c.F
  | not x p=>exact bd2 h fun a z1 h1 h=>mp1 h fun b h3 h=>pr2 (C:=fun v z'=>wpAny (model prog w) A (eval (.UnaryOp .Not x p) cenv) (Po w.params G ρ s z' v) E s) h (UnaryOp_ (Q.ev.to h1 r' c fun x s1 G1 ρ1 g1 c1 r1=>not_of (truth_sound h3 r1 ⟨G1,ρ1,g1,c1.R,.bool _⟩)))
  | neg x p=>exact bd2 h fun a z1 h1 h=>mp1 h fun i h3 h=>pr2 (C:=fun v z'=>wpAny (model prog w) A (eval (.UnaryOp .USub x p) cenv) (Po w.params G ρ s z' v) E s) h (UnaryOp_ (Q.ev.to h1 r' c fun x s1 G1 ρ1 g1 c1 r1=>r1.intE (V.int_of h3) fun t=>PyProof.Rows.neg_int (Po.trans g1 (.tok c1.R (.int ..)))))
  | ite t a b p=>exact bd2 h fun d z1 h1 h=>ev_ite Q r' c h1 h
  | comp elt x px it ifs sc p =>
    exact ifbn h fun hq h=>bd2 h fun iv z1 h1 h=>bd2 h fun vs z2 h3 h=>bd1 h fun vs' h5 h=>mp2 h fun rs z3 h7 h=>pr2 (C:=fun v z'=>wpAny (model prog w) A (eval (.ListComp elt [⟨.Name x px,it,ifs,0⟩] sc p) cenv) (Po w.params G ρ s z' v) E s) (show (_,_) = (_,_) from h)
      (have q:=comp_cond hq; comp_eval (tests_of Q.tst r') (elt_of Q.ev r') (compOk_of q.2.1) (Option.isNone_iff_eq_none.mp q.2.2) c.B c.R c.F hh q.1 (fun E=>Q.ev.end h1 r' c) h3 (fit_of h5).2 ((fit_of h5).1 ▸ h7))
  | bad=>exact mt h
end
end Mine
end
section
open PySem PySem.W PySem.Calls PySem.SeqAt PyProof.Rows
set_option maxHeartbeats 1000000
namespace Mine
section
variable {prog:Program} {w:World} {A:Around} {E:Value → Shared → Prop} {s:Shared} {G:Gh} {ρ:Ro} {z z':Zo} {K:Frag} {Pr:Prg} {loose:List S} {mg mb:S → Option Value}
variable {cenv:Env} {ks:Ks} {en:En} {n:Nat}
theorem callF_step (O:POk K Pr) (Q:ExsOk prog w K Pr loose mg mb n):CallFOk prog w K Pr loose mg mb (n + 1):=by
  intro a args z v z' h ys A E s G ρ r B R ra
  exact bd1 h fun fd h1 h=>bd1 h fun e h3 h=>bd1 h fun b hb h=>mp3 h fun fl e' z1 h5 h=>pr2 (C:=fun v z'=>codeAny (model prog w) A (.call (.ref a) ⟨ys,[]⟩) (RP E (Po w.params G ρ s z' v)) s) (show (_,_) = (_,_) from h)
    (callF_core O B R r h1 h3 (bodyS_of hb) rfl ra fun A E cenv s r R F=>Q _ _ _ _ _ _ _ h5 A E s G ρ cenv r B R F)
variable {v:V} {ys:List Value} {args:List V}
theorem orc_sound (oc:OrcOk prog w K Pr loose mg mb) {a:Addr} {F:List V → Option V} (hF:Pr.orc a = some F) (h:orcB Pr n F args z = some (v,z')) (r:Room n A) (B:Base K prog loose mg mb G) (R:ZRel w.params G ρ z s.heap) (ra:ROL w.params G ρ ys args) :
    wpAny (model prog w) A (call (.ref a) ys) (Po w.params G ρ s z' v) E s:=by
  refine ifs h fun hn h=>bd2 h fun ts z1 h1 h=>mp1 h fun u h3 h=>pr2 (C:=fun v z'=>wpAny (model prog w) A (call (.ref a) ys) (Po w.params G ρ s z' v) E s) h ?_
  obtain ⟨G1,g1,R1,r1⟩:=frzs_ok (X:=NoX) h1 R ra
  refine wpAny_mono (oc a F hF ts u h3 ys A E s G1 ρ z1 (r.less hn) (B.mono g1.g) R1 r1) (fun x s1 hx=>?_) fun _ _ h=>h
  obtain ⟨G2,g2,R2,r2⟩:=hx
  exact ⟨G2,ρ,g1.trans g2,R2,RepO.of_rep r2⟩
theorem orb_sound (ob:OrbOk prog w K Pr loose mg mb) {a:Addr} {F:O → List V → Option (V × O)} (hF:Pr.orb a = some F) (h:orbB Pr n F args z = some (v,z')) (r:Room n A) (B:Base K prog loose mg mb G) (R:ZRel w.params G ρ z s.heap) (ra:ROL w.params G ρ ys args) :
    wpAny (model prog w) A (call (.ref a) ys) (Po w.params G ρ s z' v) E s:=by
  refine ifs h fun hn h=>bd2 h fun k rest ho h=>bd2 h fun ts z1 h1 h=>bd1 h fun o h3 h=>ifs h fun hp h=>mp2 h fun u o' h5 h=>pr2 (C:=fun v z'=>wpAny (model prog w) A (call (.ref a) ys) (Po w.params G ρ s z' v) E s) (show (_,_) = (_,_) from h) ?_
  rw [ownHead_of ho] at ra
  refine ra.consE (C:=fun ys=>wpAny (model prog w) A (call (.ref a) ys) _ E s) fun y ys ry rs=>?_
  obtain ⟨p,hk,rfl⟩:=ry
  obtain ⟨G1,g1,R1,r1⟩:=frzs_ok (X:=NoX) h1 R rs
  refine wpAny_mono (ob a F hF o ts u o' h5 hp k p _ A E s G1 ρ z1 (r.less hn) (B.mono g1.g) R1 hk h3 r1) (fun x s1 hx=>?_) fun _ _ h=>h
  obtain ⟨G2,g2,R2,r2⟩:=hx
  exact ⟨G2,ρ,g1.trans g2,R2,RepO.of_rep r2⟩
theorem callV_step (O:POk K Pr) (oc:OrcOk prog w K Pr loose mg mb) (ob:OrbOk prog w K Pr loose mg mb) (Q:CallFOk prog w K Pr loose mg mb n):CallVOk prog w K Pr loose mg mb (n + 1):=by
  intro f args z v z' h ys A E s G ρ r B R ra
  replace h:(match rf? f with | some a=>refB Pr (fs Pr n) n a args z | none=>bcall Pr f args z) = some (v,z'):=h
  cases hr:rf? f with
  | none=>rw [hr] at h; exact bcall_sound O B R r.hd h ra
  | some a =>
    rw [hr] at h
    rw [rf_of hr]
    replace h:refB Pr (fs Pr n) n a args z = some (v,z'):=h
    unfold refB at h
    cases h1:Pr.orc a with
    | some F=>rw [h1] at h; exact orc_sound oc h1 h r.pred B R ra
    | none =>
      rw [h1] at h
      replace h:(match Pr.orb a with | some F=>orbB Pr n F args z | none=>match Pr.cls a with | some c=>makeB (fs Pr n) a c args z | none=>(fs Pr n).callF a args z) = some (v,z'):=h
      cases h2:Pr.orb a with
      | some F=>rw [h2] at h; exact orb_sound ob h2 h r.pred B R ra
      | none =>
        rw [h2] at h
        replace h:(match Pr.cls a with | some c=>makeB (fs Pr n) a c args z | none=>(fs Pr n).callF a args z) = some (v,z'):=h
        cases h3:Pr.cls a with
        | some c =>
          rw [h3] at h
          exact bd2 h fun rr z1 h1 h=>ifb h fun hn h=>so2 (C:=fun v z'=>wpAny (model prog w) A (call (.ref a) ys) (Po w.params G ρ s z' v) E s) h
            (wpAny_call (make_sound O B R r h3 ra fun A E s G ρ ys B r R ra=>Q _ _ _ _ _ (V.nil_of hn ▸ h1) ys A E s G ρ r B R ra))
        | none=>rw [h3] at h; exact wpAny_call (Q _ _ _ _ _ h ys A E s G ρ r.pred B R ra)
theorem exs_step (H:ExOk prog w K Pr loose mg mb n) (Hs:ExsOk prog w K Pr loose mg mb n):ExsOk prog w K Pr loose mg mb (n + 1):=by
  intro ks st e z fl e' z' h A E s G ρ cenv r B R F
  have r':=r.pred
  induction st using List.casesOn with
  | nil=>exact so3 (C:=fun fl e' z'=>wpAny (model prog w) A (execs [] cenv) (PoS w.params cenv ks G ρ s fl e' z') E s) (show some (_,_,_) = some (_,_,_) from h) (wpAny_execs_nil ⟨G,ρ,.refl,R,F,rfl⟩)
  | cons t ts =>
    refine bd3 h fun fl1 e1 z1 h1 h=>wpAny_execs_cons (wpAny_mono (H _ _ _ _ _ _ _ h1 A E s G ρ cenv r' B R F) (fun f s1 hf=>?_) fun _ _ h=>h)
    obtain ⟨G1,ρ1,g1,R1,F1,hfl⟩:=hf
    induction fl1 using Fl.casesOn with
    | next =>
      obtain rfl:f = .next:=hfl
      refine wpAny_mono (Hs _ _ _ _ _ _ _ h A E s1 G1 ρ1 cenv r' (B.mono g1.g) R1 F1) (fun f s2 hf=>?_) fun _ _ h=>h
      obtain ⟨G2,ρ2,g2,R2,F2,hfl⟩:=hf
      exact ⟨G2,ρ2,g1.trans g2,R2,F2,hfl⟩
    | ret u =>
      obtain ⟨x,rfl,rx⟩:=hfl
      exact so3 (C:=fun fl e' z'=>PoS w.params cenv ks G ρ s fl e' z' _ s1) (show some (_,_,_) = some (_,_,_) from h) ⟨G1,ρ1,g1,R1,F1,x,rfl,rx⟩
def AQ (w:World) (cenv:Env) (ks:Ks) (G:Gh) (ρ:Ro) (s:Shared) (e':En) (z':Zo) (s':Shared):Prop:=∃ G' ρ',Grow (XF cenv ks) G ρ s G' ρ' s' ∧ ZRel w.params G' ρ' z' s'.heap ∧ FRel w.params G' ρ' cenv ks e' s'.heap
section
variable {x:Value} {v ov iv:V} {e:En} {z1 z2 z3:Zo} {o i:Expr} {p:Pos}
theorem AQ.of (c:Cx prog w K loose mg mb cenv ks e G ρ z s) {G1 ρ1 s1} (g:Grow NoX G ρ s G1 ρ1 s1) (R:ZRel w.params G1 ρ1 z' s1.heap):AQ w cenv ks G ρ s e z' s1:=⟨G1,ρ1,g.weaken fun _ h=>h.elim,R,c.F.grow0 g⟩
theorem asg_attr (O:POk K Pr) (H:EvOk prog w K Pr loose mg mb n) (r:Room n A) (c:Cx prog w K loose mg mb cenv ks e G ρ z s) (rx:RepO w.params G ρ x v) {a:S} (h1:ev Pr n ks o e z = some (ov,z1)) (h3:setFieldV Pr z1 ov a v = some z2) :
    wpAny (model prog w) A (assign (.Attribute o a p) cenv x) (fun _ s'=>AQ w cenv ks G ρ s e z2 s') E s:=by
  show wpAny _ _ (do
    let ov ← holding [x] (eval o cenv)
    standAt p.atName
    holding [x,ov] (setAttr ov a x)
    release [x,ov] []) _ _ _
  refine wpAny_bind (wpAny_holding (H.to h1 r c fun y s1 G1 ρ1 g1 c1 r1=>wpAny_bind (wpAny_standAt (wpAny_bind (wpAny_holding (wpAny_mono (setField_sound O c1.B c1.R h3 r1 (rx.mono g1.g g1.r)) (fun _ s2 h2=>?_) fun _ _ h=>h))))))
  obtain ⟨G2,ρ2,g2,R2⟩:=h2
  intro Γ pp hΓ
  rw [Sem.wp_release]
  exact AQ.of c (g1.trans g2) R2
theorem asg_item (H:EvOk prog w K Pr loose mg mb n) (r:Room n A) (c:Cx prog w K loose mg mb cenv ks e G ρ z s) (rx:RepO w.params G ρ x v) (h1:ev Pr n ks o e z = some (ov,z1)) (h3:ev Pr n ks i e z1 = some (iv,z2)) (h5:setAtV z2 ov iv v = some z3) :
    wpAny (model prog w) A (assign (.Subscript o i p) cenv x) (fun _ s'=>AQ w cenv ks G ρ s e z3 s') E s:=by
  rw [assign_Subscript]
  refine wpAny_bind (wpAny_holding (H.to h1 r c fun y s1 G1 ρ1 g1 c1 r1=>wpAny_bind (wpAny_holding (H.to h3 r c1 fun y2 s2 G2 ρ2 g2 c2 r2=>wpAny_bind (wpAny_standAt (wpAny_bind (wpAny_holding (wpAny_mono (setAt_sound c2.R h5 (r1.mono g2.g g2.r) r2 ((rx.mono g1.g g1.r).mono g2.g g2.r)) (fun _ s3 h3=>?_) fun _ _ h=>h))))))))
  obtain ⟨G3,ρ3,g3,R3⟩:=h3
  intro Γ pp hΓ
  rw [Sem.wp_release]
  exact AQ.of c ((g1.trans g2).trans g3) R3
end
theorem asg_step (O:POk K Pr) (H:EvOk prog w K Pr loose mg mb n):AsgOk prog w K Pr loose mg mb (n + 1):=by
  intro ks t v e z e' z' h x A E s G ρ cenv r B R F rx
  have r':=r.pred
  have c:Cx prog w K loose mg mb cenv ks e G ρ z s:=⟨B,R,F⟩
  have hh:=r.hd
  show wpAny (model prog w) A (assign t cenv x) (fun _ s'=>AQ w cenv ks G ρ s e' z' s') E s
  replace h:asgB Pr (fs Pr n) ks v e z (viewE t) = some (e',z'):=h
  generalize viewE t = vt at h
  clear B R F r
  induction vt using EV.casesOn with
  | name y p=>exact ifs h fun hy h=>so2 (C:=fun e' z'=>wpAny (model prog w) A (assign (.Name y p) cenv x) (fun _ s'=>AQ w cenv ks G ρ s e' z' s') E s) h (wpAny_assign_Name (wpAny_mono (store_sound c.R c.F hy rx) (fun _ s2 h2=>⟨G,ρ,h2.g,h2.R,h2.F⟩) fun _ _ h=>h))
  | tup ts k p=>exact bd1 h fun vs h1 h=>mp1 h fun e2 h3 h=>pr2 (C:=fun e' z'=>wpAny (model prog w) A (assign (.Tuple ts k p) cenv x) (fun _ s'=>AQ w cenv ks G ρ s e' z' s') E s) h (wpAny_mono (unpack_sound c.R c.F hh h1 h3 rx) (fun _ s2 h2=>⟨G,ρ,h2.g,h2.R,h2.F⟩) fun _ _ h=>h)
  | attr o a p=>exact bd2 h fun ov z1 h1 h=>mp1 h fun z2 h3 h=>pr2 (C:=fun e' z'=>wpAny (model prog w) A (assign (.Attribute o a p) cenv x) (fun _ s'=>AQ w cenv ks G ρ s e' z' s') E s) h (asg_attr O H r' c rx h1 h3)
  | item o i p=>exact bd2 h fun ov z1 h1 h=>bd2 h fun iv z2 h3 h=>mp1 h fun z3 h5 h=>pr2 (C:=fun e' z'=>wpAny (model prog w) A (assign (.Subscript o i p) cenv x) (fun _ s'=>AQ w cenv ks G ρ s e' z' s') E s) h (asg_item H r' c rx h1 h3 h5)
  | _=>exact mt h
theorem swaps_none {x:Expr} {t:Option Expr} {l:Nat} (h:isComp x = false):swapsWith x t l cenv = pure false:=by
  induction x using Expr.casesOn <;> first | rfl | exact ff h.symm
end
end Mine
end
section
open PySem PySem.W PySem.Calls PySem.SeqAt PyProof.Rows
set_option maxHeartbeats 1000000
namespace Mine
section
variable {prog:Program} {w:World} {A:Around} {E:Value → Shared → Prop} {s:Shared} {G:Gh} {ρ:Ro} {z z':Zo} {K:Frag} {Pr:Prg} {loose:List S} {mg mb:S → Option Value}
variable {cenv:Env} {ks:Ks} {en:En} {n:Nat}
theorem assign_go {t x:Expr} {pos:Pos} {Q:Flow → Shared → Prop} (hs:swapsWithSole [t] x pos.line cenv = pure false) (hw:swappedStores [t] x cenv = pure none) (ha:(assignEach [t] cenv).map (·.2) = [assign t cenv])
    (h:wpAny (model prog w) A (eval x cenv) (fun v s₁=>wpAny (model prog w) A (assign t cenv v) (fun _=>Q .next) E s₁) E s):wpAny (model prog w) A (exec (.Assign [t] x pos) cenv) Q E s:=by
  rw [exec_Assign]
  refine wpAny_bind (wpAny_standAt ?_)
  rw [hs]
  refine wpAny_bind (wpAny_pure ?_)
  rw [if_neg (by decide)]
  refine wpAny_bind (wpAny_mono h (fun v s₁ h₁=>?_) fun _ _ x=>x)
  rw [hw]
  refine wpAny_bind (wpAny_pure ?_)
  rw [ha]
  show wpAny _ A (do assignAll v [assign t cenv]; pure .next) Q E s₁
  exact wpAny_bind (wpAny_mono h₁ (fun _ _ x=>wpAny_pure x) fun _ _ x=>x)
section
variable {v:V} {e e2:En} {z1 z2:Zo} {t x:Expr} {p:Pos}
@[elab_as_elim] theorem comp_inv {C:Expr → Prop} (h:ev Pr n ks x e z = some (v,z1)) (hc:isComp x = true)
    (k:∀ elt y px it ifs sc p m,n = m + 1 → evB Pr (fs Pr m) ks e z (EV.comp elt y px it ifs sc p) = some (v,z1) → C (.ListComp elt [⟨.Name y px,it,ifs,0⟩] sc p)):C x:=by
  induction n using Nat.casesOn with
  | zero=>exact mt h
  | succ m =>
    replace h:evB Pr (fs Pr m) ks e z (viewE x) = some (v,z1):=h
    generalize viewE x = vx at h
    induction vx using EV.casesOn with
    | comp elt y px it ifs sc p=>exact k _ _ _ _ _ _ _ m rfl h
    | bad=>exact mt h
    | _=>exact ff hc
@[elab_as_elim] theorem asg_inv {C:Expr → Prop} (h:asg Pr n ks t v e z = some (e2,z1)) (k1:∀ y p,C (.Name y p)) (k2:∀ ts k p,C (.Tuple ts k p)) (k3:∀ o a p,C (.Attribute o a p)) (k4:∀ o i p,C (.Subscript o i p)):C t:=by
  induction n using Nat.casesOn with
  | zero=>exact mt h
  | succ m =>
    replace h:asgB Pr (fs Pr m) ks v e z (viewE t) = some (e2,z1):=h
    generalize viewE t = vt at h
    induction vt using EV.casesOn with
    | name y p=>exact k1 _ _
    | tup ts k p=>exact k2 _ _ _
    | attr o a p=>exact k3 _ _ _
    | item o i p=>exact k4 _ _ _
    | _=>exact mt h
theorem not_tup {ts:List Expr} {k:Nat} (h:isTup x = false):swappedStores [.Tuple ts k p] x cenv = pure none:=by
  induction x using Expr.casesOn <;> first | rfl | exact ff h.symm
theorem asg_go (q:AllOk prog w K Pr loose mg mb n) (r:Room n A) (c:Cx prog w K loose mg mb cenv ks e G ρ z s) (h1:ev Pr n ks x e z = some (v,z1)) (h3:asg Pr n ks t v e z1 = some (e2,z2))
    (a1:swapsWithSole [t] x p.line cenv = pure false) (a2:swappedStores [t] x cenv = pure none) (a3:(assignEach [t] cenv).map (·.2) = [assign t cenv]):wpAny (model prog w) A (exec (.Assign [t] x p) cenv) (PoS w.params cenv ks G ρ s .next e2 z2) E s:=by
  refine assign_go a1 a2 a3 (q.ev.to h1 r c fun y s1 G1 ρ1 g1 c1 r1=>wpAny_mono (q.asg _ _ _ _ _ _ _ h3 y A E s1 G1 ρ1 cenv r c1.B c1.R c1.F r1) (fun _ s2 h2=>?_) fun _ _ h=>h)
  obtain ⟨G2,ρ2,g2,R2,F2⟩:=h2
  exact ⟨G2,ρ2,(g1.weaken fun _ h=>h.elim).trans g2,R2,F2,rfl⟩
theorem ex_asg (Q:∀ m,m ≤ n → AllOk prog w K Pr loose mg mb m) (r:Room n A) (c:Cx prog w K loose mg mb cenv ks e G ρ z s) (hne:(isTup t && isTup x) = false) (h1:ev Pr n ks x e z = some (v,z1)) (h3:asg Pr n ks t v e z1 = some (e2,z2)) :
    wpAny (model prog w) A (exec (.Assign [t] x p) cenv) (PoS w.params cenv ks G ρ s .next e2 z2) E s:=by
  have q:=Q n (Nat.le_refl _)
  have gen:=asg_go (E:=E) (p:=p) q r c h1 h3
  cases hx:isComp x with
  | false =>
    have hs:∀ t,swapsWithSole [t] x p.line cenv = pure false:=fun t=>swaps_none (t:=some t) hx
    clear Q q r c h1 hx
    revert gen hne
    refine asg_inv (C:=fun t=>(isTup t && isTup x) = false → (swapsWithSole [t] x p.line cenv = pure false → swappedStores [t] x cenv = pure none → (assignEach [t] cenv).map (·.2) = [assign t cenv] → wpAny (model prog w) A (exec (.Assign [t] x p) cenv) (PoS w.params cenv ks G ρ s .next e2 z2) E s) → wpAny (model prog w) A (exec (.Assign [t] x p) cenv) (PoS w.params cenv ks G ρ s .next e2 z2) E s) h3
      (fun y py hne gen=>gen (hs _) rfl rfl) (fun ts k p hne gen=>gen (hs _) (not_tup hne) rfl) (fun _ _ _ _ gen=>gen (hs _) rfl rfl) fun _ _ _ _ gen=>gen (hs _) rfl rfl
  | true =>
    clear hne
    revert gen
    refine comp_inv (C:=fun x=>(swapsWithSole [t] x p.line cenv = pure false → swappedStores [t] x cenv = pure none → (assignEach [t] cenv).map (·.2) = [assign t cenv] → wpAny (model prog w) A (exec (.Assign [t] x p) cenv) (PoS w.params cenv ks G ρ s .next e2 z2) E s) → wpAny (model prog w) A (exec (.Assign [t] x p) cenv) (PoS w.params cenv ks G ρ s .next e2 z2) E s) h1 hx fun elt y px it il sc pc m hn hb gen=>?_
    subst hn
    revert gen
    refine asg_inv (C:=fun t=>asg Pr (m + 1) ks t v e z1 = some (e2,z2) → (swapsWithSole [t] (.ListComp elt [⟨.Name y px,it,il,0⟩] sc pc) p.line cenv = pure false → swappedStores [t] (.ListComp elt [⟨.Name y px,it,il,0⟩] sc pc) cenv = pure none → (assignEach [t] cenv).map (·.2) = [assign t cenv] →
        wpAny (model prog w) A (exec (.Assign [t] (.ListComp elt [⟨.Name y px,it,il,0⟩] sc pc) p) cenv) (PoS w.params cenv ks G ρ s .next e2 z2) E s) → wpAny (model prog w) A (exec (.Assign [t] (.ListComp elt [⟨.Name y px,it,il,0⟩] sc pc) p) cenv) (PoS w.params cenv ks G ρ s .next e2 z2) E s) h3
      (fun y2 py h3 _=>?_) (fun _ _ _ _ gen=>gen rfl rfl rfl) (fun _ _ _ _ gen=>gen rfl rfl rfl) (fun _ _ _ _ gen=>gen rfl rfl rfl) h3
    have q':=Q m (Nat.le_succ m)
    exact ifbn hb fun hq h=>bd2 h fun iv z1 h1' h=>bd2 h fun vs z2 h3' h=>bd1 h fun vs' h5 h=>mp2 h fun rs z3 h7 h=>pr2 (C:=fun v z1=>asg Pr (m + 1) ks (.Name y2 py) v e z1 = some (e2,_) → _) (show (_,_) = (_,_) from h)
      (fun h3=>ifs h3 fun hy h3=>so2 (C:=fun e2 z2=>wpAny (model prog w) A (exec (.Assign [.Name y2 py] (.ListComp elt [⟨.Name y px,it,il,0⟩] sc pc) p) cenv) (PoS w.params cenv ks G ρ s .next e2 z2) E s) h3
        (have q:=comp_cond hq; comp_assign (tests_of q'.tst r.pred) (elt_of q'.ev r.pred) (compOk_of q.2.1) (Option.isNone_iff_eq_none.mp q.2.2) c.B c.R c.F r.hd q.1 (fun E=>q'.ev.end h1' r.pred c) h3' (fit_of h5).2 ((fit_of h5).1 ▸ h7) hy)) h3
theorem ex_aug (q:AllOk prog w K Pr loose mg mb n) (r:Room n A) (c:Cx prog w K loose mg mb cenv ks e G ρ z s) {x:S} {px:Pos} {y:Expr} {i j:Int} (ha:augV ks x e = some i) (h1:ev Pr n ks y e z = some (v,z1)) (hj:v.int? = some j) :
    wpAny (model prog w) A (exec (.AugAssign (.Name x px) .Add y p) cenv) (PoS w.params cenv ks G ρ s .next (setE x (.int (i + j)) e) z1) E s:=by
  refine ifs ha fun hl ha=>bd1 ha fun u he hi=>?_
  obtain ⟨m,hn,hm⟩:=c.F.ns
  obtain ⟨u,hu,ru⟩:=hm x _ hl he
  obtain ⟨tk,rfl⟩:=RepO.int_inv (V.int_of hi ▸ ru)
  refine wpAny_AugAssign_Name (wpAny_loadName_local c.F.kind (by unfold Env.kindOf; rw [c.F.names]; exact hl) hn hu (q.ev.to h1 r c fun yv s1 G1 ρ1 g1 c1 r1=>r1.intE (V.int_of hj) fun t=>PyProof.Rows.iadd_int ?_))
  refine wpAny_mono (store_sound (s:={ s1 with toks:=s1.toks + 1 }) c1.R c1.F (.inl hl) (RepO.int (i + j) s1.toks)) (fun _ s2 h2=>?_) fun _ _ h=>h
  exact ⟨G1,ρ1,((g1.weaken fun _ h=>h.elim).trans (.pure (s':={ s1 with toks:=s1.toks + 1 }) ⟨_,_,rfl⟩ fun _ _ e=>e)).trans h2.g,h2.R,h2.F,rfl⟩
theorem PoS.up {G1 ρ1 s1} {fl:Fl} {m:Sem Flow} (g:Grow NoX G ρ s G1 ρ1 s1) (h:wpAny (model prog w) A m (PoS w.params cenv ks G1 ρ1 s1 fl e z) E s1):wpAny (model prog w) A m (PoS w.params cenv ks G ρ s fl e z) E s1 :=
  wpAny_mono h (fun f s2 h2=>by obtain ⟨G2,ρ2,g2,R2,F2,hf⟩:=h2; exact ⟨G2,ρ2,(g.weaken fun _ h=>h.elim).trans g2,R2,F2,hf⟩) fun _ _ h=>h
theorem ex_ite (q:AllOk prog w K Pr loose mg mb n) (r:Room n A) (c:Cx prog w K loose mg mb cenv ks e G ρ z s) {a b:List Stmt} {d:Bool} {fl:Fl} (h1:tst Pr n ks t e z = some (d,z1)) (h2:(if d = true then exs Pr n ks a e z1 else exs Pr n ks b e z1) = some (fl,e2,z2)) :
    wpAny (model prog w) A (exec (.If t a b p) cenv) (PoS w.params cenv ks G ρ s fl e2 z2) E s:=by
  refine wpAny_If (q.tst.to h1 r c fun s1 G1 ρ1 g1 c1=>?_)
  induction d using Bool.casesOn with
  | true=>exact PoS.up g1 (q.exs _ _ _ _ _ _ _ h2 A E s1 G1 ρ1 cenv r c1.B c1.R c1.F)
  | false=>exact PoS.up g1 (q.exs _ _ _ _ _ _ _ h2 A E s1 G1 ρ1 cenv r c1.B c1.R c1.F)
theorem ex_for (q:AllOk prog w K Pr loose mg mb n) (r:Room n A) (c:Cx prog w K loose mg mb cenv ks e G ρ z s) {x:S} {px:Pos} {it:Expr} {b:List Stmt} {iv:V} {vs:List V} {fl:Fl} {z3:Zo} (hset:isSet it = false) (h1:ev Pr n ks it e z = some (iv,z1)) (h3:iterOf iv z1 = some (vs,z2))
    (hx:ks.lookup x = some .local ∨ ks.lookup x = some .cell) (h4:forL (fun v e z=>exs Pr n ks b (setE x v e) z) vs e z2 = some (fl,e2,z3)):wpAny (model prog w) A (exec (.For (.Name x px) it b [] p) cenv) (PoS w.params cenv ks G ρ s fl e2 z3) E s:=by
  refine wpAny_For (q.ev.to h1 r c fun y s1 G1 ρ1 g1 c1 r1=>?_) (notSet hset)
  refine wpAny_mono (for_core (px:=px) (f:=fun e z=>exs Pr n ks b e z) (fun E G ρ s e z fl e' z' h B R F=>q.exs _ _ _ _ _ _ _ h A E s G ρ cenv r B R F) hx c1.B c1.R c1.F r.hd h3 r1 h4 (fun e s'=>cameBackBy (model prog w) A cenv E e s')) (fun it' s2 h2=>codeAny_mono h2 fun rr s' hr=>?_) fun _ _ h=>h
  rcases rr with er | f
  · exact hr
  · obtain ⟨G2,ρ2,g2,R2,F2,hf⟩:=hr
    exact ⟨G2,ρ2,(g1.weaken fun _ h=>h.elim).trans g2,R2,F2,hf⟩
end
theorem ex_step (Q:∀ m,m ≤ n → AllOk prog w K Pr loose mg mb m):ExOk prog w K Pr loose mg mb (n + 1):=by
  intro ks st e z fl e' z' h A E s G ρ cenv r B R F
  have r':=r.pred
  have q:=Q n (Nat.le_refl _)
  have c:Cx prog w K loose mg mb cenv ks e G ρ z s:=⟨B,R,F⟩
  replace h:exB (fs Pr n) ks e z (viewT st) = some (fl,e',z'):=h
  generalize viewT st = vs at h
  clear B R F r
  induction vs using SV.casesOn with
  | expr x p =>
    refine ifbn h fun hc h=>mp2 h fun v z1 h1 h=>pr3 (C:=fun fl e' z'=>wpAny (model prog w) A (exec (.Expr x p) cenv) (PoS w.params cenv ks G ρ s fl e' z') E s) (show (_,_,_) = (_,_,_) from h) ?_
    rw [exec_Expr cenv x p (by unfold interactive; rw [c.F.kind]; rfl) (swaps_none hc)]
    exact wpAny_bind (wpAny_standAt (wpAny_bind (q.ev.to h1 r' c fun y s1 G1 ρ1 g1 c1 r1=>dropValue_sound ⟨G1,ρ1,g1.weaken fun _ h=>h.elim,c1.R,c1.F,rfl⟩)))
  | retS x p=>exact mp2 h fun v z1 h1 h=>pr3 (C:=fun fl e' z'=>wpAny (model prog w) A (exec (.Return (some x) p) cenv) (PoS w.params cenv ks G ρ s fl e' z') E s) (show (_,_,_) = (_,_,_) from h) (wpAny_Return_some (q.ev.to h1 r' c fun y s1 G1 ρ1 g1 c1 r1=>⟨G1,ρ1,g1.weaken fun _ h=>h.elim,c1.R,c1.F,y,rfl,r1⟩))
  | ret p=>exact so3 (C:=fun fl e' z'=>wpAny (model prog w) A (exec (.Return none p) cenv) (PoS w.params cenv ks G ρ s fl e' z') E s) h (wpAny_Return_none ⟨G,ρ,.refl,c.R,c.F,.none,rfl,.none⟩)
  | asg t x p=>exact ifbn h fun hne h=>bd2 h fun v z1 h1 h=>mp2 h fun e2 z2 h3 h=>pr3 (C:=fun fl e' z'=>wpAny (model prog w) A (exec (.Assign [t] x p) cenv) (PoS w.params cenv ks G ρ s fl e' z') E s) (show (_,_,_) = (_,_,_) from h) (ex_asg Q r' c hne h1 h3)
  | aug x px y p=>exact bd1 h fun i ha h=>bd2 h fun v z1 h1 h=>mp1 h fun j hj h=>pr3 (C:=fun fl e' z'=>wpAny (model prog w) A (exec (.AugAssign (.Name x px) .Add y p) cenv) (PoS w.params cenv ks G ρ s fl e' z') E s) (show (_,_,_) = (_,_,_) from h) (ex_aug q r' c ha h1 hj)
  | ite t a b p=>exact bd2 h fun d z1 h1 h=>ex_ite q r' c h1 h
  | whl t b p=>exact wpAny_While (codeAny_mono (while_core (fun E G ρ s e z b z' h B R F=>q.tst _ _ _ _ _ _ h A E s G ρ cenv r' B R F) (fun E G ρ s e z fl e' z' h B R F=>q.exs _ _ _ _ _ _ _ h A E s G ρ cenv r' B R F) c.B c.R c.F h (fun e s'=>cameBackBy (model prog w) A cenv E e s')) fun _ _ h=>h)
  | each x px it b p=>exact ifbn h fun hs h=>bd2 h fun iv z1 h1 h=>bd2 h fun vs z2 h3 h=>ifs h fun hx h=>ex_for q r' c hs h1 h3 hx h
  | bad=>exact mt h
theorem all_ok (O:POk K Pr) (oc:OrcOk prog w K Pr loose mg mb) (ob:OrbOk prog w K Pr loose mg mb) (n:Nat):∀ m,m ≤ n → AllOk prog w K Pr loose mg mb m:=by
  induction n with
  | zero =>
    intro m hm
    rw [Nat.le_zero.mp hm]
    exact ⟨fun _ _ _ _ _ _ h=>mt h,fun _ _ _ _ _ _ h=>mt h,fun _ _ _ _ _ _ h=>mt h,fun _ _ _ _ _ _ h=>mt h,fun _ _ _ _ _ _ _ h=>mt h,fun _ _ _ _ _ _ h=>mt h,fun _ _ _ _ _ _ _ h=>mt h,fun _ _ _ _ _ h=>mt h,fun _ _ _ _ _ h=>mt h,fun _ _ _ _ _ _ _ h=>mt h,fun _ _ _ _ _ _ _ h=>mt h,fun _ _ _ _ _ _ _ h=>mt h⟩
  | succ n ih =>
    intro m hm
    rcases Nat.lt_or_ge m (n + 1) with h | h
    · exact ih m (Nat.le_of_lt_succ h)
    · rw [Nat.le_antisymm hm h]
      have q:=ih n (Nat.le_refl _)
      exact ⟨ev_step O q,evo_step q.ev,evs_step q.ev q.evs,prs_step q.ev q.prs,evb_step q.ev q.evb,tst_step q.ev q.tst q.tsts,tsts_step q.tst q.tsts,callV_step O oc ob q.callF,callF_step O q.exs,ex_step ih,exs_step q.ex q.exs,asg_step O q.ev⟩
end
end Mine
end
section
open PySem PySem.W PySem.Calls PyProof.Rows
namespace Mine
section
variable {w:Params} {G G':Gh} {ρ ρ₁:Ro} {z z₁:Zo} {s s':Shared}
theorem noFp {a:Addr}:¬ Fp [] a:=fun ⟨_,h,_⟩=>nomatch h
theorem frame0 (R:ZRel w G ρ z s.heap) (g:Grow NoX G [] s G' ρ₁ s') (R':ZRel w G' ρ₁ z₁ s'.heap):Grow NoX G ρ s G' ρ s' ∧ ZRel w G' ρ z s'.heap:=by
  have hk:∀ b o,s.heap.get? b = some o → s'.heap.get? b = some o:=fun b o e=>g.fr b o e noFp id
  have gf:∀ a o,G' a = some o → G a = some o ∨ s.heap.get? a = none:=fun a o e=>by
    rcases g.gf a o e with h | h | h
    · exact .inl h
    · exact .inr h
    · exact absurd h noFp
  have R1:=R.keeps hk
  have gn:∀ a,Fp ρ a → G a = none → G' a = none:=fun a hf hg=>by
    cases e:G' a with
    | none=>rfl
    | some x =>
      rcases gf a x e with h | h
      · rw [hg] at h; cases h
      · have:=R.live a hf; rw [h] at this; cases this
  refine ⟨⟨g.g,⟨[],by simp⟩,fun a o e=>(gf a o e).imp id .inl,fun _ h=>.inl h,fun b o e _ _=>hk b o e,g.al,g.st⟩,
    R1.len,R'.keep,fun k p o hp ho=>(R1.obj k p o hp ho).mono g.g ⟨[],by simp⟩ fun _=>⟨rfl,rfl⟩,fun k p o hp ho hm=>?_,R1.inj,R1.live⟩
  have q:=R.new k p o hp ho hm
  exact ⟨gn _ (Fp.of hp).1 q.1,gn _ (Fp.of hp).2 q.2⟩
theorem zrel0 (R:ZRel w G ρ z s.heap):ZRel w G [] [] s.heap :=
  ⟨rfl,R.keep,fun k p o h=>by simp at h,fun k p o h=>by simp at h,fun i j p q oi oj _ h=>by simp at h,fun a h=>absurd h noFp⟩
end
noncomputable def runO (P:Prg) (n:Nat) (a:Addr) (ts:List V):Option V:=(callV P n (.fn (.ref a)) ts []).bind fun (v,z1)=>(frz v z1).map (·.1)
theorem runO_ok {prog:Program} {w:World} {K:Frag} {P:Prg} {loose:List S} {mg mb:S → Option Value} {n:Nat} (H:AllOk prog w K P loose mg mb n) {a:Addr} {ts:List V} {t:V} (h:runO P n a ts = some t)
    {ys:List Value} {A:Around} {E:Value → Shared → Prop} {s:Shared} {G:Gh} {ρ:Ro} {z:Zo} (rm:Room n A) (B:Base K prog loose mg mb G) (R:ZRel w.params G ρ z s.heap) (r:RepL w.params G ys ts) :
    wpAny (model prog w) A (call (.ref a) ys) (fun x s'=>∃ G',Grow NoX G ρ s G' ρ s' ∧ ZRel w.params G' ρ z s'.heap ∧ Rep w.params G' x t) E s:=by
  refine bd2 h fun v z1 h1 h2=>mp2 h2 fun t' z2 h3 e=>wpAny_mono (H.callV (.ref a) ts [] v z1 h1 ys A E s G [] rm B (zrel0 R) (ROL.of_rep r)) (fun x s' hp=>?_) fun _ _ h=>h
  obtain ⟨G1,ρ1,g,R1,rv⟩:=hp
  obtain ⟨G2,g2,R2,rt⟩:=frz_ok (X:=NoX) h3 R1 rv
  have q:=frame0 R (g.trans g2) R2
  exact ⟨G2,q.1,q.2,e ▸ rt⟩
end Mine
end
section
open PySem PySem.W PyProof.Rows
namespace Mine
inductive An:Type 1
  | a (t:Nat) (v:V)
  | az (t:Nat) (v:V) (z:Zo)
  | call (nb:Nat) (v:V)
  | orb (nb:Nat) (v:V) (o:O)
  | b (t:Nat) (b:Bool)
  | it (vs:List V) (z:Zo)
  | cm (t:Bool) {α:Type} (xs:List α) (f:α → V) (g:α → Option V) (as:α → List An)
  | loop {α:Type} (xs:List α) (f:α → V) (last:α) (st:List α → En × Zo) (as:List α → α → List An)
  | loop1 {α:Type} (v:V) (as1:List An) (xs:List α) (f:α → V) (st:List α → En × Zo) (as:List α → α → List An)
  | skip
noncomputable abbrev As:=List An
noncomputable abbrev An.pr:=An.az 0
noncomputable abbrev An.prA:=An.a 0
noncomputable abbrev An.mc:=An.az 1
noncomputable abbrev An.mcA:=An.a 1
noncomputable abbrev An.bin:=An.az 2
noncomputable abbrev An.binA:=An.a 2
noncomputable abbrev An.fz:=An.az 3
noncomputable abbrev An.fzA:=An.a 3
noncomputable abbrev An.item:=An.a 4
noncomputable abbrev An.itemA:=An.a 5
noncomputable abbrev An.val:=An.a 6
noncomputable abbrev An.valz:=An.az 6
noncomputable abbrev An.cmp:=An.b 0
noncomputable abbrev An.cmpA:=An.b 1
noncomputable abbrev An.cmpD:=An.b 2
noncomputable abbrev An.comp {α:Type}:=An.cm (α:=α) false
noncomputable abbrev An.compA {α:Type}:=An.cm (α:=α) true
noncomputable abbrev KV:=V → Zo → As → Prop
noncomputable abbrev KF:=Fl → En → Zo → As → Prop
noncomputable def Calls (P:Prg) (a:Addr) (ts:List V) (r:V):Prop:=∀ n z args z1,P.need < n → frzs args z = some (ts,z1) → callV P n (.fn (.ref a)) args z = some (r,z1)
noncomputable def CallsB (P:Prg) (nb:Nat) (a:Addr) (ts:List V) (r:V):Prop:=P.need ≤ nb ∧ Calls P a ts r
noncomputable def CallsO (P:Prg) (nb:Nat) (a:Addr) (o:O) (ts:List V) (r:V) (o':O):Prop:=P.need ≤ nb ∧ ∀ n z k rest z1,P.need < n → frzs rest z = some (ts,z1) → z1[k]? = some o → callV P n (.fn (.ref a)) (.own k :: rest) z = some (r,z1.set k o')
noncomputable def runW {α:Type} (o:Option (α × Zo)) (k:α → Zo → As → Prop) (as:As):Prop:=match o with
  | some q=>k q.1 q.2 as
  | none=>False
noncomputable def ask (t:Nat) (sk:Bool) (p:Zo → Option (V × Zo)) (z:Zo) (as:As) (k:KV):Prop:=match as with
  | []=>runW (p z) k []
  | x :: r=>match x with
    | .a u v=>if u = t then (∀ z0,p z0 = some (v,z0)) ∧ k v z r else runW (p z) k (x :: r)
    | .az u v z'=>if u = t then p z = some (v,z') ∧ k v z' r else runW (p z) k (x :: r)
    | .call _ _=>runW (p z) k (x :: r)
    | .orb _ _ _=>runW (p z) k (x :: r)
    | .b _ _=>runW (p z) k (x :: r)
    | .it _ _=>runW (p z) k (x :: r)
    | .cm _ _ _ _ _=>runW (p z) k (x :: r)
    | .loop _ _ _ _ _=>runW (p z) k (x :: r)
    | .loop1 _ _ _ _ _ _=>runW (p z) k (x :: r)
    | .skip=>if sk then runW (p z) k r else runW (p z) k (x :: r)
noncomputable def opt {α:Type} (p:Option α) (k:α → Prop):Prop:=match p with
  | some a=>k a
  | none=>False
noncomputable def askN (p:Zo → Option V) (z:Zo) (as:As) (k:V → As → Prop):Prop:=match as with
  | []=>opt (p z) fun v=>k v []
  | x :: r=>match x with
    | .a u v=>if u = 4 then p z = some v ∧ k v r else if u = 5 then (∀ z0,p z0 = some v) ∧ k v r else opt (p z) fun v=>k v (x :: r)
    | .az _ _ _=>opt (p z) fun v=>k v (x :: r)
    | .call _ _=>opt (p z) fun v=>k v (x :: r)
    | .orb _ _ _=>opt (p z) fun v=>k v (x :: r)
    | .b _ _=>opt (p z) fun v=>k v (x :: r)
    | .it _ _=>opt (p z) fun v=>k v (x :: r)
    | .cm _ _ _ _ _=>opt (p z) fun v=>k v (x :: r)
    | .loop _ _ _ _ _=>opt (p z) fun v=>k v (x :: r)
    | .loop1 _ _ _ _ _ _=>opt (p z) fun v=>k v (x :: r)
    | .skip=>opt (p z) fun v=>k v (x :: r)
noncomputable def deref (z:Zo) (v:V):V:=match v.own? with
  | some k=>(match (z[k]?).bind O.lst? with
    | some vs=>.list vs
    | none=>.own k)
  | none=>v
noncomputable def askC (op:CmpOp) (a b:V) (z:Zo) (as:As) (k:Bool → As → Prop):Prop:=match as with
  | []=>opt (cmpV z op a b) fun v=>k v []
  | x :: r=>match x with
    | .a _ _=>opt (cmpV z op a b) fun v=>k v (x :: r)
    | .az _ _ _=>opt (cmpV z op a b) fun v=>k v (x :: r)
    | .call _ _=>opt (cmpV z op a b) fun v=>k v (x :: r)
    | .orb _ _ _=>opt (cmpV z op a b) fun v=>k v (x :: r)
    | .b u c=>if u = 0 then cmpV z op a b = some c ∧ k c r else if u = 1 then (∀ z0,cmpV z0 op a b = some c) ∧ k c r else (∀ z0,cmpV z0 op (deref z a) (deref z b) = some c) ∧ k c r
    | .it _ _=>opt (cmpV z op a b) fun v=>k v (x :: r)
    | .cm _ _ _ _ _=>opt (cmpV z op a b) fun v=>k v (x :: r)
    | .loop _ _ _ _ _=>opt (cmpV z op a b) fun v=>k v (x :: r)
    | .loop1 _ _ _ _ _ _=>opt (cmpV z op a b) fun v=>k v (x :: r)
    | .skip=>opt (cmpV z op a b) fun v=>k v r
noncomputable def askI (p:Option (List V × Zo)) (as:As) (k:List V → Zo → As → Prop):Prop:=match as with
  | []=>runW p k []
  | x :: r=>match x with
    | .a _ _=>runW p k (x :: r)
    | .az _ _ _=>runW p k (x :: r)
    | .call _ _=>runW p k (x :: r)
    | .orb _ _ _=>runW p k (x :: r)
    | .b _ _=>runW p k (x :: r)
    | .it vs z'=>p = some (vs,z') ∧ k vs z' r
    | .cm _ _ _ _ _=>runW p k (x :: r)
    | .loop _ _ _ _ _=>runW p k (x :: r)
    | .loop1 _ _ _ _ _ _=>runW p k (x :: r)
    | .skip=>runW p k (x :: r)
noncomputable def compLW (f:V → Zo → As → (Option V → Zo → As → Prop) → Prop):List V → Zo → As → (List V → Zo → As → Prop) → Prop
  | [],z,as,k=>k [] z as
  | v :: vs,z,as,k=>f v z as fun r z1 as1=>compLW f vs z1 as1 fun rs z2 as2=>k (match r with | some x=>x :: rs | none=>rs) z2 as2
noncomputable def forLW (f:V → En → Zo → As → KF → Prop):List V → En → Zo → As → KF → Prop
  | [],e,z,as,k=>k .next e z as
  | v :: vs,e,z,as,k=>f v e z as fun fl e1 z1 as1=>match fl with | .next=>forLW f vs e1 z1 as1 k | .ret r=>k (.ret r) e1 z1 as1
noncomputable def whileLW (t:En → Zo → As → (Bool → Zo → As → Prop) → Prop) (f:En → Zo → As → KF → Prop):Nat → En → Zo → As → KF → Prop
  | 0,_,_,_,_=>False
  | n + 1,e,z,as,k=>t e z as fun b z1 as1=>match b with
    | true=>f e z1 as1 fun fl e1 z2 as2=>(match fl with | .next=>whileLW t f n e1 z2 as2 k | .ret r=>k (.ret r) e1 z2 as2)
    | false=>k .next e z1 as1
noncomputable def compDo (f:V → Zo → As → (Option V → Zo → As → Prop) → Prop) (vs:List V) (z:Zo) (as:As) (k:List V → Zo → As → Prop):Prop:=opt (fit vs) fun vs=>compLW f vs z as k
noncomputable def compAns (f:V → Zo → As → (Option V → Zo → As → Prop) → Prop) (vs:List V) (z:Zo) (as:As) (k:List V → Zo → As → Prop):Prop:=match as with
  | []=>compDo f vs z [] k
  | x :: r=>match x with
    | .a _ _=>compDo f vs z (x :: r) k
    | .az _ _ _=>compDo f vs z (x :: r) k
    | .call _ _=>compDo f vs z (x :: r) k
    | .orb _ _ _=>compDo f vs z (x :: r) k
    | .b _ _=>compDo f vs z (x :: r) k
    | .it _ _=>compDo f vs z (x :: r) k
    | .cm t xs h g asf=>(match t with
      | false=>vs = xs.map h ∧ (∀ x ∈ xs,f (h x) z (asf x) fun r z' _=>r = g x ∧ z' = z) ∧ vs.length ≤ lineMax ∧ k (xs.filterMap g) z r
      | true=>vs = xs.map h ∧ (∀ x ∈ xs,∀ z0,f (h x) z0 (asf x) fun r z' _=>r = g x ∧ z' = z0) ∧ vs.length ≤ lineMax ∧ k (xs.filterMap g) z r)
    | .loop _ _ _ _ _=>compDo f vs z (x :: r) k
    | .loop1 _ _ _ _ _ _=>compDo f vs z (x :: r) k
    | .skip=>compDo f vs z (x :: r) k
noncomputable def forAns (X:S) (f:En → Zo → As → KF → Prop) (vs:List V) (e:En) (z:Zo) (as:As) (k:KF):Prop:=match as with
  | []=>forLW (fun v e z as k=>f (setE X v e) z as k) vs e z [] k
  | x :: r=>match x with
    | .a _ _=>forLW (fun v e z as k=>f (setE X v e) z as k) vs e z (x :: r) k
    | .az _ _ _=>forLW (fun v e z as k=>f (setE X v e) z as k) vs e z (x :: r) k
    | .call _ _=>forLW (fun v e z as k=>f (setE X v e) z as k) vs e z (x :: r) k
    | .orb _ _ _=>forLW (fun v e z as k=>f (setE X v e) z as k) vs e z (x :: r) k
    | .b _ _=>forLW (fun v e z as k=>f (setE X v e) z as k) vs e z (x :: r) k
    | .it _ _=>forLW (fun v e z as k=>f (setE X v e) z as k) vs e z (x :: r) k
    | .cm _ _ _ _ _=>forLW (fun v e z as k=>f (setE X v e) z as k) vs e z (x :: r) k
    | .loop xs h last st asf=>vs = xs.map h ∧ xs.getLast? = some last ∧ (st [] = (e,z)) ∧ (∀ pre,((st pre).1.lookup X).isNone = true) ∧
        (∀ pre x post,xs = pre ++ x :: post → f ((st pre).1 ++ [(X,h x)]) (st pre).2 (asf pre x) fun fl e' z' _=>match fl with | .next=>(e',z') = ((st (pre ++ [x])).1 ++ [(X,h x)],(st (pre ++ [x])).2) | .ret _=>False) ∧
        k .next ((st xs).1 ++ [(X,h last)]) (st xs).2 r
    | .loop1 v as1 xs h st asf=>vs = v :: xs.map h ∧ (f (setE X v e) z as1 fun fl e' z' _=>match fl with | .next=>(e',z') = st [] | .ret _=>False) ∧
        (∀ pre x post,xs = pre ++ x :: post → f (setE X (h x) (st pre).1) (st pre).2 (asf pre x) fun fl e' z' _=>match fl with | .next=>(e',z') = st (pre ++ [x]) | .ret _=>False) ∧ k .next (st xs).1 (st xs).2 r
    | .skip=>forLW (fun v e z as k=>f (setE X v e) z as k) vs e z (x :: r) k
structure FW where
  ev:Ks → Expr → En → Zo → As → KV → Prop
  evo:Ks → Option Expr → En → Zo → As → KV → Prop
  evs:Ks → List Expr → En → Zo → As → (List V → Zo → As → Prop) → Prop
  evb:Ks → BoolOp → List Expr → En → Zo → As → KV → Prop
  tst:Ks → Expr → En → Zo → As → (Bool → Zo → As → Prop) → Prop
  tsts:Ks → BoolOp → List Expr → En → Zo → As → (Bool → Zo → As → Prop) → Prop
  callV:V → List V → Zo → As → KV → Prop
  callF:Addr → List V → Zo → As → KV → Prop
  ex:Ks → Stmt → En → Zo → As → KF → Prop
  asg:Ks → Expr → V → En → Zo → As → (En → Zo → As → Prop) → Prop
  exs:Ks → List Stmt → En → Zo → As → KF → Prop
noncomputable def methW (P:Prg) (f:FW) (ks:Ks) (a:S) (args:List Expr) (e:En) (ov:V) (z1:Zo) (as:As) (k:KV):Prop:=match asInst z1 ov with
  | some q=>opt (P.cls q.1) fun c=>opt (c.meths.lookup a) fun m=>if q.2.any (·.1 == a) then False else f.evs ks args e z1 as fun vs z2 as2=>f.callV (.fn (.ref m)) (ov :: vs) z2 as2 k
  | none=>opt (meth z1 ov a) fun id=>f.evs ks args e z1 as fun vs z2 as2=>ask 1 false (fun z0=>mcall id ov vs z0) z2 as2 k
noncomputable def ifsW (f:FW) (ks:Ks) (il:List Expr) (e:En) (z:Zo) (as:As) (k:Bool → Zo → As → Prop):Prop:=match il with
  | []=>k true z as
  | c :: r=>if r.isEmpty then f.tst ks c e z as k else False
noncomputable def evWB (P:Prg) (f:FW) (ks:Ks) (e:En) (z:Zo) (as:As) (k:KV) {x:Expr} (v:EV x):Prop:=match v with
  | .const c _ _=>opt (constV c) fun v=>k v z as
  | .name x _=>if x = "__debug__" then False else runW (nameV P ks x e z) k as
  | .tup es _ _=>f.evs ks es e z as fun vs z1 as1=>ask 3 false (fun z0=>(frzs vs z0).bind fun (ts,z2)=>(fit ts).map fun ts=>(.tup ts,z2)) z1 as1 k
  | .list es _=>f.evs ks es e z as fun vs z1 as1=>opt (fit vs) fun vs=>k (.own z1.length) (z1 ++ [.list vs]) as1
  | .dict kk vv _=>opt (kk.mapM strKey) fun names=>f.evs ks vv e z as fun vs z1 as1 =>
      if names.length = vs.length && namesOk names then k (.own z1.length) (z1 ++ [.dict (names.zip vs)]) as1 else False
  | .attr o a _=>if noSuper o then f.ev ks o e z as fun ov z1 as1=>runW (attrV P z1 ov a) k as1 else False
  | .slice o l u s _ _=>f.ev ks o e z as fun ov z1 as1=>f.evo ks l e z1 as1 fun lv z2 as2=>f.evo ks u e z2 as2 fun uv z3 as3=>f.evo ks s e z3 as3 fun sv z4 as4 =>
      ask 0 true (sliceV ov lv uv sv) z4 as4 k
  | .item o i _ _=>f.ev ks o e z as fun ov z1 as1=>f.ev ks i e z1 as1 fun iv z2 as2=>askN (fun z0=>itemV z0 ov iv) z2 as2 fun v as3=>k v z2 as3
  | .meth o a apos args pos=>if noSuper o && apos.endLine == pos.line && decide (args.length < 30) then f.ev ks o e z as fun ov z1 as1=>methW P f ks a args e ov z1 as1 k else False
  | .call g args _ _=>f.ev ks g e z as fun fv z1 as1=>f.evs ks args e z1 as1 fun vs z2 as2=>f.callV fv vs z2 as2 k
  | .bin l op r _=>f.ev ks l e z as fun a z1 as1=>f.ev ks r e z1 as1 fun b z2 as2=>ask 2 false (fun z0=>binV z0 op a b) z2 as2 k
  | .cmp l op r _=>if isSet r then False else f.ev ks l e z as fun a z1 as1=>f.ev ks r e z1 as1 fun b z2 as2=>askC op a b z2 as2 fun c as3=>k (.bool c) z2 as3
  | .bool op es _=>f.evb ks op es e z as k
  | .not x _=>f.ev ks x e z as fun v z1 as1=>opt (truth v) fun b=>k (.bool (!b)) z1 as1
  | .neg x _=>f.ev ks x e z as fun v z1 as1=>opt v.int? fun i=>k (.int (-i)) z1 as1
  | .ite t a b _=>f.tst ks t e z as fun c z1 as1=>match c with | true=>f.ev ks a e z1 as1 k | false=>f.ev ks b e z1 as1 k
  | .comp elt x _ it il sc _=>if isSet it || !(compOk ks x sc && (e.lookup (".0":S)).isNone) then False else f.ev ks it e z as fun iv z1 as1=>askI (iterOf iv z1) as1 fun vs z2 as2 =>
      compAns (fun v z as k=>ifsW f (relK ks sc.names) il (setE x v e) z as fun b z1 as1=>match b with
          | true=>f.ev (relK ks sc.names) elt (setE x v e) z1 as1 fun r z2 as2=>ask 3 false (fun z0=>frz r z0) z2 as2 fun t z3 as3=>k (some t) z3 as3
          | false=>k none z1 as1) vs z2 as2 fun rs z3 as3=>k (.list rs) z3 as3
  | .bad _=>False
noncomputable def evoWB (f:FW) (ks:Ks) (e:En) (z:Zo) (as:As) (k:KV) (x:Option Expr):Prop:=match x with
  | none=>k .none z as
  | some x=>f.ev ks x e z as k
noncomputable def evsWB (f:FW) (ks:Ks) (e:En) (z:Zo) (as:As) (k:List V → Zo → As → Prop) (xs:List Expr):Prop:=match xs with
  | []=>k [] z as
  | x :: xs=>f.ev ks x e z as fun v z1 as1=>f.evs ks xs e z1 as1 fun vs z2 as2=>k (v :: vs) z2 as2
noncomputable def evbWB (f:FW) (ks:Ks) (op:BoolOp) (e:En) (z:Zo) (as:As) (k:KV) (xs:List Expr):Prop:=match xs with
  | []=>False
  | x :: xs=>if xs.isEmpty then f.ev ks x e z as k else f.ev ks x e z as fun v z1 as1=>opt (truth v) fun b=>(match op with
    | .And=>(match b with | true=>f.evb ks op xs e z1 as1 k | false=>k v z1 as1)
    | .Or=>(match b with | true=>k v z1 as1 | false=>f.evb ks op xs e z1 as1 k))
noncomputable def tstWB (f:FW) (ks:Ks) (e:En) (z:Zo) (as:As) (k:Bool → Zo → As → Prop) {x:Expr} (v:EV x):Prop:=match v with
  | .const c q p=>f.ev ks (.Constant c q p) e z as fun v z1 as1=>opt (truth v) fun b=>k b z1 as1
  | .name y p=>f.ev ks (.Name y p) e z as fun v z1 as1=>opt (truth v) fun b=>k b z1 as1
  | .tup es q p=>f.ev ks (.Tuple es q p) e z as fun v z1 as1=>opt (truth v) fun b=>k b z1 as1
  | .list es p=>f.ev ks (.List es p) e z as fun v z1 as1=>opt (truth v) fun b=>k b z1 as1
  | .dict kk vv p=>f.ev ks (.Dict kk vv p) e z as fun v z1 as1=>opt (truth v) fun b=>k b z1 as1
  | .attr o a p=>f.ev ks (.Attribute o a p) e z as fun v z1 as1=>opt (truth v) fun b=>k b z1 as1
  | .slice o l u s p q=>f.ev ks (.Subscript o (.Slice l u s p) q) e z as fun v z1 as1=>opt (truth v) fun b=>k b z1 as1
  | .item o i p _=>f.ev ks (.Subscript o i p) e z as fun v z1 as1=>opt (truth v) fun b=>k b z1 as1
  | .meth o a q args p=>f.ev ks (.Call (.Attribute o a q) args [] p) e z as fun v z1 as1=>opt (truth v) fun b=>k b z1 as1
  | .call g args p _=>f.ev ks (.Call g args [] p) e z as fun v z1 as1=>opt (truth v) fun b=>k b z1 as1
  | .bin l op r p=>f.ev ks (.BinOp l op r p) e z as fun v z1 as1=>opt (truth v) fun b=>k b z1 as1
  | .cmp l op r _=>if isSet r then False else f.ev ks l e z as fun a z1 as1=>f.ev ks r e z1 as1 fun b z2 as2=>askC op a b z2 as2 fun c as3=>k c z2 as3
  | .bool op xs _=>f.tsts ks op xs e z as k
  | .not x _=>f.tst ks x e z as fun b z1 as1=>k (!b) z1 as1
  | .neg _ _=>False
  | .ite _ _ _ _=>False
  | .comp elt y q it il sc p=>f.ev ks (.ListComp elt [⟨.Name y q,it,il,0⟩] sc p) e z as fun v z1 as1=>opt (truth v) fun b=>k b z1 as1
  | .bad _=>False
noncomputable def tstsWB (f:FW) (ks:Ks) (op:BoolOp) (e:En) (z:Zo) (as:As) (k:Bool → Zo → As → Prop) (xs:List Expr):Prop:=match xs with
  | []=>k (op == .And) z as
  | x :: xs=>f.tst ks x e z as fun b z1 as1=>(match op with
    | .And=>(match b with | true=>f.tsts ks op xs e z1 as1 k | false=>k false z1 as1)
    | .Or=>(match b with | true=>k true z1 as1 | false=>f.tsts ks op xs e z1 as1 k))
noncomputable def bleW (a b:Nat) (p:Prop):Prop:=match Nat.ble a b with
  | true=>p
  | false=>False
noncomputable def refW (P:Prg) (n:Nat) (a:Addr) (args:List V) (z:Zo) (as:As) (k:KV):Prop:=match as with
  | []=>False
  | x :: r=>match x with
    | .a u v=>if u = 6 then callV P (n + 1) (.fn (.ref a)) args z = some (v,z) ∧ k v z r else False
    | .az u v z'=>if u = 6 then callV P (n + 1) (.fn (.ref a)) args z = some (v,z') ∧ k v z' r else False
    | .call nb v=>opt (frzs args z) fun q=>CallsB P nb a q.1 v ∧ bleW nb n (k v q.2 r)
    | .orb nb v o'=>opt (ownHead args) fun i=>opt (frzs i.2 z) fun q=>opt (q.2[i.1]?) fun o=>CallsO P nb a o q.1 v o' ∧ bleW nb n (k v (q.2.set i.1 o') r)
    | .b _ _=>False
    | .it _ _=>False
    | .cm _ _ _ _ _=>False
    | .loop _ _ _ _ _=>False
    | .loop1 _ _ _ _ _ _=>False
    | .skip=>False
noncomputable def makeW (P:Prg) (f:FW) (a:Addr) (args:List V) (z:Zo) (as:As) (k:KV):Prop:=match P.cls a with
  | some c=>f.callF c.init (.own z.length :: args) (z ++ [.inst a []]) as fun r z1 as1=>if r.nil then k (.own z.length) z1 as1 else False
  | none=>f.callF a args z as k
noncomputable def biW (f:Value):Bool:=match bi? f with
  | some id=>decide (id = "isinstance" ∨ id = "max")
  | none=>false
noncomputable def callVWB (P:Prg) (T:Addr → Bool) (f:FW) (n:Nat) (g:V) (args:List V) (z:Zo) (as:As) (k:KV):Prop:=opt g.fn? fun fv=>match rf? fv with
  | some a=>(match T a with
    | true=>makeW P f a args z as k
    | false=>refW P n a args z as k)
  | none=>(match biW fv with
    | true=>runW (bcall P fv args z) k as
    | false=>ask 0 true (fun z0=>bcall P fv args z0) z as k)
noncomputable def callFWB (P:Prg) (f:FW) (a:Addr) (args:List V) (z:Zo) (as:As) (k:KV):Prop :=
  opt (P.func a) fun fd=>opt (bindPars (fd.params.args.map (·.arg)) args (P.dfl a)) fun e=>opt (bodyS fd.body) fun b=>f.exs fd.scope.names b e z as fun fl _ z1 as1=>k fl.val z1 as1
noncomputable def exWB (f:FW) (ks:Ks) (e:En) (z:Zo) (as:As) (k:KF) {st:Stmt} (v:SV st):Prop:=match v with
  | .expr x _=>if isComp x then False else f.ev ks x e z as fun _ z1 as1=>k .next e z1 as1
  | .retS x _=>f.ev ks x e z as fun v z1 as1=>k (.ret v) e z1 as1
  | .ret _=>k (.ret .none) e z as
  | .asg t x _=>if isTup t && isTup x then False else f.ev ks x e z as fun v z1 as1=>f.asg ks t v e z1 as1 fun e2 z2 as2=>k .next e2 z2 as2
  | .aug x _ y _=>opt (augV ks x e) fun i=>f.ev ks y e z as fun v z1 as1=>opt v.int? fun j=>k .next (setE x (.int (i + j)) e) z1 as1
  | .ite t a b _=>f.tst ks t e z as fun c z1 as1=>match c with | true=>f.exs ks a e z1 as1 k | false=>f.exs ks b e z1 as1 k
  | .whl t b _=>whileLW (f.tst ks t) (f.exs ks b) 1000 e z as k
  | .each x _ it b _=>if isSet it then False else f.ev ks it e z as fun iv z1 as1=>askI (iterOf iv z1) as1 fun vs z2 as2 =>
      if ks.lookup x = some .local ∨ ks.lookup x = some .cell then forAns x (f.exs ks b) vs e z2 as2 k else False
  | .bad _=>False
noncomputable def asgWB (P:Prg) (f:FW) (ks:Ks) (v:V) (e:En) (z:Zo) (as:As) (k:En → Zo → As → Prop) {t:Expr} (w:EV t):Prop:=match w with
  | .const _ _ _=>False
  | .name x _=>if ks.lookup x = some .local ∨ ks.lookup x = some .cell then k (setE x v e) z as else False
  | .tup ts _ _=>opt (asSeq z v) fun vs=>opt (storeAll ks ts vs e) fun e2=>k e2 z as
  | .list _ _=>False
  | .dict _ _ _=>False
  | .attr o a _=>f.ev ks o e z as fun ov z1 as1=>opt (setFieldV P z1 ov a v) fun z2=>k e z2 as1
  | .slice _ _ _ _ _ _=>False
  | .item o i _ _=>f.ev ks o e z as fun ov z1 as1=>f.ev ks i e z1 as1 fun iv z2 as2=>opt (setAtV z2 ov iv v) fun z3=>k e z3 as2
  | .meth _ _ _ _ _=>False
  | .call _ _ _ _=>False
  | .bin _ _ _ _=>False
  | .cmp _ _ _ _=>False
  | .bool _ _ _=>False
  | .not _ _=>False
  | .neg _ _=>False
  | .ite _ _ _ _=>False
  | .comp _ _ _ _ _ _ _=>False
  | .bad _=>False
noncomputable def exsWB (f:FW) (ks:Ks) (e:En) (z:Zo) (as:As) (k:KF) (ss:List Stmt):Prop:=match ss with
  | []=>k .next e z as
  | s :: ss=>f.ex ks s e z as fun fl e1 z1 as1=>match fl with
    | .next=>f.exs ks ss e1 z1 as1 k
    | .ret v=>k (.ret v) e1 z1 as1
noncomputable def fw0:FW:=⟨fun _ _ _ _ _ _=>False,fun _ _ _ _ _ _=>False,fun _ _ _ _ _ _=>False,fun _ _ _ _ _ _ _=>False,fun _ _ _ _ _ _=>False,fun _ _ _ _ _ _ _=>False,fun _ _ _ _ _=>False,fun _ _ _ _ _=>False,fun _ _ _ _ _ _=>False,fun _ _ _ _ _ _ _=>False,fun _ _ _ _ _ _=>False⟩
noncomputable def fwS (P:Prg) (T:Addr → Bool) (n:Nat) (f:FW):FW:=⟨fun ks x e z as k=>evWB P f ks e z as k (viewE x),fun ks x e z as k=>evoWB f ks e z as k x,fun ks x e z as k=>evsWB f ks e z as k x,fun ks op x e z as k=>evbWB f ks op e z as k x,
  fun ks x e z as k=>tstWB f ks e z as k (viewE x),fun ks op x e z as k=>tstsWB f ks op e z as k x,callVWB P T f n,callFWB P f,fun ks x e z as k=>exWB f ks e z as k (viewT x),fun ks x v e z as k=>asgWB P f ks v e z as k (viewE x),fun ks x e z as k=>exsWB f ks e z as k x⟩
noncomputable def fw (P:Prg) (T:Addr → Bool) (n:Nat):FW:=Nat.rec fw0 (fwS P T) n
noncomputable abbrev evW (P:Prg) (T:Addr → Bool) (n:Nat):=(fw P T n).ev
noncomputable abbrev tstW (P:Prg) (T:Addr → Bool) (n:Nat):=(fw P T n).tst
noncomputable abbrev callW (P:Prg) (T:Addr → Bool) (n:Nat):=(fw P T n).callV
noncomputable abbrev exW (P:Prg) (T:Addr → Bool) (n:Nat):=(fw P T n).ex
noncomputable abbrev exsW (P:Prg) (T:Addr → Bool) (n:Nat):=(fw P T n).exs
end Mine
end
section
open PySem PySem.W PyProof.Rows
namespace Mine
inductive Ran {α:Type} (o:Option (α × Zo)) (k:α → Zo → As → Prop):Prop
  | mk (v z as):o = some (v,z) → k v z as → Ran o k
inductive RanS (o:Option (Fl × En × Zo)) (k:KF):Prop
  | mk (fl e z as):o = some (fl,e,z) → k fl e z as → RanS o k
section
universe u
variable {P:Prg} {T:Addr → Bool} {α β:Type} {z:Zo} {as:As}
theorem Ran.here {o:Option (α × Zo)} {k:α → Zo → As → Prop} {v:α} (e:o = some (v,z)) (h:k v z as):Ran o k:=⟨v,z,as,e,h⟩
theorem Ran.bind {o:Option (α × Zo)} {f:α × Zo → Option (β × Zo)} {k':α → Zo → As → Prop} {k:β → Zo → As → Prop} (h:Ran o k') (H:∀ v z as,k' v z as → Ran (f (v,z)) k):Ran (o.bind f) k:=by
  obtain ⟨v,z,as,e,h⟩:=h
  rw [e]; exact H v z as h
theorem Ran.map {o:Option (α × Zo)} {f:α × Zo → β × Zo} {k':α → Zo → As → Prop} {k:β → Zo → As → Prop} (h:Ran o k') (H:∀ v z as,k' v z as → k (f (v,z)).1 (f (v,z)).2 as):Ran (o.map f) k:=by
  obtain ⟨v,z,as,e,h⟩:=h
  rw [e]; exact ⟨_,_,as,rfl,H v z as h⟩
theorem Ran.bindS {o:Option (α × Zo)} {f:α × Zo → Option (Fl × En × Zo)} {k':α → Zo → As → Prop} {k:KF} (h:Ran o k') (H:∀ v z as,k' v z as → RanS (f (v,z)) k):RanS (o.bind f) k:=by
  obtain ⟨v,z,as,e,h⟩:=h
  rw [e]; exact H v z as h
theorem Ran.mapS {o:Option (α × Zo)} {f:α × Zo → Fl × En × Zo} {k':α → Zo → As → Prop} {k:KF} (h:Ran o k') (H:∀ v z as,k' v z as → k (f (v,z)).1 (f (v,z)).2.1 (f (v,z)).2.2 as):RanS (o.map f) k:=by
  obtain ⟨v,z,as,e,h⟩:=h
  rw [e]; exact ⟨_,_,_,as,rfl,H v z as h⟩
theorem RanS.bind {o:Option (Fl × En × Zo)} {f:Fl × En × Zo → Option (Fl × En × Zo)} {k' k:KF} (h:RanS o k') (H:∀ v e z as,k' v e z as → RanS (f (v,e,z)) k):RanS (o.bind f) k:=by
  obtain ⟨v,e,z,as,q,h⟩:=h
  rw [q]; exact H v e z as h
theorem RanS.map {o:Option (Fl × En × Zo)} {f:Fl × En × Zo → β × Zo} {k':KF} {k:β → Zo → As → Prop} (h:RanS o k') (H:∀ v e z as,k' v e z as → k (f (v,e,z)).1 (f (v,e,z)).2 as):Ran (o.map f) k:=by
  obtain ⟨v,e,z,as,q,h⟩:=h
  rw [q]; exact ⟨_,_,as,rfl,H v e z as h⟩
theorem opt.bind {o:Option α} {f:α → Option (β × Zo)} {k':α → Prop} {k:β → Zo → As → Prop} (h:opt o k') (H:∀ a,o = some a → k' a → Ran (f a) k):Ran (o.bind f) k:=by
  induction o using Option.casesOn with
  | none=>exact h.elim
  | some a=>exact H a rfl h
theorem opt.map {o:Option α} {f:α → β × Zo} {k':α → Prop} {k:β → Zo → As → Prop} (h:opt o k') (H:∀ a,o = some a → k' a → k (f a).1 (f a).2 as):Ran (o.map f) k:=by
  induction o using Option.casesOn with
  | none=>exact h.elim
  | some a=>exact ⟨_,_,as,rfl,H a rfl h⟩
theorem opt.bindS {o:Option α} {f:α → Option (Fl × En × Zo)} {k':α → Prop} {k:KF} (h:opt o k') (H:∀ a,k' a → RanS (f a) k):RanS (o.bind f) k:=by
  induction o using Option.casesOn with
  | none=>exact h.elim
  | some a=>exact H a h
theorem opt.mapS {o:Option α} {f:α → Fl × En × Zo} {k':α → Prop} {k:KF} (h:opt o k') (H:∀ a,k' a → k (f a).1 (f a).2.1 (f a).2.2 as):RanS (o.map f) k:=by
  induction o using Option.casesOn with
  | none=>exact h.elim
  | some a=>exact ⟨_,_,_,as,rfl,H a h⟩
theorem opt_ex {p:Option α} {k:α → Prop} (h:opt p k):∃ a,p = some a ∧ k a:=by
  induction p using Option.casesOn with
  | none=>exact h.elim
  | some a=>exact ⟨a,rfl,h⟩
theorem ifT {c:Prop} [Decidable c] {a:Prop} {o:Option (β × Zo)} {k:β → Zo → As → Prop} (h:if c then a else False) (H:c → a → Ran o k):Ran (if c then o else none) k:=by
  by_cases q:c
  · rw [if_pos q] at h; rw [if_pos q]; exact H q h
  · rw [if_neg q] at h; exact h.elim
theorem ifF {c:Prop} [Decidable c] {a:Prop} {o:Option (β × Zo)} {k:β → Zo → As → Prop} (h:if c then False else a) (H:a → Ran o k):Ran (if c then none else o) k:=by
  by_cases q:c
  · rw [if_pos q] at h; exact h.elim
  · rw [if_neg q] at h; rw [if_neg q]; exact H h
theorem ifTS {c:Prop} [Decidable c] {a:Prop} {o:Option (Fl × En × Zo)} {k:KF} (h:if c then a else False) (H:a → RanS o k):RanS (if c then o else none) k:=by
  by_cases q:c
  · rw [if_pos q] at h; rw [if_pos q]; exact H h
  · rw [if_neg q] at h; exact h.elim
theorem ifFS {c:Prop} [Decidable c] {a:Prop} {o:Option (Fl × En × Zo)} {k:KF} (h:if c then False else a) (H:a → RanS o k):RanS (if c then none else o) k:=by
  by_cases q:c
  · rw [if_pos q] at h; exact h.elim
  · rw [if_neg q] at h; rw [if_neg q]; exact H h
theorem ite_el {c:Prop} [Decidable c] {a b C:Prop} (h:if c then a else b) (h1:c → a → C) (h2:¬ c → b → C):C:=by
  by_cases q:c
  · rw [if_pos q] at h; exact h1 q h
  · rw [if_neg q] at h; exact h2 q h
theorem runW_ran {o:Option (α × Zo)} {k:α → Zo → As → Prop} (h:runW o k as):Ran o k:=by
  induction o using Option.casesOn with
  | none=>exact h.elim
  | some q=>exact ⟨_,_,as,rfl,h⟩
theorem ask_ran {t:Nat} {sk:Bool} {p:Zo → Option (V × Zo)} {k:KV} (h:ask t sk p z as k):Ran (p z) k:=by
  induction as using List.casesOn with
  | nil=>exact runW_ran h
  | cons x r =>
    induction x using An.casesOn with
    | a u v=>exact ite_el h (fun _ h=>⟨_,_,_,h.1 z,h.2⟩) fun _ h=>runW_ran h
    | az u v z'=>exact ite_el h (fun _ h=>⟨_,_,_,h.1,h.2⟩) fun _ h=>runW_ran h
    | skip=>exact ite_el h (fun _ h=>runW_ran h) fun _ h=>runW_ran h
    | _=>exact runW_ran h
theorem askN_ran {p:Zo → Option V} {k:KV} (h:askN p z as fun v as=>k v z as):Ran ((p z).map (·,z)) k:=by
  induction as using List.casesOn with
  | nil=>exact opt.map h fun _ _ h=>h
  | cons x r =>
    induction x using An.casesOn with
    | a u v=>exact ite_el h (fun _ h=>by rw [h.1]; exact ⟨_,_,_,rfl,h.2⟩) fun _ h=>ite_el h (fun _ h=>by rw [h.1 z]; exact ⟨_,_,_,rfl,h.2⟩) fun _ h=>opt.map h fun _ _ h=>h
    | _=>exact opt.map h fun _ _ h=>h
theorem deref_or (z:Zo) (v:V):deref z v = v ∨ (∃ k vs,v = .own k ∧ deref z v = .list vs ∧ (z[k]?).bind O.lst? = some vs):=by
  induction v using V.casesOn with
  | own k =>
    cases e:(z[k]?).bind O.lst? with
    | some vs=>exact .inr ⟨k,vs,rfl,by show (match (z[k]?).bind O.lst? with | some vs=>V.list vs | none=>.own k) = _; rw [e],e⟩
    | none=>exact .inl (by show (match (z[k]?).bind O.lst? with | some vs=>V.list vs | none=>.own k) = _; rw [e])
  | _=>exact .inl rfl
theorem lst_notDict {z:Zo} {k:Nat} {vs:List V} (e:(z[k]?).bind O.lst? = some vs):(z[k]?).bind O.dict? = none:=by
  refine bd1 e fun o ho e=>?_
  rw [ho]
  rcases O.lst_of e with rfl | rfl <;> rfl
theorem toDz_deref (z:Zo) (v:V):toDz z (deref z v) = toDz z v:=by
  rcases deref_or z v with e | ⟨k,vs,rfl,e,h⟩
  · rw [e]
  · rw [e]
    show (V.toDs vs).map PyData.list = ((z[k]?).bind O.lst?).bind fun vs=>(V.toDs vs).map PyData.list
    rw [h]; rfl
theorem cmpV_deref (z:Zo) (op:CmpOp) (a b:V):cmpV z op (deref z a) (deref z b) = cmpV z op a b:=by
  have hb:both z (deref z a) (deref z b) = both z a b:=by unfold both; rw [toDz_deref,toDz_deref]
  have hd:asDict z (deref z b) = asDict z b:=by
    rcases deref_or z b with e | ⟨k,vs,rfl,e,h⟩
    · rw [e]
    · rw [e]; exact (lst_notDict h).symm
  have hs:(deref z a).str? = a.str?:=by
    rcases deref_or z a with e | ⟨k,vs,rfl,e,h⟩ <;> rw [e] <;> rfl
  have hn:isNone (deref z a) = isNone a:=by
    rcases deref_or z a with e | ⟨k,vs,rfl,e,h⟩ <;> rw [e] <;> rfl
  have hni:(deref z b).nil = b.nil:=by
    rcases deref_or z b with e | ⟨k,vs,rfl,e,h⟩ <;> rw [e] <;> rfl
  have hi:∀ v,(deref z v).int? = v.int?:=fun v=>by
    rcases deref_or z v with e | ⟨k,vs,rfl,e,h⟩ <;> rw [e] <;> rfl
  have hin:inz z (deref z a) (deref z b) = inz z a b:=by unfold inz; rw [hd,hb,hs]
  have hint:ints? (deref z a) (deref z b) = ints? a b:=by unfold ints?; rw [hi,hi]
  have hq:eqz z (deref z a) (deref z b) = eqz z a b:=by unfold eqz; rw [hb]
  unfold cmpV
  rw [hin,hint,hq,hn,hni]
theorem askC_ran {op:CmpOp} {a b:V} {f:Bool → α} {k:α → Zo → As → Prop} (h:askC op a b z as fun c as=>k (f c) z as):Ran ((cmpV z op a b).map fun c=>(f c,z)) k:=by
  induction as using List.casesOn with
  | nil=>exact opt.map h fun _ _ h=>h
  | cons x r =>
    induction x using An.casesOn with
    | b u c=>exact ite_el h (fun _ h=>by rw [h.1]; exact ⟨_,_,_,rfl,h.2⟩) fun _ h=>ite_el h (fun _ h=>by rw [h.1 z]; exact ⟨_,_,_,rfl,h.2⟩) fun _ h=>by rw [← cmpV_deref,h.1 z]; exact ⟨_,_,_,rfl,h.2⟩
    | _=>exact opt.map h fun _ _ h=>h
theorem askI_ran {p:Option (List V × Zo)} {k:List V → Zo → As → Prop} (h:askI p as k):Ran p k:=by
  induction as using List.casesOn with
  | nil=>exact runW_ran h
  | cons x r =>
    induction x using An.casesOn with
    | it vs z'=>exact ⟨_,_,_,h.1,h.2⟩
    | _=>exact runW_ran h
structure SW (P:Prg) (T:Addr → Bool) (n:Nat):Prop where
  ev:∀ {ks x e z as k},(fw P T n).ev ks x e z as k → Ran ((fs P n).ev ks x e z) k
  evo:∀ {ks x e z as k},(fw P T n).evo ks x e z as k → Ran ((fs P n).evo ks x e z) k
  evs:∀ {ks x e z as k},(fw P T n).evs ks x e z as k → Ran ((fs P n).evs ks x e z) k
  evb:∀ {ks op x e z as k},(fw P T n).evb ks op x e z as k → Ran ((fs P n).evb ks op x e z) k
  tst:∀ {ks x e z as k},(fw P T n).tst ks x e z as k → Ran ((fs P n).tst ks x e z) k
  tsts:∀ {ks op x e z as k},(fw P T n).tsts ks op x e z as k → Ran ((fs P n).tsts ks op x e z) k
  callV:∀ {f args z as k},(fw P T n).callV f args z as k → Ran ((fs P n).callV f args z) k
  callF:∀ {f args z as k},(fw P T n).callF f args z as k → Ran ((fs P n).callF f args z) k
  ex:∀ {ks x e z as k},(fw P T n).ex ks x e z as k → RanS ((fs P n).ex ks x e z) k
  exs:∀ {ks x e z as k},(fw P T n).exs ks x e z as k → RanS ((fs P n).exs ks x e z) k
  asg:∀ {ks x v e z as k},(fw P T n).asg ks x v e z as k → Ran ((fs P n).asg ks x v e z) k
variable {n:Nat} {ks:Ks} {e:En}
theorem evs_sw (q:SW P T n) {x:List Expr} {k} (h:(fw P T (n + 1)).evs ks x e z as k):Ran ((fs P (n + 1)).evs ks x e z) k:=by
  induction x using List.casesOn with
  | nil=>exact ⟨_,_,_,rfl,h⟩
  | cons x xs=>exact .bind (q.ev h) fun v z1 as1 h=>.map (q.evs h) fun _ _ _ h=>h
theorem evo_sw (q:SW P T n) {x:Option Expr} {k} (h:(fw P T (n + 1)).evo ks x e z as k):Ran ((fs P (n + 1)).evo ks x e z) k:=by
  induction x using Option.casesOn with
  | none=>exact ⟨_,_,_,rfl,h⟩
  | some x=>exact q.ev h
theorem evb_sw (q:SW P T n) {op:BoolOp} {x:List Expr} {k} (h:(fw P T (n + 1)).evb ks op x e z as k):Ran ((fs P (n + 1)).evb ks op x e z) k:=by
  induction x using List.casesOn with
  | nil=>exact h.elim
  | cons x xs =>
    induction xs using List.casesOn with
    | nil=>exact q.ev h
    | cons y r =>
      refine .bind (q.ev h) fun v z1 as1 h=>opt.bind h fun b _ h=>?_
      induction op using BoolOp.casesOn <;> induction b using Bool.casesOn <;> first | exact q.evb h | exact ⟨_,_,_,rfl,h⟩
theorem tsts_sw (q:SW P T n) {op:BoolOp} {x:List Expr} {k} (h:(fw P T (n + 1)).tsts ks op x e z as k):Ran ((fs P (n + 1)).tsts ks op x e z) k:=by
  induction x using List.casesOn with
  | nil=>exact ⟨_,_,_,rfl,h⟩
  | cons x xs =>
    refine .bind (q.tst h) fun b z1 as1 h=>?_
    induction op using BoolOp.casesOn <;> induction b using Bool.casesOn <;> first | exact q.tsts h | exact ⟨_,_,_,rfl,h⟩
theorem exs_sw (q:SW P T n) {x:List Stmt} {k} (h:(fw P T (n + 1)).exs ks x e z as k):RanS ((fs P (n + 1)).exs ks x e z) k:=by
  induction x using List.casesOn with
  | nil=>exact ⟨_,_,_,_,rfl,h⟩
  | cons x xs =>
    refine .bind (q.ex h) fun fl e1 z1 as1 h=>?_
    induction fl using Fl.casesOn with
    | next=>exact q.exs h
    | ret v=>exact ⟨_,_,_,_,rfl,h⟩
theorem callF_sw (q:SW P T n) {a:Addr} {args:List V} {k} (h:(fw P T (n + 1)).callF a args z as k):Ran ((fs P (n + 1)).callF a args z) k :=
  opt.bind h fun _ _ h=>opt.bind h fun _ _ h=>opt.bind h fun _ _ h=>RanS.map (q.exs h) fun _ _ _ _ h=>h
theorem ble_el {a b:Nat} {p C:Prop} (h:bleW a b p) (k:a ≤ b → p → C):C:=by
  cases q:Nat.ble a b with
  | true=>unfold bleW at h; rw [q] at h; exact k (Nat.le_of_ble_eq_true q) h
  | false=>unfold bleW at h; rw [q] at h; exact h.elim
theorem ref_sw {a:Addr} {args:List V} {k} (h:refW P n a args z as k):Ran (callV P (n + 1) (.fn (.ref a)) args z) k:=by
  induction as using List.casesOn with
  | nil=>exact h.elim
  | cons x r =>
    induction x using An.casesOn with
    | a u v=>exact ite_el h (fun _ h=>⟨_,_,_,h.1,h.2⟩) fun _ h=>h.elim
    | az u v z'=>exact ite_el h (fun _ h=>⟨_,_,_,h.1,h.2⟩) fun _ h=>h.elim
    | call nb v =>
      obtain ⟨q,e,h⟩:=opt_ex h
      exact ble_el h.2 fun hb h2=>⟨_,_,_,h.1.2 _ _ _ _ (Nat.lt_succ_of_le (Nat.le_trans h.1.1 hb)) e,h2⟩
    | orb nb v o' =>
      obtain ⟨i,e1,h⟩:=opt_ex h
      obtain ⟨q,e,h⟩:=opt_ex h
      obtain ⟨o,ho,h⟩:=opt_ex h
      rw [ownHead_of e1]
      exact ble_el h.2 fun hb h2=>⟨_,_,_,h.1.2 _ _ _ _ _ (Nat.lt_succ_of_le (Nat.le_trans h.1.1 hb)) e ho,h2⟩
    | _=>exact h.elim
theorem make_sw (q:SW P T n) {a:Addr} {args:List V} {k} (h1:P.orc a = none) (h2:P.orb a = none) (h:makeW P (fw P T n) a args z as k):Ran (refB P (fs P n) n a args z) k:=by
  unfold refB
  rw [h1]
  show Ran (match P.orb a with | some F=>orbB P n F args z | none=>match P.cls a with | some c=>makeB (fs P n) a c args z | none=>(fs P n).callF a args z) k
  rw [h2]
  show Ran (match P.cls a with | some c=>makeB (fs P n) a c args z | none=>(fs P n).callF a args z) k
  unfold makeW at h
  cases hc:P.cls a with
  | none=>rw [hc] at h; exact q.callF h
  | some c=>rw [hc] at h; exact .bind (q.callF h) fun r z1 as1 h=>ifT h fun _ h=>⟨_,_,_,rfl,h⟩
theorem callV_sw (hT:∀ a,T a = true → P.orc a = none ∧ P.orb a = none) (q:SW P T n) {f:V} {args:List V} {k} (h:(fw P T (n + 1)).callV f args z as k):Ran ((fs P (n + 1)).callV f args z) k:=by
  refine opt.bind (f:=fun fv=>match rf? fv with | some a=>refB P (fs P n) n a args z | none=>bcall P fv args z) h fun fv hf h=>?_
  cases hr:rf? fv with
  | none =>
    rw [hr] at h
    replace h:(match biW fv with | true=>runW (bcall P fv args z) k as | false=>ask 0 true (fun z0=>bcall P fv args z0) z as k):=h
    cases hb:biW fv with
    | true=>rw [hb] at h; exact runW_ran h
    | false=>rw [hb] at h; exact ask_ran h
  | some a =>
    rw [hr] at h
    replace h:(match T a with | true=>makeW P (fw P T n) a args z as k | false=>refW P n a args z as k):=h
    cases ht:T a with
    | true=>rw [ht] at h; exact make_sw q (hT a ht).1 (hT a ht).2 h
    | false=>rw [ht] at h; exact ref_sw h
theorem asg_sw (q:SW P T n) {x:Expr} {v:V} {k} (h:(fw P T (n + 1)).asg ks x v e z as k):Ran ((fs P (n + 1)).asg ks x v e z) k:=by
  replace h:asgWB P (fw P T n) ks v e z as k (viewE x):=h
  show Ran (asgB P (fs P n) ks v e z (viewE x)) k
  generalize viewE x = vx at h ⊢
  induction vx using EV.casesOn with
  | name y p=>exact ifT h fun _ h=>⟨_,_,_,rfl,h⟩
  | tup ts _ p=>exact opt.bind h fun _ _ h=>opt.map h fun _ _ h=>h
  | attr o a p=>exact .bind (q.ev h) fun _ _ _ h=>opt.map h fun _ _ h=>h
  | item o i p=>exact .bind (q.ev h) fun _ _ _ h=>.bind (q.ev h) fun _ _ _ h=>opt.map h fun _ _ h=>h
  | _=>exact h.elim
theorem tstD_sw (q:SW P T n) {x:Expr} {k:Bool → Zo → As → Prop} (h:(fw P T n).ev ks x e z as fun v z1 as1=>opt (truth v) fun b=>k b z1 as1):Ran (tstD ((fs P n).ev ks x e z)) k :=
  .bind (q.ev h) fun _ _ _ h=>opt.map h fun _ _ h=>h
theorem tst_sw (q:SW P T n) {x:Expr} {k} (h:(fw P T (n + 1)).tst ks x e z as k):Ran ((fs P (n + 1)).tst ks x e z) k:=by
  replace h:tstWB (fw P T n) ks e z as k (viewE x):=h
  show Ran (tstB (fs P n) ks e z (viewE x)) k
  generalize viewE x = vx at h ⊢
  induction vx using EV.casesOn with
  | not x p=>exact .map (q.tst h) fun _ _ _ h=>h
  | bool op es p=>exact q.tsts h
  | cmp l op r p=>exact ifF h fun h=>.bind (q.ev h) fun _ _ _ h=>.bind (q.ev h) fun _ _ _ h=>askC_ran (f:=id) h
  | neg=>exact h.elim
  | ite=>exact h.elim
  | bad=>exact h.elim
  | _=>exact tstD_sw q h
theorem compLW_ran {f:V → Zo → Option (Option V × Zo)} {fw:V → Zo → As → (Option V → Zo → As → Prop) → Prop} (H:∀ v z as k,fw v z as k → Ran (f v z) k) {vs:List V}:∀ {z as k},compLW fw vs z as k → Ran (compL f vs z) k:=by
  induction vs with
  | nil=>intro z as k h; exact ⟨_,_,_,rfl,h⟩
  | cons v vs ih=>intro z as k h; exact .bind (H _ _ _ _ h) fun r z1 as1 h=>.map (ih h) fun _ _ _ h=>h
theorem compL_map {f:V → Zo → Option (Option V × Zo)} {h:α → V} {g:α → Option V} {xs:List α} (H:∀ x ∈ xs,f (h x) z = some (g x,z)):compL f (xs.map h) z = some (xs.filterMap g,z):=by
  induction xs with
  | nil=>rfl
  | cons x xs ih =>
    show (f (h x) z).bind (fun q=>(compL f (xs.map h) q.2).map fun p=>((match q.1 with | some x=>x :: p.1 | none=>p.1),p.2)) = _
    rw [H x (.head _),List.filterMap_cons]
    show (compL f (xs.map h) z).map (fun p=>((match g x with | some x=>x :: p.1 | none=>p.1),p.2)) = _
    rw [ih fun y hy=>H y (.tail _ hy)]
    cases g x <;> rfl
theorem compAns_ran {f:V → Zo → Option (Option V × Zo)} {fw:V → Zo → As → (Option V → Zo → As → Prop) → Prop} (H:∀ v z as k,fw v z as k → Ran (f v z) k) {vs k} (h:compAns fw vs z as fun rs z as=>k (.list rs) z as) :
    Ran ((fit vs).bind fun vs=>(compL f vs z).map fun (rs,z3)=>(V.list rs,z3)) k:=by
  have go:∀ {as},compDo fw vs z as (fun rs z as=>k (.list rs) z as) → Ran ((fit vs).bind fun vs=>(compL f vs z).map fun (rs,z3)=>(V.list rs,z3)) k:=fun h=>opt.bind h fun _ _ h=>.map (compLW_ran H h) fun _ _ _ h=>h
  have told:∀ {α:Type} {xs:List α} {g:α → V} {p:α → Option V} {r},vs = xs.map g → (∀ x ∈ xs,f (g x) z = some (p x,z)) → vs.length ≤ lineMax → k (.list (xs.filterMap p)) z r → Ran ((fit vs).bind fun vs=>(compL f vs z).map fun (rs,z3)=>(V.list rs,z3)) k:=fun e h1 h2 h3=>by
    rw [show fit vs = some vs from if_pos h2,e]
    show Ran ((compL f _ z).map _) k
    rw [compL_map h1]
    exact ⟨_,_,_,rfl,h3⟩
  induction as using List.casesOn with
  | nil=>exact go h
  | cons x r =>
    induction x using An.casesOn with
    | cm t xs g p asf =>
      induction t using Bool.casesOn with
      | false=>exact told h.1 (fun x hx=>by obtain ⟨r,z',as',e,rfl,rfl⟩:=H _ _ _ _ (h.2.1 x hx); exact e) h.2.2.1 h.2.2.2
      | true=>exact told h.1 (fun x hx=>by obtain ⟨r,z',as',e,rfl,rfl⟩:=H _ _ _ _ (h.2.1 x hx z); exact e) h.2.2.1 h.2.2.2
    | _=>exact go h
theorem forLW_ran {f:V → En → Zo → Option (Fl × En × Zo)} {fw:V → En → Zo → As → KF → Prop} (H:∀ v e z as k,fw v e z as k → RanS (f v e z) k) {vs:List V}:∀ {e z as k},forLW fw vs e z as k → RanS (forL f vs e z) k:=by
  induction vs with
  | nil=>intro e z as k h; exact ⟨_,_,_,_,rfl,h⟩
  | cons v vs ih =>
    intro e z as k h
    refine .bind (H _ _ _ _ _ h) fun fl e1 z1 as1 h=>?_
    induction fl using Fl.casesOn with
    | next=>exact ih h
    | ret r=>exact ⟨_,_,_,_,rfl,h⟩
theorem setE_new {X:S} {v:V} {e:En} (h:(e.lookup X).isNone = true):setE X v e = e ++ [(X,v)]:=by
  induction e with
  | nil=>rfl
  | cons p r ih =>
    obtain ⟨y,w⟩:=p
    rw [List.lookup_cons] at h
    cases e:X == y with
    | true=>rw [e] at h; exact ff h
    | false =>
      rw [e] at h
      rw [setE,if_neg (fun q=>by rw [q,beq_self_eq_true] at e; exact ff e.symm),ih h]; rfl
theorem setE_old {X:S} {v u:V} {e:En} (h:(e.lookup X).isNone = true):setE X v (e ++ [(X,u)]) = e ++ [(X,v)]:=by
  induction e with
  | nil=>exact if_pos rfl
  | cons p r ih =>
    obtain ⟨y,w⟩:=p
    rw [List.lookup_cons] at h
    cases e:X == y with
    | true=>rw [e] at h; exact ff h
    | false =>
      rw [e] at h
      rw [List.cons_append,setE,if_neg (fun q=>by rw [q,beq_self_eq_true] at e; exact ff e.symm),ih h]; rfl
theorem forL_next {f:V → En → Zo → Option (Fl × En × Zo)} {v:V} {vs:List V} {e1:En} {z1:Zo} (h:f v e z = some (.next,e1,z1)):forL f (v :: vs) e z = forL f vs e1 z1:=by
  show (f v e z).bind _ = _
  rw [h]; rfl
theorem forL_map {X:S} {f:En → Zo → Option (Fl × En × Zo)} {h:α → V} {st:List α → En × Zo} {xs:List α} (hx:∀ pre,((st pre).1.lookup X).isNone = true)
    (H:∀ pre x post,xs = pre ++ x :: post → f ((st pre).1 ++ [(X,h x)]) (st pre).2 = some (.next,(st (pre ++ [x])).1 ++ [(X,h x)],(st (pre ++ [x])).2)) (post:List α) :
    ∀ (pre:List α) (l:α),xs = pre ++ post → forL (fun v e z=>f (setE X v e) z) (post.map h) ((st pre).1 ++ [(X,h l)]) (st pre).2 = some (.next,(st xs).1 ++ [(X,h (post.getLast?.getD l))],(st xs).2):=by
  induction post with
  | nil=>intro pre l e; rw [List.append_nil] at e; rw [e]; rfl
  | cons x post ih =>
    intro pre l e
    have h1:=H pre x post e
    rw [← setE_old (u:=h l) (hx pre)] at h1
    rw [List.map_cons,forL_next h1,ih (pre ++ [x]) x (by rw [e,List.append_assoc]; rfl)]
    cases post <;> simp [List.getLast?_cons]
theorem forL_mapG {X:S} {f:En → Zo → Option (Fl × En × Zo)} {h:α → V} {st:List α → En × Zo} {xs:List α}
    (H:∀ pre x post,xs = pre ++ x :: post → f (setE X (h x) (st pre).1) (st pre).2 = some (.next,st (pre ++ [x]))) (post:List α) :
    ∀ (pre:List α),xs = pre ++ post → forL (fun v e z=>f (setE X v e) z) (post.map h) (st pre).1 (st pre).2 = some (.next,st xs):=by
  induction post with
  | nil=>intro pre e; rw [List.append_nil] at e; rw [e]; rfl
  | cons x post ih=>intro pre e; rw [List.map_cons,forL_next (H pre x post e)]; exact ih (pre ++ [x]) (by rw [e,List.append_assoc]; rfl)
theorem step_of {o:Option (Fl × En × Zo)} {p:En × Zo} (h:RanS o fun fl e' z' _=>match fl with | .next=>(e',z') = p | .ret _=>False):o = some (.next,p):=by
  obtain ⟨fl,e',z',as',q1,q2⟩:=h
  induction fl using Fl.casesOn with
  | next=>rw [q1,← (show (e',z') = p from q2)]
  | ret=>exact q2.elim
theorem forAns_ran {X:S} {f:En → Zo → Option (Fl × En × Zo)} {fw:En → Zo → As → KF → Prop} (H:∀ e z as k,fw e z as k → RanS (f e z) k) {vs k} (h:forAns X fw vs e z as k):RanS (forL (fun v e z=>f (setE X v e) z) vs e z) k:=by
  induction as using List.casesOn with
  | nil=>exact forLW_ran (fun v e z as k hh=>H _ _ _ _ hh) h
  | cons x r =>
    induction x using An.casesOn with
    | loop xs g last st asf =>
      obtain ⟨rfl,h1,h2,h3,h4,h5⟩:=h
      have h6:∀ pre x post,xs = pre ++ x :: post → f ((st pre).1 ++ [(X,g x)]) (st pre).2 = some (.next,(st (pre ++ [x])).1 ++ [(X,g x)],(st (pre ++ [x])).2):=fun pre x post e=>step_of (H _ _ _ _ (h4 pre x post e))
      refine ⟨_,_,_,_,?_,h5⟩
      induction xs using List.casesOn with
      | nil=>exact mt h1
      | cons x post =>
        have q1:=h6 [] x post rfl
        rw [← setE_new (h3 [])] at q1
        rw [show e = (st []).1 from (congrArg Prod.fst h2).symm,show z = (st []).2 from (congrArg Prod.snd h2).symm,List.map_cons,forL_next q1]
        refine (forL_map h3 h6 post [x] x rfl).trans ?_
        rw [List.getLast?_cons] at h1
        rw [Option.some.inj h1]
    | loop1 v as1 xs g st asf =>
      obtain ⟨rfl,h1,h2,h3⟩:=h
      refine ⟨_,_,_,_,?_,h3⟩
      rw [forL_next (step_of (H _ _ _ _ h1))]
      exact forL_mapG (fun pre x post e=>step_of (H _ _ _ _ (h2 pre x post e))) xs [] rfl
    | _=>exact forLW_ran (fun v e z as k hh=>H _ _ _ _ hh) h
theorem whileLW_ran {t:En → Zo → Option (Bool × Zo)} {f:En → Zo → Option (Fl × En × Zo)} {tw:En → Zo → As → (Bool → Zo → As → Prop) → Prop} {fw:En → Zo → As → KF → Prop}
    (Ht:∀ e z as k,tw e z as k → Ran (t e z) k) (H:∀ e z as k,fw e z as k → RanS (f e z) k) {n:Nat}:∀ {e z as k},whileLW tw fw n e z as k → RanS (whileL t f n e z) k:=by
  induction n with
  | zero=>intro e z as k h; exact h.elim
  | succ n ih =>
    intro e z as k h
    refine Ran.bindS (Ht _ _ _ _ h) fun b z1 as1 h=>?_
    induction b using Bool.casesOn with
    | false=>exact ⟨_,_,_,_,rfl,h⟩
    | true =>
      refine RanS.bind (H _ _ _ _ h) fun fl e1 z2 as2 h=>?_
      induction fl using Fl.casesOn with
      | next=>exact ih h
      | ret r=>exact ⟨_,_,_,_,rfl,h⟩
end
end Mine
end
section
open PySem PySem.W PyProof.Rows
namespace Mine
section
variable {P:Prg} {T:Addr → Bool} {n:Nat} {ks:Ks} {e:En} {z:Zo} {as:As}
theorem meth_sw (q:SW P T n) {a:S} {args:List Expr} {ov:V} {k:KV} (h:methW P (fw P T n) ks a args e ov z as k):Ran (methB P (fs P n) ks a args e ov z) k:=by
  unfold methW at h
  unfold methB
  cases hi:asInst z ov with
  | some i =>
    rw [hi] at h
    exact opt.bind h fun _ _ h=>opt.bind h fun _ _ h=>ifF h fun h=>.bind (q.evs h) fun _ _ _ h=>q.callV h
  | none =>
    rw [hi] at h
    exact opt.bind h fun _ _ h=>.bind (q.evs h) fun _ _ _ h=>ask_ran h
theorem comp_sw (q:SW P T n) {x:S} {il:List Expr} {elt:Expr} {k':Ks} (v:V) (z:Zo) (as:As) (k:Option V → Zo → As → Prop)
    (h:ifsW (fw P T n) k' il (setE x v e) z as fun b z1 as1=>match b with
      | true=>(fw P T n).ev k' elt (setE x v e) z1 as1 fun r z2 as2=>ask 3 false (fun z0=>frz r z0) z2 as2 fun t z3 as3=>k (some t) z3 as3
      | false=>k none z1 as1):Ran (compG (ifsV (fs P n) k' il) ((fs P n).ev k' elt) x e v z) k:=by
  have el:∀ (b:Bool) (z1:Zo) (as1:As),(match b with
      | true=>(fw P T n).ev k' elt (setE x v e) z1 as1 fun r z2 as2=>ask 3 false (fun z0=>frz r z0) z2 as2 fun t z3 as3=>k (some t) z3 as3
      | false=>k none z1 as1) → Ran (if b = true then ((fs P n).ev k' elt (setE x v e) z1).bind fun (r,z2)=>(frz r z2).map fun (t,z3)=>(some t,z3) else some (none,z1)) k:=fun b z1 as1 h=>by
    induction b using Bool.casesOn with
    | false=>exact ⟨_,_,_,rfl,h⟩
    | true=>exact .bind (q.ev h) fun _ _ _ h=>.map (ask_ran h) fun _ _ _ h=>h
  induction il using List.casesOn with
  | nil=>exact el true z as h
  | cons c r =>
    induction r using List.casesOn with
    | nil=>exact .bind (o:=(fs P n).tst k' c (setE x v e) z) (q.tst h) el
    | cons=>exact h.elim
theorem ev_sw (q:SW P T n) {x:Expr} {k:KV} (h:(fw P T (n + 1)).ev ks x e z as k):Ran ((fs P (n + 1)).ev ks x e z) k:=by
  replace h:evWB P (fw P T n) ks e z as k (viewE x):=h
  show Ran (evB P (fs P n) ks e z (viewE x)) k
  generalize viewE x = vx at h ⊢
  induction vx using EV.casesOn with
  | const c _ p=>exact opt.map h fun _ _ h=>h
  | name x p=>exact ifF h fun h=>runW_ran h
  | tup es _ p=>exact .bind (q.evs h) fun _ z1 _ h=>ask_ran h
  | list es p=>exact .bind (q.evs h) fun _ _ _ h=>opt.map h fun _ _ h=>h
  | dict kk vv p=>exact opt.bind h fun _ _ h=>.bind (q.evs h) fun _ _ _ h=>ifT h fun _ h=>⟨_,_,_,rfl,h⟩
  | attr o a p=>exact ifT h fun _ h=>.bind (q.ev h) fun _ _ _ h=>runW_ran h
  | slice o l u s p _=>exact .bind (q.ev h) fun _ _ _ h=>.bind (q.evo h) fun _ _ _ h=>.bind (q.evo h) fun _ _ _ h=>.bind (q.evo h) fun _ _ _ h=>ask_ran h
  | item o i p=>exact .bind (q.ev h) fun _ _ _ h=>.bind (q.ev h) fun _ _ _ h=>askN_ran h
  | meth o a ap args p=>exact ifT h fun _ h=>.bind (q.ev h) fun _ _ _ h=>meth_sw q h
  | call f args p=>exact .bind (q.ev h) fun _ _ _ h=>.bind (q.evs h) fun _ _ _ h=>q.callV h
  | bin l op r p=>exact .bind (q.ev h) fun _ _ _ h=>.bind (q.ev h) fun _ _ _ h=>ask_ran h
  | cmp l op r p=>exact ifF h fun h=>.bind (q.ev h) fun _ _ _ h=>.bind (q.ev h) fun _ _ _ h=>askC_ran (f:=V.bool) h
  | bool op es p=>exact q.evb h
  | not x p=>exact .bind (q.ev h) fun _ _ _ h=>opt.map h fun _ _ h=>h
  | neg x p=>exact .bind (q.ev h) fun _ _ _ h=>opt.map h fun _ _ h=>h
  | ite t a b p =>
    refine .bind (q.tst h) fun c _ _ h=>?_
    induction c using Bool.casesOn <;> exact q.ev h
  | comp elt x px it il sc p=>exact ifF h fun h=>.bind (q.ev h) fun _ _ _ h=>.bind (askI_ran h) fun _ _ _ h=>compAns_ran (fun v z as k hh=>comp_sw q v z as k hh) h
  | bad=>exact h.elim
theorem ex_sw (q:SW P T n) {x:Stmt} {k:KF} (h:(fw P T (n + 1)).ex ks x e z as k):RanS ((fs P (n + 1)).ex ks x e z) k:=by
  replace h:exWB (fw P T n) ks e z as k (viewT x):=h
  show RanS (exB (fs P n) ks e z (viewT x)) k
  generalize viewT x = vx at h ⊢
  induction vx using SV.casesOn with
  | expr x p=>exact ifFS h fun h=>Ran.mapS (q.ev h) fun _ _ _ h=>h
  | retS x p=>exact Ran.mapS (q.ev h) fun _ _ _ h=>h
  | ret p=>exact ⟨_,_,_,_,rfl,h⟩
  | asg t x p=>exact ifFS h fun h=>Ran.bindS (q.ev h) fun _ _ _ h=>Ran.mapS (q.asg h) fun _ _ _ h=>h
  | aug x px y p=>exact opt.bindS h fun _ h=>Ran.bindS (q.ev h) fun _ _ _ h=>opt.mapS h fun _ h=>h
  | ite t a b p =>
    refine Ran.bindS (q.tst h) fun c _ _ h=>?_
    induction c using Bool.casesOn <;> exact q.exs h
  | whl t b p=>exact whileLW_ran (t:=(fs P n).tst ks t) (f:=(fs P n).exs ks b) (tw:=(fw P T n).tst ks t) (fw:=(fw P T n).exs ks b) (fun _ _ _ _ hh=>q.tst hh) (fun _ _ _ _ hh=>q.exs hh) h
  | each x px it b p=>exact ifFS h fun h=>Ran.bindS (q.ev h) fun _ _ _ h=>Ran.bindS (askI_ran h) fun _ _ _ h=>ifTS h fun h=>forAns_ran (f:=(fs P n).exs ks b) (fun _ _ _ _ hh=>q.exs hh) h
  | bad=>exact h.elim
theorem sw (hT:∀ a,T a = true → P.orc a = none ∧ P.orb a = none) (n:Nat):SW P T n:=by
  induction n with
  | zero=>exact ⟨False.elim,False.elim,False.elim,False.elim,False.elim,False.elim,False.elim,False.elim,False.elim,False.elim,False.elim⟩
  | succ n q=>exact ⟨ev_sw q,evo_sw q,evs_sw q,evb_sw q,tst_sw q,tsts_sw q,callV_sw hT q,callF_sw q,ex_sw q,exs_sw q,asg_sw q⟩
structure Wk (p:Prop):Prop where
  h:p
theorem Wk.of {a b:Prop} (t:a) (h:a = b):Wk b:=⟨h ▸ t⟩
theorem runO_of (hT:∀ a,T a = true → P.orc a = none ∧ P.orb a = none) {n:Nat} {a:Addr} {ts:List V} {as:As} {t:V} (h:Wk (callW P T n (.fn (.ref a)) ts [] as fun v z _=>(frz v z).map (·.1) = some t)):runO P n a ts = some t:=by
  obtain ⟨v,z,as',h1,h2⟩:=(sw hT n).callV h.h
  show ((fs P n).callV _ _ _).bind _ = _
  rw [h1]
  exact h2
end
end Mine
end
section
open PySem PySem.W PyProof.Rows
namespace Mine
theorem lookup_zip_none {α β:Type} [BEq α] [LawfulBEq α]:∀ {ns:List α} {vs:List β} {x:α},x ∉ ns → (ns.zip vs).lookup x = none
  | [],_,_,_=>by simp
  | n :: ns,[],_,_=>by simp
  | n :: ns,v :: vs,x,h=>by
    have h1:(x == n) = false:=beq_eq_false_iff_ne.mpr fun e=>h (e ▸ List.mem_cons_self ..)
    simp only [List.zip_cons_cons,List.lookup_cons,h1]
    exact lookup_zip_none fun q=>h (List.mem_cons_of_mem _ q)
theorem zip_names {α β:Type} [BEq α] [LawfulBEq α] (f:α → Option β):∀ {ns:List α} {vs:List β},ns.length = vs.length → ns.Nodup → (∀ x ∈ ns,f x = (ns.zip vs).lookup x) → (ns.filterMap fun n=>(f n).map (n,·)) = ns.zip vs
  | [],_,_,_,_=>by simp
  | n :: ns,[],h,_,_=>by cases h
  | n :: ns,v :: vs,h,nd,e=>by
    have q:=List.nodup_cons.mp nd
    have e0:=e n (List.mem_cons_self ..)
    simp only [List.zip_cons_cons,List.lookup_cons,beq_self_eq_true] at e0
    rw [List.filterMap_cons,e0,List.zip_cons_cons]
    simp only [Option.map_some]
    congr 1
    refine zip_names f (Nat.succ.inj h) q.2 fun x hx=>?_
    have:=e x (List.mem_cons_of_mem _ hx)
    have h1:(x == n) = false:=beq_eq_false_iff_ne.mpr fun e=>q.1 (e ▸ hx)
    rw [this,List.zip_cons_cons,List.lookup_cons,h1]
theorem lookup_zip_app {α β:Type} [BEq α] [LawfulBEq α]:∀ {ns:List α} {vs ws:List β} {x:α},((ns.zip vs).lookup x).isSome = true → (ns.zip (vs ++ ws)).lookup x = (ns.zip vs).lookup x
  | [],_,_,_,h=>by simp at h
  | n :: ns,[],_,_,h=>by simp at h
  | n :: ns,v :: vs,ws,x,h=>by
    simp only [List.cons_append,List.zip_cons_cons,List.lookup_cons] at h ⊢
    cases q:x == n with
    | true=>rfl
    | false=>rw [q] at h; exact lookup_zip_app h
noncomputable def fill1 (sl:List (Str × Value)) (p:Str × Value):List (Str × Value):=if (sl.lookup p.1).isNone then sl ++ [p] else sl
theorem lookup_app {α β:Type} [BEq α]:∀ {l m:List (α × β)} {x:α},(l ++ m).lookup x = (l.lookup x).or (m.lookup x)
  | [],_,_=>by simp
  | (a,b) :: l,m,x=>by
    simp only [List.cons_append,List.lookup_cons]
    cases x == a with
    | true=>rfl
    | false=>exact lookup_app
theorem fill_lookup:∀ {l sl:List (Str × Value)} {x:Str},(l.foldl fill1 sl).lookup x = (sl.lookup x).or (l.lookup x)
  | [],sl,x=>by simp
  | (a,b) :: l,sl,x=>by
    rw [List.foldl_cons,fill_lookup]
    unfold fill1
    cases h:sl.lookup a with
    | some v =>
      simp only [Option.isNone_some,Bool.false_eq_true,if_false,List.lookup_cons]
      cases q:x == a with
      | false=>rfl
      | true =>
        have:x = a:=eq_of_beq q
        subst this
        rw [h]; rfl
    | none =>
      simp only [Option.isNone_none,if_true,lookup_app,List.lookup_cons,List.lookup_nil]
      cases q:x == a with
      | false=>simp
      | true =>
        have:x = a:=eq_of_beq q
        subst this
        rw [h]; simp
theorem fill_zip:∀ {ns:List Str} {vs D:List Value} {k:Nat},D.length + k = ns.length → k ≤ vs.length → vs.length ≤ ns.length → ∀ x:Str,x ∈ ns → ns.Nodup →
    ((ns.zip vs).lookup x).or (((ns.drop k).zip D).lookup x) = (ns.zip (vs ++ D.drop (vs.length - k))).lookup x
  | [],_,_,_,_,_,_,x,h,_=>by cases h
  | n :: ns,[],D,k,h1,h2,_,x,_,_=>by
    obtain rfl:k = 0:=Nat.le_zero.mp h2
    simp
  | n :: ns,v :: vs,D,0,h1,h2,h3,x,hx,nd=>by
    have q:=List.nodup_cons.mp nd
    cases D with
    | nil=>cases h1
    | cons d D =>
      simp only [List.zip_cons_cons,List.lookup_cons,List.drop_zero,List.cons_append,List.length_cons,Nat.sub_zero,List.drop_succ_cons]
      cases e:x == n with
      | true=>rfl
      | false =>
        have hx':x ∈ ns:=by
          rcases List.mem_cons.mp hx with r | r
          · rw [r,beq_self_eq_true] at e; cases e
          · exact r
        have:=fill_zip (ns:=ns) (vs:=vs) (D:=D) (k:=0) (by simpa using h1) (Nat.zero_le _) (Nat.le_of_succ_le_succ h3) x hx' q.2
        simpa using this
  | n :: ns,v :: vs,D,k + 1,h1,h2,h3,x,hx,nd=>by
    have q:=List.nodup_cons.mp nd
    simp only [List.zip_cons_cons,List.lookup_cons,List.drop_succ_cons,List.cons_append,List.length_cons,Nat.add_sub_add_right]
    cases e:x == n with
    | true=>rfl
    | false =>
      have hx':x ∈ ns:=by
        rcases List.mem_cons.mp hx with r | r
        · rw [r,beq_self_eq_true] at e; cases e
        · exact r
      exact fill_zip (by simp only [List.length_cons] at h1; omega) (Nat.le_of_succ_le_succ h2) (Nat.le_of_succ_le_succ h3) x hx' q.2
theorem zip_some:∀ {ns:List Str} {vs:List Value} {k:Nat},k ≤ vs.length → ∀ x:Str,x ∈ ns.take k → ((ns.zip vs).lookup x).isSome = true
  | [],_,_,_,x,h=>by simp at h
  | n :: ns,vs,0,_,x,h=>by simp at h
  | n :: ns,[],k + 1,h,_,_=>by cases h
  | n :: ns,v :: vs,k + 1,h,x,hx=>by
    simp only [List.zip_cons_cons,List.lookup_cons]
    cases e:x == n with
    | true=>rfl
    | false =>
      rw [List.take_succ_cons] at hx
      rcases List.mem_cons.mp hx with r | r
      · rw [r,beq_self_eq_true] at e; cases e
      · exact zip_some (Nat.le_of_succ_le_succ h) x r
theorem fill_loop {M:Model} {A:Around} {E:Value → Shared → Prop} {s:Shared}:∀ {l sl:List (Str × Value)} {Q:List (Str × Value) → Shared → Prop},Q (l.foldl fill1 sl) s →
    wpAny M A (forIn l sl fun x (t:List (Str × Value))=>if (t.lookup x.1).isNone = true then (pure (ForInStep.yield (t ++ [(x.1,x.2)])):Sem _) else pure (ForInStep.yield t)) Q E s
  | [],sl,Q,h=>by simpa using wpAny_pure h
  | p :: l,sl,Q,h=>by
    rw [List.forIn_cons]
    rw [List.foldl_cons] at h
    refine wpAny_bind ?_
    unfold fill1 at h
    split
    · rename_i e
      rw [if_pos e] at h
      exact wpAny_pure (fill_loop h)
    · rename_i e
      rw [if_neg e] at h
      exact wpAny_pure (fill_loop h)
theorem bind_simple {s:Shared} {fd:FuncData} {vs D:List Value} {r:Option (Array Value)} (hp:fd.params.posonlyargs = []) (hk:fd.params.kwonlyargs = []) (hv:fd.params.vararg = none) (hw:fd.params.kwarg = none)
    (hseq:∀ (M:Model) (A:Around) (E:Value → Shared → Prop) (Q:Option (Array Value) → Shared → Prop),Q r s → wpAny M A (seqItems? fd.defaults) Q E s) (hr:(r.getD #[]).toList = D)
    {ns:List Str} (hn:fd.params.args.map (·.arg) = ns) (l1:vs.length ≤ ns.length) (l2:ns.length ≤ vs.length + D.length) (l3:D.length ≤ ns.length) (nd:ns.Nodup) :
    BindsTo s fd ⟨vs,[]⟩ (ns.zip (vs ++ D.drop (vs.length + D.length - ns.length))):=fun M A E Q hq=>by
  have e1:¬ (vs.length > ns.length):=Nat.not_lt.mpr l1
  have e2:D.length - ns.length = 0:=Nat.sub_eq_zero_of_le l3
  have e3:((ns.take (ns.length - D.length)).filter fun n=>((ns.zip vs).lookup n).isNone) = []:=by
    refine List.filter_eq_nil_iff.mpr fun x hx=>?_
    have:=zip_some (ns:=ns) (vs:=vs) (k:=ns.length - D.length) (by omega) x hx
    rw [Option.isNone_iff_eq_none]
    intro e; rw [e] at this; cases this
  unfold bindArgs
  simp only [hp,hk,hv,hw,hn,List.map_nil,List.nil_append,List.append_nil,Option.isNone_none,Bool.and_true,decide_eq_true_eq,e1,if_false]
  refine wpAny_bind (wpAny_pure ?_)
  refine wpAny_bind (hseq _ _ _ _ ?_)
  simp only [hr,e2,List.drop_zero,e3,List.isEmpty_nil,Bool.not_true,Bool.false_eq_true,if_false]
  refine wpAny_bind (fill_loop ?_)
  refine wpAny_bind (wpAny_pure ?_)
  simp only [List.isEmpty_nil,Bool.not_true,Bool.false_eq_true,if_false]
  refine wpAny_pure ?_
  rw [zip_names (vs:=vs ++ D.drop (vs.length + D.length - ns.length)) _ (by rw [List.length_append,List.length_drop]; omega) nd fun x hx=>?_]
  · exact hq
  · rw [fill_lookup,fill_zip (k:=ns.length - D.length) (by omega) (by omega) l1 x hx nd,show vs.length - (ns.length - D.length) = vs.length + D.length - ns.length by omega]
end Mine
end
section
open PySem PySem.W PyProof.Rows
namespace Mine
noncomputable def bootV:List (S × Value):=[("len",.builtin "len"),("max",.builtin "max"),("isinstance",.builtin "isinstance"),("range",.type "range"),("list",.type "list"),("dict",.type "dict"),("str",.type "str")]
noncomputable def globK (K:Frag) (x:S):Option V:=match nsIn K mainGlobals x with
  | some (some v)=>some (.fn v)
  | some none=>(bootV.lookup x).map .fn
  | none=>none
noncomputable def valV:Value → Option V
  | .none=>some .none
  | .bool b=>some (.bool b)
  | _=>none
noncomputable def funcK (K:Frag) (a:Addr):Option FuncData:=match K.lookup a with
  | some ⟨_,_,.func fd,_⟩=>some fd
  | _=>none
noncomputable def dflK (K:Frag) (a:Addr):List V:=match funcK K a with
  | some fd=>(match fd.defaults with
    | .ref T=>(match K.lookup T with
      | some ⟨_,_,.seq vs _,_⟩=>(vs.toList.mapM valV).getD []
      | _=>[])
    | _=>[])
  | none=>[]
noncomputable def clsT:List (Addr × Cls):=[
  (382,⟨372,["kind","items","attrs","shared","loose"],[]⟩),
  (353,⟨350,["kind","attrs"],[]⟩),
  (403,⟨400,["kind","name","attrs"],[]⟩),
  (110,⟨67,["formals","tags","used","places"],[("exact",74),("partial",81),("partial_of",88),("positional",95),("is_free",102),("rest",107)]⟩)]
noncomputable def prg (K:Frag) (need:Nat) (orc:Addr → Option (List V → Option V)) (orb:Addr → Option (O → List V → Option (V × O))):Prg where
  glob:=globK K
  func:=funcK K
  dfl:=dflK K
  cls:=fun a=>clsT.lookup a
  need:=need
  orc:=orc
  orb:=orb
end Mine
end
section
open PySem PySem.W PyProof.Rows
namespace Mine
theorem bindPars_eq:∀ {ns:List S} {args D:List V} {e:En},bindPars ns args D = some e → args.length ≤ ns.length ∧ ns.length ≤ args.length + D.length ∧ e = ns.zip (args ++ D.drop (args.length + D.length - ns.length))
  | [],[],D,e,h=>by simp [bindPars] at h; subst h; simp
  | [],v :: vs,D,e,h=>by simp [bindPars] at h
  | n :: ns,v :: vs,D,e,h=>by
    simp only [bindPars,Option.map_eq_some_iff] at h
    obtain ⟨e',h1,rfl⟩:=h
    obtain ⟨a,b,rfl⟩:=bindPars_eq h1
    refine ⟨by simpa using a,by simp only [List.length_cons]; omega,?_⟩
    simp only [List.cons_append,List.zip_cons_cons,List.length_cons]
    rw [show vs.length + 1 + D.length - (ns.length + 1) = vs.length + D.length - ns.length by omega]
  | n :: ns,[],D,e,h=>by
    simp only [bindPars] at h
    split at h
    · rename_i l
      cases h
      exact ⟨Nat.zero_le _,by simpa using l,by simp⟩
    · cases h
theorem rep_val {w G ρ v V} (h:valV v = some V):RepO w G ρ v V:=by
  unfold valV at h
  split at h <;> cases h
  · exact Rep.none
  · exact Rep.bool _
theorem rol_app {w G ρ}:∀ {xs:List Value} {vs:List V} {ys us},ROL w G ρ xs vs → ROL w G ρ ys us → ROL w G ρ (xs ++ ys) (vs ++ us)
  | _,_,_,_,.nil,h=>h
  | _,_,_,_,.cons a b,h=>.cons a (rol_app b h)
theorem rol_drop {w G ρ}:∀ {xs:List Value} {vs:List V} (n:Nat),ROL w G ρ xs vs → ROL w G ρ (xs.drop n) (vs.drop n)
  | _,_,0,h=>h
  | _,_,n + 1,.nil=>.nil
  | _,_,n + 1,.cons a b=>rol_drop n b
theorem rol_vals {w G ρ}:∀ {xs:List Value} {vs:List V},xs.mapM valV = some vs → ROL w G ρ xs vs
  | [],vs,h=>by simp at h; subst h; exact .nil
  | x :: xs,vs,h=>by
    simp only [List.mapM_cons,Option.bind_eq_bind,Option.bind_eq_some_iff] at h
    obtain ⟨v,h1,vs',h2,h3⟩:=h
    cases h3
    exact .cons (rep_val h1) (rol_vals h2)
theorem zip_rel {w G ρ}:∀ {ns:List S} {xs:List Value} {vs:List V} {x:S} {u:V},ROL w G ρ xs vs → (ns.zip vs).lookup x = some u → ∃ v,(ns.zip xs).lookup x = some v ∧ RepO w G ρ v u
  | [],_,_,_,_,_,h=>by simp at h
  | n :: ns,_,_,_,_,.nil,h=>by simp at h
  | n :: ns,_,_,x,u,.cons a b,h=>by
    simp only [List.zip_cons_cons,List.lookup_cons] at h ⊢
    cases e:x == n with
    | true=>rw [e] at h; cases h; exact ⟨_,rfl,a⟩
    | false=>rw [e] at h; exact zip_rel b h
theorem lookup_rev {α β:Type} [BEq α] [LawfulBEq α]:∀ {l:List (α × β)} {x:α},(l.map (·.1)).Nodup → l.reverse.lookup x = l.lookup x
  | [],_,_=>rfl
  | (a,b) :: l,x,h=>by
    have q:=List.nodup_cons.mp h
    rw [List.reverse_cons,lookup_app,lookup_rev q.2,List.lookup_cons]
    simp only [List.lookup_cons,List.lookup_nil]
    cases e:x == a with
    | false=>simp
    | true =>
      have:x = a:=eq_of_beq e
      subst this
      have:l.lookup x = none:=by
        cases hx:l.lookup x with
        | none=>rfl
        | some v=>exact absurd (List.mem_map.mpr ⟨(x,v),mem_of_lookup hx,rfl⟩) q.1
      rw [this]; rfl
where
  mem_of_lookup {α β:Type} [BEq α] [LawfulBEq α]:∀ {l:List (α × β)} {x:α} {v:β},l.lookup x = some v → (x,v) ∈ l
    | (a,b) :: l,x,v,h=>by
      rw [List.lookup_cons] at h
      cases e:x == a with
      | true=>rw [e] at h; cases h; rw [eq_of_beq e]; exact List.mem_cons_self ..
      | false=>rw [e] at h; exact List.mem_cons_of_mem _ (mem_of_lookup h)
end Mine
end
section
open PySem PySem.W PyProof.Rows
namespace Mine
theorem cells_acc:∀ {names:List (Str × NameKind)} {n:Nat} {acc:List (Str × Addr)} {x:Str},(acc.lookup x).isSome = true → ((cellsFrom n names acc).lookup x).isSome = true
  | [],_,_,_,h=>h
  | (m,k) :: r,n,acc,x,h=>by
    unfold cellsFrom
    split
    · refine cells_acc ?_
      rw [List.lookup_cons]
      cases x == m <;> simp [h]
    · exact cells_acc h
theorem cells_in:∀ {names:List (Str × NameKind)} {n:Nat} {acc:List (Str × Addr)} {x:Str},names.lookup x = some .cell → ((cellsFrom n names acc).lookup x).isSome = true
  | [],_,_,_,h=>by simp at h
  | (m,k) :: r,n,acc,x,h=>by
    rw [List.lookup_cons] at h
    unfold cellsFrom
    cases e:x == m with
    | true =>
      rw [e] at h
      cases h
      rw [if_pos (by rfl)]
      refine cells_acc ?_
      rw [List.lookup_cons,e]; rfl
    | false =>
      rw [e] at h
      split
      · exact cells_in h
      · exact cells_in h
noncomputable def dflOk (K:Frag) (fd:FuncData):Bool:=match fd.defaults with
  | .none=>true
  | .ref T=>(match K.lookup T with
    | some ⟨_,_,.seq vs _,_⟩=>(vs.toList.mapM valV).isSome && Nat.ble vs.toList.length (fd.params.args.map (·.arg)).length
    | _=>false)
  | _=>false
noncomputable def locOk (fd:FuncData):Bool:=(fd.params.args.map (·.arg)).all fun x=>fd.scope.names.lookup x == some .local || fd.scope.names.lookup x == some .cell
noncomputable def okFn (K:Frag) (a:Addr) (fd:FuncData):Bool :=
  (Nat.beq fd.globals mainGlobals && (Nat.beq fd.builtins builtinsNs && (fd.closure.isEmpty && (codeIn K fd.code fd.qualname && (fd.scope.kind == .function && (!fd.scope.isCoroutine && (!fd.scope.isGenerator &&
  (fd.params.posonlyargs.isEmpty && (fd.params.kwonlyargs.isEmpty && (fd.params.vararg.isNone && (fd.params.kwarg.isNone && (decide (fd.params.args.map (·.arg)).Nodup && (locOk fd && (dflOk K fd && (decide ((cellsFrom 0 fd.scope.names []).map (·.1)).Nodup && keepIn K (.ref a))))))))))))))))
theorem funcK_at {K:Frag} {a:Addr} {fd:FuncData} (h:funcK K a = some fd):∃ oc od sl,K.lookup a = some ⟨oc,od,.func fd,sl⟩:=by
  unfold funcK at h
  split at h
  · rename_i oc od fd' sl e; cases h; exact ⟨oc,od,sl,e⟩
  · cases h
theorem seq_none {M:Model} {A:Around} {E:Value → Shared → Prop} {Q:Option (Array Value) → Shared → Prop} {s:Shared} (h:Q none s):wpAny M A (seqItems? .none) Q E s:=by
  unfold seqItems?
  exact wpAny_bind (wpAny_pure (wpAny_pure h))
theorem vals_len:∀ {xs:List Value} {vs:List V},xs.mapM valV = some vs → xs.length = vs.length
  | [],vs,h=>by simp at h; subst h; rfl
  | x :: xs,vs,h=>by
    simp only [List.mapM_cons,Option.bind_eq_bind,Option.bind_eq_some_iff] at h
    obtain ⟨v,h1,vs',h2,h3⟩:=h
    cases h3
    simp [vals_len h2]
theorem rol_len {w G ρ}:∀ {xs:List Value} {vs:List V},ROL w G ρ xs vs → xs.length = vs.length
  | _,_,.nil=>rfl
  | _,_,.cons _ b=>by simp [rol_len b]
theorem funcOk_of {K:Frag} {P:Prg} {a:Addr} {fd:FuncData} (hf:funcK K a = some fd) (hd:P.dfl a = dflK K a) (ok:okFn K a fd = true):FuncOk K P a fd:=by
  unfold okFn at ok
  simp only [Bool.and_eq_true,Bool.not_eq_true',decide_eq_true_eq,List.isEmpty_iff,Option.isNone_iff_eq_none] at ok
  obtain ⟨o1,o2,o3,o4,o5,o6,o7,o8,o9,o10,o11,o12,o13,o14,o15,o16⟩:=ok
  refine ⟨funcK_at hf,Nat.eq_of_beq_eq_true o1,Nat.eq_of_beq_eq_true o2,o3,o4,eq_of_beq o5,o6,o7,o16,fun vs args e hl hb=>?_,o15,fun n x h=>cells_in h⟩
  obtain ⟨D,r,b1,b2,b3,b4⟩:∃ (D:List Value) (r:Option (Array Value)),(∀ s:Shared,K.In s.heap → ∀ (M:Model) (A:Around) (E:Value → Shared → Prop) (Q:Option (Array Value) → Shared → Prop),Q r s → wpAny M A (seqItems? fd.defaults) Q E s) ∧ (r.getD #[]).toList = D ∧
      D.mapM valV = some (dflK K a) ∧ D.length ≤ (fd.params.args.map (·.arg)).length:=by
    unfold dflOk at o14
    cases hdv:fd.defaults with
    | none=>exact ⟨[],none,fun s _ M A E Q h=>seq_none h,rfl,by simp [dflK,hf,hdv],Nat.zero_le _⟩
    | ref T =>
      rw [hdv] at o14
      dsimp only at o14
      split at o14
      · rename_i oc od vs' n sl e
        simp only [Bool.and_eq_true] at o14
        obtain ⟨m,hm⟩:=Option.isSome_iff_exists.mp o14.1
        refine ⟨vs'.toList,some vs',fun s X M A E Q h=>wpAny_seqItems (X _ _ e) rfl h,rfl,?_,Nat.le_of_ble_eq_true o14.2⟩
        simp only [dflK,hf,hdv,e,hm,Option.getD_some]
      · cases o14
    | _=>rw [hdv] at o14; cases o14
  rw [hd] at hb
  have rl:D.length = (dflK K a).length:=vals_len b3
  obtain ⟨c1,c2,rfl⟩:=bindPars_eq hb
  refine ⟨_,fun s X=>bind_simple o8 o9 o10 o11 (b1 s X) b2 rfl (by omega) (by omega) b4 o12,fun w G ρ hr x u hx=>?_,fun y hy=>?_⟩
  · have ll:((fd.params.args.map (·.arg)).zip (vs ++ D.drop (vs.length + D.length - (fd.params.args.map (·.arg)).length))).map (·.1) = fd.params.args.map (·.arg):=by
      rw [List.map_fst_zip]
      rw [List.length_append,List.length_drop]; omega
    rw [lookup_rev (by rw [ll]; exact o12)]
    refine zip_rel (rol_app hr (?_:ROL w G ρ _ ((dflK K a).drop (args.length + (dflK K a).length - (fd.params.args.map (·.arg)).length)))) hx
    rw [hl,rl]
    exact rol_drop _ (rol_vals b3)
  · have hm:y.1 ∈ fd.params.args.map (·.arg):=(List.of_mem_zip (a:=y.1) (b:=y.2) hy).1
    have:=List.all_eq_true.mp o13 _ hm
    simpa using this
end Mine
end
section
open PySem PySem.W PyProof.Rows
namespace Mine
noncomputable def fnsAll:List Addr:=[48,169,400,442,67,74,81,88,95,102,107,139,145,350,372,379,414,421,428,435,449,456,463,470,477,484,491,498,505,510,515,520,527,532,539,546,553,560,567,574,588,595,602,616,623,630,637,642,649,654,661,666,673,680,715,722,729,736,743,748,755,761,768,775,780,785,792,797,802,809,816,823,830,837,844,851,856,861,868,875,882,889,896,903,910,915,922,929,934,939,944,951,958,965]
theorem t3:(fun P:Params=>fnsAll.filter fun a=>!((funcK (KP P) a).map (okFn (KP P) a)).getD false) = fun _=>[]:=by kernel_rfl
end Mine
end
section
open PySem PySem.W PyProof.Rows
namespace Mine
noncomputable def okCls (K:Frag) (C:Addr) (c:Cls):Bool :=
  makesIn K C && (decide (findIn K (.ref C) "__init__" = some (some (.ref c.init))) && (decide (typeIn K (.ref c.init) = some (.type "function")) && (hasDictIn K C && (decide (findIn K (.ref C) "__setattr__" = some (some (.builtin "object.__setattr__"))) && (plainOver K C &&
  (c.fields.all (fun a=>plainGet K C a && (decide (findIn K (.ref C) a = some none) && decide (takerIn K C a = some none))) &&
  (c.meths.all (fun p=>decide (findIn K (.ref C) p.1 = some (some (.ref p.2))) && (isFn K (.ref p.2) && (plainGet K C p.1 && keepIn K (.ref p.2)))) &&
  (keepIn K (.ref C) && (plainGet K C "__class__" && (decide (findIn K (.ref C) "__class__" = some (some (.builtin "object.__class__"))) && (decide (specialIn K (.builtin "object.__class__") "__get__" = some (some (.builtin "getset_descriptor.__get__"))) &&
  (decide (takesIn K (.builtin "object.__class__") = some true) && decide (mroIn K C (.type "object") = some true)))))))))))))
theorem clsOk_of {K:Frag} {C:Addr} {c:Cls} (ok:okCls K C c = true):ClsOk K C c:=by
  unfold okCls at ok
  simp only [Bool.and_eq_true,decide_eq_true_eq,List.all_eq_true] at ok
  obtain ⟨a1,a2,a3,a4,a5,a6,a7,a8,a9,a10,a11,a12,a13,a14⟩:=ok
  exact ⟨a1,a2,a3,a4,a5,a6,fun a h=>⟨(a7 a h).1,(a7 a h).2.1,(a7 a h).2.2⟩,fun a f h=>by
    have:=a8 (a,f) (lookup_rev.mem_of_lookup h)
    exact this,a9,a10,a11,a12,a13,a14⟩
theorem t4:(fun P:Params=>clsT.filter fun p=>!okCls (KP P) p.1 p.2) = fun _=>[]:=by kernel_rfl
theorem t5:(fun P:Params=>clsT.filter fun p=>!clsT.all fun q=>p.1 == q.1 || kin_not (KP P) q.1 p.1) = fun _=>[]:=by kernel_rfl
end Mine
end
section
open PySem PySem.W PyProof.Rows
namespace Mine
noncomputable def prL (K:Frag) (need:Nat) (orc:Addr → Option (List V → Option V)) (orb:Addr → Option (O → List V → Option (V × O))):Prg where
  glob:=globK K
  func:=fun a=>if fnsAll.contains a then funcK K a else none
  dfl:=dflK K
  cls:=fun a=>clsT.lookup a
  need:=need
  orc:=orc
  orb:=orb
theorem boot_ok:bootV.all (fun p=>decide (bootBuiltins p.1 = some p.2) && p.1 != "__name__") = true:=by kernel_rfl
theorem glob_ok {K:Frag} {x:S} {V:V} (h:globK K x = some V):∃ v,V = .fn v ∧ (nsIn K mainGlobals x = some (some v) ∨ (nsIn K mainGlobals x = some none ∧ bootBuiltins x = some v ∧ x ≠ "__name__")):=by
  unfold globK at h
  split at h
  · rename_i v e; cases h; exact ⟨v,rfl,.inl e⟩
  · rename_i e
    obtain ⟨v,h1,rfl⟩:=Option.map_eq_some_iff.mp h
    have:=List.all_eq_true.mp boot_ok _ (lookup_rev.mem_of_lookup h1)
    simp only [Bool.and_eq_true,decide_eq_true_eq,bne_iff_ne] at this
    exact ⟨v,rfl,.inr ⟨e,this.1,this.2⟩⟩
  · cases h
theorem pok (w:Params) (need:Nat) (orc:Addr → Option (List V → Option V)) (orb:Addr → Option (O → List V → Option (V × O))) (hk:∀ a,(orc a).isSome = true ∨ (orb a).isSome = true → a ∈ fnsAll):POk (KP w) (prL (KP w) need orc orb):=by
  have hfn:∀ a ∈ fnsAll,∃ fd,funcK (KP w) a = some fd ∧ okFn (KP w) a fd = true:=fun a ha=>by
    have:=List.filter_eq_nil_iff.mp (congrFun t3 w) a ha
    cases hf:funcK (KP w) a with
    | none=>rw [hf] at this; simp at this
    | some fd=>rw [hf] at this; exact ⟨fd,rfl,by simpa using this⟩
  refine ⟨fun x V h=>glob_ok h,fun C c h=>clsOk_of ?_,fun a fd h=>?_,fun a h=>?_,fun C c D d h1 h2 ne=>?_⟩
  · have:=List.filter_eq_nil_iff.mp (congrFun t4 w) (C,c) (lookup_rev.mem_of_lookup h)
    simpa using this
  · have h:(if fnsAll.contains a then funcK (KP w) a else none) = some fd:=h
    split at h
    · rename_i hc
      obtain ⟨fd',e1,e2⟩:=hfn a (List.contains_iff_mem.mp hc)
      rw [e1] at h; cases h
      exact funcOk_of e1 rfl e2
    · cases h
  · obtain ⟨fd,e1,e2⟩:=hfn a (hk a h)
    exact (funcOk_of (P:=prL (KP w) need orc orb) e1 rfl e2).keep
  · have:=List.filter_eq_nil_iff.mp (congrFun t5 w) (C,c) (lookup_rev.mem_of_lookup h1)
    have q:∀ (x:Addr) (y:Cls),(x,y) ∈ clsT → ¬C = x → kin_not (KP w) x C = true:=by simpa using this
    exact q D d (lookup_rev.mem_of_lookup h2) fun e=>ne e.symm
end Mine
end
section
open PySem PySem.W PyProof.Rows
namespace Mine
noncomputable abbrev Orc:=Addr → Option (List V → Option V)
noncomputable def prO (w:Params) (need:Nat) (orc:Orc):Prg:=prL (KP w) need orc (fun _=>none)
noncomputable def T0 (l:List Addr):Addr → Bool:=fun a=>l.contains a
inductive Kd
  | logical
  | integer
  | double
noncomputable def kS:Kd → S
  | .logical=>"logical"
  | .integer=>"integer"
  | .double=>"double"
noncomputable def encI:Kd → Option Nat → V
  | _,none=>.none
  | .double,some i=>.tup [.int i,.int 1]
  | _,some i=>.int i
noncomputable def vecV (k:S) (vs:List V) (att:V) (sh:Bool):V:=.inst 382 [("kind",.str k),("items",.list vs),("attrs",att),("shared",.bool sh),("loose",.bool false)]
end Mine
end
section
open PySem PySem.W PyProof.Rows
namespace Mine
noncomputable abbrev Row:=List (Option Nat)
noncomputable def R (k:Kd) (row:Row):List V:=row.map (encI k)
noncomputable abbrev LV (k:Kd) (row:Row):V:=.list (R k row)
noncomputable def dI:Kd → Option Nat → PyData
  | _,none=>.none
  | .double,some i=>.tuple [.int i,.int 1]
  | _,some i=>.int i
theorem encI_own (k:Kd) (o:Option Nat):(encI k o).isOwn = false:=by induction k using Kd.casesOn <;> induction o using Option.casesOn <;> rfl
theorem frzV_id {d:Nat} {v:V} {z:Zo} (h:v.isOwn = false):frzV (d + 1) v z = some (v,z):=by
  induction v using V.casesOn <;> first | rfl | exact ff h.symm
theorem frzL_id {d:Nat} {z:Zo} {vs:List V} (h:∀ v ∈ vs,v.isOwn = false):frzL (d + 1) vs z = some (vs,z):=by
  induction vs with
  | nil=>rfl
  | cons v vs ih =>
    show (frzV (d + 1) v z).bind (fun q=>(frzL (d + 1) vs q.2).map fun p=>(q.1 :: p.1,p.2)) = _
    rw [frzV_id (h v (.head _))]
    show (frzL (d + 1) vs z).map _ = _
    rw [ih fun x hx=>h x (.tail _ hx)]; rfl
theorem R_own {k:Kd} {row:Row}:∀ v ∈ R k row,v.isOwn = false:=fun v h=>by
  obtain ⟨o,_,rfl⟩:=List.mem_map.mp h
  exact encI_own k o
theorem frzs_R (k:Kd) (row:Row) (z:Zo):frzs (R k row) z = some (R k row,z):=frzL_id R_own
theorem R_len (k:Kd) (row:Row):(R k row).length = row.length:=by simp [R]
theorem R_app (k:Kd) (a b:Row):R k (a ++ b) = R k a ++ R k b:=by simp [R]
theorem toD_enc (k:Kd) (o:Option Nat):(encI k o).toD = some (dI k o):=by cases k <;> cases o <;> rfl
theorem toDs_R (k:Kd):∀ row:Row,V.toDs (R k row) = some (row.map (dI k))
  | []=>rfl
  | o :: r=>by
    have:=toDs_R k r
    simp only [R,List.map_cons,V.toDs] at this ⊢
    rw [toD_enc,Option.bind_some,this]; rfl
theorem lay_dI (k:Kd) (o:Option Nat):(dI k o).canLay0 = true:=by cases k <;> cases o <;> rfl
theorem lay_row (k:Kd):∀ row:Row,PyData.canLayAll0 (row.map (dI k)) = true
  | []=>rfl
  | o :: r=>by rw [List.map_cons,PyData.canLayAll0,lay_dI,lay_row k r]; rfl
theorem dep_dI (k:Kd) (o:Option Nat):(dI k o).depth ≤ 1:=by cases k <;> cases o <;> first | decide | (simp [dI,PyData.depth,PyData.depthAll])
theorem dep_row (k:Kd):∀ row:Row,PyData.depthAll (row.map (dI k)) ≤ 1
  | []=>by simp [PyData.depthAll]
  | o :: r=>by
    have:=dep_dI k o; have:=dep_row k r
    rw [List.map_cons,PyData.depthAll]; omega
theorem dOk_dI (k:Kd) (o:Option Nat):dOk (dI k o) = true:=by
  unfold dOk
  rw [lay_dI,Bool.true_and,decide_eq_true_eq]
  have:=dep_dI k o; omega
theorem dOk_row (k:Kd) (row:Row):dOk (.list (row.map (dI k))) = true:=by
  unfold dOk
  rw [PyData.canLay0,lay_row,Bool.true_and,decide_eq_true_eq,PyData.depth]
  have:=dep_row k row; omega
theorem eqv_dI (k:Kd) (a b:Option Nat):PyData.eqv (dI k a) (dI k b) = decide (a = b):=by
  have key:∀ i j:Nat,((i:Int) == (j:Int)) = decide (i = j):=fun i j=>by
    rw [Bool.eq_iff_iff,beq_iff_eq,decide_eq_true_eq]; omega
  cases k <;> cases a <;> cases b <;> simp [dI,PyData.eqv,PyData.eqvAll,key]
theorem eqv_row (k:Kd):∀ a b:Row,PyData.eqvAll (a.map (dI k)) (b.map (dI k)) = decide (a = b)
  | [],[]=>rfl
  | [],_ :: _=>rfl
  | _ :: _,[]=>rfl
  | x :: a,y :: b=>by
    rw [List.map_cons,List.map_cons,PyData.eqvAll,eqv_dI,eqv_row k a b,Bool.eq_iff_iff]
    simp
theorem toDz_LV (z:Zo) (k:Kd) (a:Row):toDz z (LV k a) = some (.list (a.map (dI k))):=by
  show V.toD (.list (R k a)) = _
  rw [V.toD,toDs_R]; rfl
theorem toDz_own {z:Zo} {i:Nat} {k:Kd} {a:Row} (h:z[i]? = some (.list (R k a))):toDz z (.own i) = some (.list (a.map (dI k))):=by
  show ((z[i]?).bind O.lst?).bind _ = _
  rw [h]
  show (V.toDs (R k a)).map PyData.list = _
  rw [toDs_R]; rfl
theorem toDz_enc (z:Zo) (k:Kd) (o:Option Nat):toDz z (encI k o) = some (dI k o):=by
  have:toDz z (encI k o) = (encI k o).toD:=by cases k <;> cases o <;> rfl
  rw [this,toD_enc]
structure IsR (z:Zo) (v:V) (k:Kd) (row:Row):Prop where
  d:toDz z v = some (.list (row.map (dI k)))
  l:asList z v = some (R k row)
theorem IsR.lv (z:Zo) (k:Kd) (row:Row):IsR z (LV k row) k row:=⟨toDz_LV z k row,rfl⟩
theorem IsR.own {z:Zo} {i:Nat} {k:Kd} {a:Row} (h:z[i]? = some (.list (R k a))):IsR z (.own i) k a:=⟨toDz_own h,by show (z[i]?).bind O.lst? = _; rw [h]; rfl⟩
theorem both_of {z:Zo} {a b:V} {da db:PyData} (h1:toDz z a = some da) (h2:toDz z b = some db) (d1:dOk da = true) (d2:dOk db = true):both z a b = some (da,db):=by
  unfold both
  rw [h1,h2]
  show (if (dOk da && dOk db) = true then _ else _) = _
  rw [d1,d2]; rfl
theorem eq_row {z:Zo} {v u:V} {k:Kd} {a b:Row} (h:IsR z v k a) (g:IsR z u k b):cmpV z .Eq v u = some (decide (a = b)):=by
  show (both z v u).map _ = _
  rw [both_of h.d g.d (dOk_row k a) (dOk_row k b)]
  show some (PyData.eqvAll _ _) = _
  rw [eqv_row]
theorem ne_row {z:Zo} {v u:V} {k:Kd} {a b:Row} (h:IsR z v k a) (g:IsR z u k b):cmpV z .NotEq v u = some (!decide (a = b)):=by
  exact congrArg (Option.map (!·)) (eq_row h g)
theorem any_row (k:Kd) (o:Option Nat):∀ row:Row,(row.map (dI k)).any (fun y=>PyData.eqv y (dI k o)) = decide (o ∈ row)
  | []=>rfl
  | x :: r=>by
    rw [List.map_cons,List.any_cons,eqv_dI,any_row k o r,Bool.eq_iff_iff,Bool.or_eq_true,decide_eq_true_eq,decide_eq_true_eq,decide_eq_true_eq,List.mem_cons]
    exact ⟨fun h=>h.elim (fun e=>.inl e.symm) .inr,fun h=>h.elim (fun e=>.inl e.symm) .inr⟩
theorem asDict_of_list {z:Zo} {v:V} {xs:List V} (h:asList z v = some xs):asDict z v = none:=by
  refine own_cases h (fun k e h=>?_) fun h=>?_
  · rw [e]; exact lst_notDict h
  · rw [V.lst_of h]; rfl
theorem in_row {z:Zo} {v:V} {k:Kd} {row:Row} (o:Option Nat) (h:IsR z v k row):cmpV z .In (encI k o) v = some (decide (o ∈ row)):=by
  show inz z (encI k o) v = _
  unfold inz
  rw [asDict_of_list h.l,both_of (toDz_enc z k o) h.d (dOk_dI k o) (dOk_row k row)]
  exact congrArg some (any_row k o row)
theorem notin_row {z:Zo} {v:V} {k:Kd} {row:Row} (o:Option Nat) (h:IsR z v k row):cmpV z .NotIn (encI k o) v = some (!decide (o ∈ row)):=by
  exact congrArg (Option.map (!·)) (in_row o h)
theorem find_row (k:Kd) (o:Option Nat):∀ row:Row,indexOf (row.map (dI k)) (dI k o) = if o ∈ row then some (row.idxOf o) else none
  | []=>rfl
  | x :: r=>by
    have:=find_row k o r
    simp only [indexOf] at this ⊢
    rw [List.map_cons,List.findIdx?_cons,this,eqv_dI,List.idxOf_cons]
    by_cases hx:x = o
    · subst hx; simp
    · have hx':¬ o = x:=fun e=>hx e.symm
      have hb:(x == o) = false:=by simpa using hx
      simp only [hx,decide_false,List.mem_cons,hx',false_or,hb]
      by_cases hm:o ∈ r <;> simp [hm]
theorem index_row {z:Zo} {v:V} {k:Kd} {row:Row} {o:Option Nat} (h:IsR z v k row) (ho:o ∈ row) (hl:row.length ≤ lineMax):mcall "list.index" v [encI k o] z = some (.int (row.idxOf o),z):=by
  have h1:row.idxOf o < lineMax:=Nat.lt_of_lt_of_le (List.idxOf_lt_length_iff.mpr ho) hl
  have:mcall "list.index" v [encI k o] z = indexV false v [encI k o] z:=rfl
  rw [this]
  show (both z (encI k o) v).bind _ = _
  rw [both_of (toDz_enc z k o) h.d (dOk_dI k o) (dOk_row k row)]
  show (indexOf (row.map (dI k)) (dI k o)).bind _ = _
  rw [find_row,if_pos ho]
  exact if_pos h1
theorem item_row {z:Zo} {v:V} {k:Kd} {row:Row} {i:Nat} {o:Option Nat} (h:IsR z v k row) (hi:row[i]? = some o):itemV z v (.int i) = some (encI k o):=by
  have hs:asSeq z v = some (R k row):=by
    have l:=h.l
    clear h
    induction v using V.casesOn <;> first | exact l | exact mt l
  show (if (i:Int) < 0 then none else (asSeq z v).bind fun xs=>xs[(i:Int).toNat]?) = _
  rw [if_neg (Int.not_lt.mpr (Int.natCast_nonneg i)),hs]
  show (row.map (encI k))[i]? = _
  rw [List.getElem?_map,hi]; rfl
theorem len_row {P:Prg} {z:Zo} {v:V} {k:Kd} {row:Row} (h:IsR z v k row):bcall P (.builtin "len") [v] z = some (.int row.length,z):=by
  have:bcall P (.builtin "len") [v] z = (asList z v).map fun xs=>(.int xs.length,z):=rfl
  rw [this,h.l,Option.map_some,R_len]
theorem list_row {P:Prg} {z:Zo} {v:V} {k:Kd} {row:Row} (h:IsR z v k row):bcall P (.type "list") [v] z = some (LV k row,z):=by
  have:bcall P (.type "list") [v] z = (asList z v).bind fun xs=>(frzs xs z).map fun (ts,z')=>(.list ts,z'):=rfl
  rw [this,h.l,Option.bind_some,frzs_R]; rfl
theorem range_n {P:Prg} {z:Zo} {n:Nat} (h:n ≤ 1000000):bcall P (.type "range") [.int n] z = some (.rng n,z):=by
  have:bcall P (.type "range") [.int n] z = if 0 ≤ (n:Int) ∧ (n:Int) ≤ 1000000 then some (.rng (n:Int).toNat,z) else none:=rfl
  rw [this,if_pos ⟨by omega,by omega⟩]; rfl
theorem frz_list {z:Zo} (vs:List V):frz (.list vs) z = some (.list vs,z):=rfl
theorem append_own {z:Zo} {i:Nat} {vs:List V} {v:V} (h:z[i]? = some (.list vs)) (hl:vs.length < lineMax):mcall "list.append" (.own i) [v] z = some (.none,z.set i (.list (vs ++ [v]))):=by
  have:mcall "list.append" (.own i) [v] z = appendV (.own i) [v] z:=rfl
  rw [this]
  show (z[i]?).bind _ = _
  rw [h]
  exact if_pos hl
theorem own1 {a:V} (ha:a.isOwn = false):∀ v ∈ [a],v.isOwn = false:=fun v h=>by
  rw [List.mem_singleton.mp h]; exact ha
theorem ownC {a:V} {l:List V} (ha:a.isOwn = false) (hl:∀ v ∈ l,v.isOwn = false):∀ v ∈ a :: l,v.isOwn = false:=fun v h=>by
  rcases List.mem_cons.mp h with rfl | h
  · exact ha
  · exact hl v h
theorem own2 {a b:V} (ha:a.isOwn = false) (hb:b.isOwn = false):∀ v ∈ [a,b],v.isOwn = false:=ownC ha (own1 hb)
theorem own3 {a b c:V} (ha:a.isOwn = false) (hb:b.isOwn = false) (hc:c.isOwn = false):∀ v ∈ [a,b,c],v.isOwn = false:=ownC ha (own2 hb hc)
theorem own4 {a b c d:V} (ha:a.isOwn = false) (hb:b.isOwn = false) (hc:c.isOwn = false) (hd:d.isOwn = false):∀ v ∈ [a,b,c,d],v.isOwn = false:=ownC ha (own3 hb hc hd)
theorem calls_of {P:Prg} {a:Addr} {ts:List V} {r:V} {F:List V → Option V} (ho:P.orc a = some F) (hF:F ts = some r):Calls P a ts r:=fun n z args z1 hn hf=>by
  obtain ⟨m,rfl⟩:∃ m,n = m + 1:=⟨n - 1,by omega⟩
  show refB P (fs P m) m a args z = _
  unfold refB
  rw [ho]
  show (if P.need ≤ m then _ else _) = _
  rw [if_pos (Nat.le_of_lt_succ hn),hf]
  show (F ts).map _ = _
  rw [hF]; rfl
theorem Calls.id {P:Prg} {a:Addr} {ts:List V} {r:V} (H:Calls P a ts r) (hf:∀ v ∈ ts,v.isOwn = false) (n:Nat) (z:Zo) (hn:P.need < n):callV P n (.fn (.ref a)) ts z = some (r,z) :=
  H n z ts z hn (frzL_id hf)
end Mine
end
section
open PySem PySem.W PyProof.Rows
namespace Mine
theorem hT0 {w:Params} {need:Nat} {orc:Orc} {l:List Addr} (h:∀ a ∈ l,orc a = none):∀ a,T0 l a = true → (prO w need orc).orc a = none ∧ (prO w need orc).orb a = none:=fun a ha =>
  ⟨h a (List.contains_iff_mem.mp ha),rfl⟩
noncomputable def keyS:Kd → Option Nat → S
  | _,none=>"NA"
  | .double,some i=>(Str.ofString (toString (i:Int)) ++ ("/":S)) ++ Str.ofString (toString (1:Int))
  | _,some i=>Str.ofString (toString (i:Int))
def small (o:Option Nat):Prop:=∀ i,o = some i → i < 8
theorem small8 {i:Nat} (h:i < 8) {p:Nat → Prop} (h0:p 0) (h1:p 1) (h2:p 2) (h3:p 3) (h4:p 4) (h5:p 5) (h6:p 6) (h7:p 7):p i:=by
  match i,h with
  | 0,_=>exact h0
  | 1,_=>exact h1
  | 2,_=>exact h2
  | 3,_=>exact h3
  | 4,_=>exact h4
  | 5,_=>exact h5
  | 6,_=>exact h6
  | 7,_=>exact h7
theorem str_int {P:Prg} {z:Zo} {i:Nat} (h:i < 8):bcall P (.type "str") [.int i] z = some (.str (Str.ofString (toString (i:Int))),z):=by
  have:bcall P (.type "str") [.int i] z = if (i:Int).natAbs < 10 ^ 10 then some (.str (PySem.Str.ofString (toString (i:Int))),z) else none:=rfl
  rw [this,if_pos (by have:(10:Nat)^10 = 10000000000:=rfl; omega)]
theorem key_len:∀ i:Fin 8,(Str.ofString (toString (i.val:Int))).length + ("/":S).length ≤ 100 ∧ (Str.ofString (toString (i.val:Int)) ++ ("/":S)).length + (Str.ofString (toString (1:Int))).length ≤ 100:=by decide +kernel
theorem add_str {z:Zo} {x y:S} (h:x.length + y.length ≤ 100):binV z .Add (.str x) (.str y) = some (.str (x ++ y),z):=by
  have:x.length + y.length ≤ lineMax:=by unfold lineMax; omega
  exact if_pos this
section
variable (w:Params) (need:Nat) (orc:Orc)
theorem key_run (hl:∀ a ∈ [722],orc a = none) (k:Kd) (o:Option Nat) (ho:small o):runO (prO w need orc) 60 722 [.str (kS k),encI k o] = some (.str (keyS k o)):=by
  cases o with
  | none=>cases k <;> exact runO_of (hT0 hl) (as:=[]) (Wk.of (rfl:some (V.str "NA") = some (V.str "NA")) (by kernel_rfl))
  | some i =>
    have hi:=ho i rfl
    cases k with
    | logical=>exact runO_of (hT0 hl) (as:=[.pr (.str (keyS .integer (some i))) []]) (Wk.of (And.intro (str_int (P:=prO w need orc) (z:=[]) hi) (rfl:some (V.str (keyS .integer (some i))) = some (V.str (keyS .integer (some i))))) (by kernel_rfl))
    | integer=>exact runO_of (hT0 hl) (as:=[.pr (.str (keyS .integer (some i))) []]) (Wk.of (And.intro (str_int (P:=prO w need orc) (z:=[]) hi) (rfl:some (V.str (keyS .integer (some i))) = some (V.str (keyS .integer (some i))))) (by kernel_rfl))
    | double =>
      exact runO_of (hT0 hl) (as:=[.pr (.str (keyS .integer (some i))) [],.bin (.str (keyS .integer (some i) ++ ("/":S))) [],.bin (.str (keyS .double (some i))) []])
        (Wk.of (And.intro (str_int (P:=prO w need orc) (z:=[]) hi) (And.intro (add_str (z:=[]) (key_len ⟨i,hi⟩).1) (And.intro (add_str (z:=[]) (key_len ⟨i,hi⟩).2) (rfl:some (V.str (keyS .double (some i))) = some (V.str (keyS .double (some i))))))) (by kernel_rfl))
end
end Mine
end
section
open PySem PySem.W PyProof.Rows
namespace Mine
theorem keyS_inj8:∀ k ∈ [Kd.logical,.integer,.double],∀ a ∈ (none :: (List.range 8).map some:List (Option Nat)),∀ b ∈ (none :: (List.range 8).map some:List (Option Nat)),keyS k a = keyS k b → a = b:=by decide +kernel
theorem small_mem {o:Option Nat} (h:small o):o ∈ (none :: (List.range 8).map some:List (Option Nat)):=by
  cases o with
  | none=>exact .head _
  | some i=>exact .tail _ (List.mem_map.mpr ⟨i,List.mem_range.mpr (h i rfl),rfl⟩)
theorem keyS_inj {k:Kd} {a b:Option Nat} (ha:small a) (hb:small b) (h:keyS k a = keyS k b):a = b :=
  keyS_inj8 k (by cases k <;> simp) a (small_mem ha) b (small_mem hb) h
noncomputable abbrev Dct:=List (S × V)
noncomputable def fpStep (k:Kd) (d:Dct) (x:Option Nat × Nat):Dct:=match d.lookup (keyS k x.1) with
  | some _=>d
  | none=>setE (keyS k x.1) (.int x.2) d
noncomputable def fpD (k:Kd) (p:Row):Dct:=p.zipIdx.foldl (fpStep k) []
theorem fpD_snoc (k:Kd) (p:Row) (o:Option Nat):fpD k (p ++ [o]) = fpStep k (fpD k p) (o,p.length):=by
  simp [fpD,List.zipIdx_append]
theorem lookup_setE {x y:S} {v:V}:∀ {d:Dct},(setE x v d).lookup y = if y = x then some v else d.lookup y
  | []=>by
    simp only [setE,List.lookup_cons,List.lookup_nil]
    by_cases h:y = x
    · subst h; simp
    · have:(y == x) = false:=by simpa using h
      simp [this,h]
  | (k,w) :: d=>by
    rw [setE]
    by_cases hk:k = x
    · subst hk
      rw [if_pos rfl,List.lookup_cons,List.lookup_cons]
      by_cases h:y = k
      · subst h; simp
      · have:(y == k) = false:=by simpa using h
        simp [this,h]
    · rw [if_neg hk,List.lookup_cons,lookup_setE (d:=d),List.lookup_cons]
      by_cases h:y = k
      · subst h; simp [hk]
      · have:(y == k) = false:=by simpa using h
        simp [this]
abbrev Sm (row:Row):Prop:=∀ o ∈ row,small o
theorem fpD_lookup {k:Kd} {o:Option Nat} (ho:small o):∀ (n:Nat) (p:Row),p.length = n → Sm p → (fpD k p).lookup (keyS k o) = if o ∈ p then some (.int (p.idxOf o)) else none
  | 0,p,hp,_=>by
    have:p = []:=List.eq_nil_of_length_eq_zero hp
    subst this; rfl
  | n + 1,p,hp,hs=>by
    obtain ⟨q,a,rfl⟩:∃ q a,p = q ++ [a]:=⟨p.dropLast,p.getLast (by intro e; subst e; cases hp),(List.dropLast_concat_getLast _).symm⟩
    have hq:q.length = n:=by simpa using hp
    have sq:Sm q:=fun x hx=>hs x (List.mem_append_left _ hx)
    have sa:small a:=hs a (by simp)
    have ia:=fpD_lookup (k:=k) sa n q hq sq
    have io:=fpD_lookup (k:=k) ho n q hq sq
    rw [fpD_snoc,fpStep]
    simp only
    rw [ia]
    by_cases ha:a ∈ q
    · rw [if_pos ha]
      simp only
      rw [io,List.idxOf_append]
      by_cases h:o ∈ q
      · simp [h]
      · have:o ≠ a:=fun e=>h (e ▸ ha)
        simp [h,this]
    · rw [if_neg ha]
      simp only
      rw [lookup_setE,io,List.idxOf_append]
      by_cases e:o = a
      · subst e; simp [ha]
      · have:¬ keyS k o = keyS k a:=fun h=>e (keyS_inj ho sa h)
        rw [if_neg this]
        by_cases h:o ∈ q <;> simp [h,e]
theorem fpD_len {k:Kd}:∀ (n:Nat) (p:Row),p.length = n → (fpD k p).length ≤ n
  | 0,p,hp=>by
    have:p = []:=List.eq_nil_of_length_eq_zero hp
    subst this; simp [fpD]
  | n + 1,p,hp=>by
    obtain ⟨q,a,rfl⟩:∃ q a,p = q ++ [a]:=⟨p.dropLast,p.getLast (by intro e; subst e; cases hp),(List.dropLast_concat_getLast _).symm⟩
    have hq:q.length = n:=by simpa using hp
    have iq:=fpD_len (k:=k) n q hq
    rw [fpD_snoc,fpStep]
    simp only
    split
    · omega
    · refine Nat.le_trans (setE_len _ _ _) ?_; omega
theorem range_split {n x:Nat} {pre post:List Nat} (h:List.range n = pre ++ x :: post):x = pre.length ∧ x < n:=by
  have h1:(List.range n)[pre.length]? = some x:=by rw [h]; simp
  have h2:n = pre.length + (post.length + 1):=by have:=congrArg List.length h; simpa using this
  rw [List.getElem?_range (by omega)] at h1
  cases h1
  exact ⟨rfl,by omega⟩
theorem take_snoc {row:Row} {m:Nat} (h:m < row.length):row.take (m + 1) = row.take m ++ [row.getD m none]:=by
  rw [List.take_add_one,List.getD_eq_getElem?_getD,List.getElem?_eq_getElem h]; rfl
theorem getD_some {row:Row} {m:Nat} (h:m < row.length):row[m]? = some (row.getD m none):=by
  rw [List.getD_eq_getElem?_getD,List.getElem?_eq_getElem h]; rfl
theorem getD_mem {row:Row} {m:Nat} (h:m < row.length):row.getD m none ∈ row:=List.mem_of_getElem? (getD_some h)
theorem idx_take {row:Row} {m:Nat} (h:m < row.length):row.idxOf (row.getD m none) = if row.getD m none ∈ row.take m then (row.take m).idxOf (row.getD m none) else m:=by
  have e:row = row.take m ++ row.getD m none :: row.drop (m + 1):=by
    rw [List.getD_eq_getElem?_getD,List.getElem?_eq_getElem h]
    simp
  have hl:(row.take m).length = m:=by simp; omega
  have key:∀ o,row = row.take m ++ o :: row.drop (m + 1) → row.idxOf o = if o ∈ row.take m then (row.take m).idxOf o else m:=fun o e=>by
    have:row.idxOf o = (row.take m ++ o :: row.drop (m + 1)).idxOf o:=congrArg _ e
    rw [this,List.idxOf_append]
    by_cases hm:o ∈ row.take m
    · simp [hm]
    · rw [if_neg hm,if_neg hm,hl]; simp
  exact key _ e
theorem set_same {z:Zo} {i:Nat} {o:O} (h:z[i]? = some o):z.set i o = z:=by
  refine List.ext_getElem? fun j=>?_
  rw [List.getElem?_set]
  split
  · rename_i e; subst e; rw [h]; split <;> first | rfl | (rename_i q; have:=List.getElem?_eq_some_iff.mp h; exact absurd this.1 q)
  · rfl
theorem setdefault_fp {z:Zo} {i m:Nat} {k:Kd} {row:Row} (hz:z[i]? = some (.dict (fpD k (row.take m)))) (hm:m < row.length) (hs:Sm row) (hl:row.length ≤ 20) :
    mcall "dict.setdefault" (.own i) [.str (keyS k (row.getD m none)),.int m] z = some (.int (row.idxOf (row.getD m none)),z.set i (.dict (fpD k (row.take (m + 1))))):=by
  have:mcall "dict.setdefault" (.own i) [.str (keyS k (row.getD m none)),.int m] z = setdefaultV (.own i) [.str (keyS k (row.getD m none)),.int m] z:=rfl
  rw [this]
  have st:Sm (row.take m):=fun o ho=>hs o (List.mem_of_mem_take ho)
  have so:=hs _ (getD_mem hm)
  have tl:(row.take m).length = m:=by simp; omega
  have lk:=fpD_lookup (k:=k) so _ (row.take m) rfl st
  have ln:=fpD_len (k:=k) _ (row.take m) rfl
  rw [take_snoc hm,fpD_snoc,fpStep,idx_take hm]
  show (z[i]?).bind _ = _
  rw [hz]
  show (match (fpD k (row.take m)).lookup (keyS k (row.getD m none)) with | some v=>some (v,z) | none=>if (fpD k (row.take m)).length < 1000 then some (V.int m,z.set i (.dict (setE (keyS k (row.getD m none)) (.int m) (fpD k (row.take m))))) else none) = _
  rw [lk,tl]
  by_cases h:row.getD m none ∈ row.take m
  · simp only [if_pos h]
    rw [set_same hz]
  · simp only [if_neg h]
    rw [if_pos (by omega)]
end Mine
end
section
open PySem PySem.W PyProof.Rows
namespace Mine
theorem frz_own {z:Zo} {i:Nat} {k:Kd} {row:Row} (h:z[i]? = some (.list (R k row))):(frz (.own i) z).map (·.1) = some (LV k row):=by
  have hm:mutAt z i = true:=by unfold mutAt; rw [h]; rfl
  have:frzLf (frzV 5) (R k row) z = some (R k row,z):=frzL_id (d:=4) R_own
  unfold frz frzDepth
  rw [frzV]
  simp only [h,this,Option.bind_some,hm,if_true,Option.map_some]
section
variable {w:Params} {need:Nat} {orc:Orc}
def HKey (P:Prg):Prop:=∀ k o,small o → Calls P 722 [.str (kS k),encI k o] (.str (keyS k o))
noncomputable def fpI (row:Row) (m:Nat):Row:=(row.take m).map fun o=>some (row.idxOf o)
theorem fpI_snoc {row:Row} {m:Nat} (h:m < row.length):fpI row (m + 1) = fpI row m ++ [some (row.idxOf (row.getD m none))]:=by
  unfold fpI; rw [take_snoc h]; simp
noncomputable def fpSt (k:Kd) (row:Row) (att:V) (sh:Bool) (m:Nat):En × Zo:=([("v",vecV (kS k) (R k row) att sh),("known",.own 0),("found",.own 1)],[.dict (fpD k (row.take m)),.list (R .integer (fpI row m))])
theorem first_run (hl:∀ a ∈ [743,729],orc a = none) (hn:need ≤ 60) (H:HKey (prO w need orc)) (k:Kd) (row:Row) (hs:Sm row) (hr:row.length ≤ 20) (att:V) (sh:Bool) :
    runO (prO w need orc) 100 743 [vecV (kS k) (R k row) att sh] = some (LV .integer (row.map fun o=>some (row.idxOf o))):=by
  by_cases h0:row = []
  · subst h0
    cases k <;> exact runO_of (hT0 hl) (as:=[]) (Wk.of (rfl:some (V.list []) = some (V.list [])) (by kernel_rfl))
  · have hp:0 < row.length:=List.length_pos_iff.mpr h0
    have t0:=len_row (P:=prO w need orc) (z:=[.dict [],.list []]) (IsR.lv [.dict [],.list []] k row)
    have t1:=range_n (P:=prO w need orc) (z:=[.dict [],.list []]) (n:=row.length) (by omega)
    have t2:(List.range row.length).map (fun i:Nat=>V.int i) = (List.range row.length).map (fun i:Nat=>V.int i):=rfl
    have t3:(List.range row.length).getLast? = some (row.length - 1):=by
      rw [List.getLast?_range]; simp; omega
    have t4:fpSt k row att sh 0 = fpSt k row att sh 0:=rfl
    have t5:∀ pre:List Nat,((fpSt k row att sh pre.length).1.lookup ("place":S)).isNone = true:=fun pre=>by kernel_rfl
    have t6:∀ (pre:List Nat) (x:Nat) (post:List Nat),List.range row.length = pre ++ x :: post →
        itemV (fpSt k row att sh pre.length).2 (LV k row) (.int x) = some (encI k (row.getD x none)) ∧
        callV (prO w need orc) 86 (.fn (.ref 722)) [.str (kS k),encI k (row.getD x none)] (fpSt k row att sh pre.length).2 = some (.str (keyS k (row.getD x none)),(fpSt k row att sh pre.length).2) ∧
        mcall "dict.setdefault" (.own 0) [.str (keyS k (row.getD x none)),.int x] (fpSt k row att sh pre.length).2 = some (.int (row.idxOf (row.getD x none)),[.dict (fpD k (row.take (x + 1))),.list (R .integer (fpI row x))]) ∧
        mcall "list.append" (.own 1) [.int (row.idxOf (row.getD x none))] [.dict (fpD k (row.take (x + 1))),.list (R .integer (fpI row x))] = some (.none,(fpSt k row att sh (x + 1)).2) ∧
        ((fpSt k row att sh pre.length).1 ++ [(("place":S),V.int x)],(fpSt k row att sh (x + 1)).2) = ((fpSt k row att sh (pre ++ [x]).length).1 ++ [(("place":S),V.int x)],(fpSt k row att sh (pre ++ [x]).length).2):=by
      intro pre x post hx
      obtain ⟨rfl,hlt⟩:=range_split hx
      refine ⟨item_row (IsR.lv _ k row) (getD_some hlt),(H k _ (hs _ (getD_mem hlt))).id (own2 rfl (encI_own _ _)) _ _ (by show need < 86; omega),setdefault_fp (z:=(fpSt k row att sh pre.length).2) (i:=0) rfl hlt hs hr,?_,?_⟩
      · rw [append_own (vs:=R .integer (fpI row pre.length)) rfl (by rw [R_len]; unfold fpI lineMax; simp; omega)]
        unfold fpSt
        rw [fpI_snoc hlt,R_app]; rfl
      · simp only [List.length_append,List.length_cons,List.length_nil]; rfl
    have t7:(frz (.own 1) (fpSt k row att sh (List.range row.length).length).2).map (·.1) = some (LV .integer (row.map fun o=>some (row.idxOf o))):=by
      rw [List.length_range,frz_own (i:=1) (k:=.integer) (row:=fpI row row.length) rfl]
      unfold fpI; rw [List.take_length]
    have t:=And.intro t0 (And.intro t1 (And.intro t2 (And.intro t3 (And.intro t4 (And.intro t5 (And.intro t6 t7))))))
    refine runO_of (hT0 hl) (as:=[.pr (.int row.length) [.dict [],.list []],.pr (.rng row.length) [.dict [],.list []],
      .loop (List.range row.length) (fun i=>.int i) (row.length - 1) (fun pre=>fpSt k row att sh pre.length)
        (fun _ x=>[.item (encI k (row.getD x none)),.val (.str (keyS k (row.getD x none))),.mc (.int (row.idxOf (row.getD x none))) [.dict (fpD k (row.take (x + 1))),.list (R .integer (fpI row x))],.mc .none (fpSt k row att sh (x + 1)).2])]) ?_
    cases k <;> exact Wk.of t (by kernel_rfl)
end
end Mine
end
section
open PySem PySem.W PyProof.Rows
namespace Mine
inductive Arg
  | vec (k:Kd) (row:Row) (nm:Option V)
  | null
noncomputable def attV:Option V → V
  | none=>.none
  | some n=>.dict [("names",n)]
noncomputable abbrev nullV:V:=.inst 353 [("kind",.str "NULL"),("attrs",.none)]
noncomputable def argV:Arg → V
  | .vec k row nm=>vecV (kS k) (R k row) (attV nm) false
  | .null=>nullV
noncomputable def argK:Arg → Kd
  | .vec k _ _=>k
  | .null=>.logical
noncomputable def argR:Arg → Row
  | .vec _ row _=>row
  | .null=>[]
noncomputable abbrev vec0 (k:Kd) (row:Row):V:=vecV (kS k) (R k row) .none false
theorem argV_own (a:Arg):(argV a).isOwn = false:=by cases a <;> rfl
theorem arg0 (k:Kd) (row:Row):argV (.vec k row none) = vec0 k row:=rfl
abbrev RowOk (row:Row):Prop:=Sm row ∧ row.length ≤ 20
noncomputable def kle:Kd → Kd → Bool
  | .logical,_=>true
  | .integer,.logical=>false
  | .integer,_=>true
  | .double,.double=>true
  | .double,_=>false
noncomputable def kmax (a b:Kd):Kd:=if kle a b then b else a
theorem frz_enc (k:Kd) (o:Option Nat) (z:Zo):frz (encI k o) z = some (encI k o,z):=frzV_id (encI_own k o)
theorem fm_map {α:Type} (f:α → V):∀ xs:List α,xs.filterMap (fun x=>some (f x)) = xs.map f
  | []=>rfl
  | x :: xs=>by rw [List.filterMap_cons,fm_map f xs]; rfl
section
variable {w:Params} {need:Nat} {orc:Orc}
theorem itemas_run (hl:∀ a ∈ [616,595,602,623,169],orc a = none) (k1 k2:Kd) (o:Option Nat) (h:kle k1 k2 = true):runO (prO w need orc) 60 616 [.str (kS k1),encI k1 o,.str (kS k2),.list []] = some (encI k2 o):=by
  have t:some (encI k2 o) = some (encI k2 o):=rfl
  refine runO_of (hT0 hl) (as:=[]) ?_
  cases k1 <;> cases k2 <;> first | (cases h; done) | (cases o <;> exact Wk.of t (by kernel_rfl))
theorem plain_run (hl:∀ a ∈ [768,456,661,539,477,382],orc a = none) (a:Arg):runO (prO w need orc) 60 768 [argV a] = some (vec0 (argK a) (argR a)):=by
  have t:some (vec0 (argK a) (argR a)) = some (vec0 (argK a) (argR a)):=rfl
  refine runO_of (hT0 hl) (as:=[]) ?_
  cases a with
  | null=>exact Wk.of t (by kernel_rfl)
  | vec k row nm=>cases k <;> cases nm <;> exact Wk.of t (by kernel_rfl)
theorem frz_ownL {z:Zo} {i:Nat} {vs:List V} (h:z[i]? = some (.list vs)) (hv:∀ v ∈ vs,v.isOwn = false):(frz (.own i) z).map (·.1) = some (.list vs):=by
  have hm:mutAt z i = true:=by unfold mutAt; rw [h]; rfl
  have:frzLf (frzV 5) vs z = some (vs,z):=frzL_id (d:=4) hv
  unfold frz frzDepth
  rw [frzV]
  simp only [h,this,Option.bind_some,hm,if_true,Option.map_some]
noncomputable abbrev takeL:List Addr:=[145,139,67,74,81,88,95,102,107,110]
noncomputable abbrev MatchO (fs tags:List V):O:=.inst 110 [("formals",.list fs),("tags",.list tags),("used",.own 2),("places",.own 3)]
noncomputable abbrev fUnique:List V:=[.str "x",.str "incomparables",.str "..."]
noncomputable abbrev fDup:List V:=[.str "x",.str "incomparables",.str "fromLast",.str "..."]
noncomputable abbrev fMatch:List V:=[.str "x",.str "table",.str "nomatch",.str "incomparables"]
noncomputable abbrev fIn:List V:=[.str "x",.str "table"]
noncomputable abbrev fSet:List V:=[.str "x",.str "y"]
noncomputable abbrev arg1 (u:V):V:=.list [.tup [.none,u]]
noncomputable abbrev arg2 (u v:V):V:=.list [.tup [.none,u],.tup [.none,v]]
theorem take_unique (hl:∀ a ∈ takeL,orc a = none) (u:V) (hu:u.isOwn = false):runO (prO w need orc) 60 145 [arg1 u,.list fUnique] = some (.list [u,.none,.list []]):=by
  have t:=frz_ownL (z:=[MatchO fUnique [.none],.list [.int 0],.list [.int 2],.frz (.dict [("x",.int 0)]),.list [u,.none,.list []]]) (i:=4) (vs:=[u,.none,.list []]) rfl (own3 hu rfl rfl)
  exact runO_of (hT0 hl) (as:=[]) (Wk.of t (by kernel_rfl))
theorem take_dup1 (hl:∀ a ∈ takeL,orc a = none) (u:V) (hu:u.isOwn = false):runO (prO w need orc) 60 145 [arg1 u,.list fDup] = some (.list [u,.none,.none,.list []]):=by
  have t:=frz_ownL (z:=[MatchO fDup [.none],.list [.int 0],.list [.int 2],.frz (.dict [("x",.int 0)]),.list [u,.none,.none,.list []]]) (i:=4) (vs:=[u,.none,.none,.list []]) rfl (own4 hu rfl rfl rfl)
  exact runO_of (hT0 hl) (as:=[]) (Wk.of t (by kernel_rfl))
theorem take_dup2 (hl:∀ a ∈ takeL,orc a = none) (u v:V) (hu:u.isOwn = false) (hv:v.isOwn = false):runO (prO w need orc) 60 145 [.list [.tup [.none,u],.tup [.str "fromLast",v]],.list fDup] = some (.list [u,.none,v,.list []]):=by
  have t:=frz_ownL (z:=[MatchO fDup [.none,.str "fromLast"],.list [.int 0],.list [.int 2,.int 2],.frz (.dict [("fromLast",.int 1),("x",.int 0)]),.list [u,.none,v,.list []]]) (i:=4) (vs:=[u,.none,v,.list []]) rfl (own4 hu rfl hv rfl)
  exact runO_of (hT0 hl) (as:=[]) (Wk.of t (by kernel_rfl))
theorem take_match2 (hl:∀ a ∈ takeL,orc a = none) (u v:V) (hu:u.isOwn = false) (hv:v.isOwn = false):runO (prO w need orc) 60 145 [arg2 u v,.list fMatch] = some (.list [u,v,.none,.none]):=by
  have t:=frz_ownL (z:=[MatchO fMatch [.none,.none],.list [.int 0],.list [.int 2,.int 2],.frz (.dict [("x",.int 0),("table",.int 1)]),.list [u,v,.none,.none]]) (i:=4) (vs:=[u,v,.none,.none]) rfl (own4 hu hv rfl rfl)
  exact runO_of (hT0 hl) (as:=[]) (Wk.of t (by kernel_rfl))
theorem take_match3 (hl:∀ a ∈ takeL,orc a = none) (u v x:V) (hu:u.isOwn = false) (hv:v.isOwn = false) (hx:x.isOwn = false):runO (prO w need orc) 60 145 [.list [.tup [.none,u],.tup [.none,v],.tup [.str "nomatch",x]],.list fMatch] = some (.list [u,v,x,.none]):=by
  have t:=frz_ownL (z:=[MatchO fMatch [.none,.none,.str "nomatch"],.list [.int 0],.list [.int 2,.int 2,.int 2],.frz (.dict [("nomatch",.int 2),("x",.int 0),("table",.int 1)]),.list [u,v,x,.none]]) (i:=4) (vs:=[u,v,x,.none]) rfl (own4 hu hv hx rfl)
  exact runO_of (hT0 hl) (as:=[]) (Wk.of t (by kernel_rfl))
theorem take_in (hl:∀ a ∈ takeL,orc a = none) (u v:V) (hu:u.isOwn = false) (hv:v.isOwn = false):runO (prO w need orc) 60 145 [arg2 u v,.list fIn] = some (.list [u,v]):=by
  have t:=frz_ownL (z:=[MatchO fIn [.none,.none],.list [.int 0],.list [.int 2,.int 2],.frz (.dict [("x",.int 0),("table",.int 1)]),.list [u,v]]) (i:=4) (vs:=[u,v]) rfl (own2 hu hv)
  exact runO_of (hT0 hl) (as:=[]) (Wk.of t (by kernel_rfl))
theorem take_set (hl:∀ a ∈ takeL,orc a = none) (u v:V) (hu:u.isOwn = false) (hv:v.isOwn = false):runO (prO w need orc) 60 145 [arg2 u v,.list fSet] = some (.list [u,v]):=by
  have t:=frz_ownL (z:=[MatchO fSet [.none,.none],.list [.int 0],.list [.int 2,.int 2],.frz (.dict [("x",.int 0),("y",.int 1)]),.list [u,v]]) (i:=4) (vs:=[u,v]) rfl (own2 hu hv)
  exact runO_of (hT0 hl) (as:=[]) (Wk.of t (by kernel_rfl))
end
end Mine
end
section
open PySem PySem.W PyProof.Rows
namespace Mine
section
variable {w:Params} {need:Nat} {orc:Orc}
def HItem (P:Prg):Prop:=∀ k1 k2 o,kle k1 k2 = true → Calls P 616 [.str (kS k1),encI k1 o,.str (kS k2),.list []] (encI k2 o)
def HPlain (P:Prg):Prop:=∀ a,Calls P 768 [argV a] (vec0 (argK a) (argR a))
def HFirst (P:Prg):Prop:=∀ k row att sh,RowOk row → Calls P 743 [vecV (kS k) (R k row) att sh] (LV .integer (row.map fun o=>some (row.idxOf o)))
def HAs (P:Prg):Prop:=∀ k1 k2 row,kle k1 k2 = true → row.length ≤ 20 → Calls P 654 [vec0 k1 row,.str (kS k2),.list []] (vec0 k2 row)
theorem fit_R {k:Kd} {row:Row} (h:row.length ≤ 1000):(R k row).length ≤ lineMax:=by rw [R_len]; unfold lineMax; omega
theorem as_run (hl:∀ a ∈ [654,520,527,477,649,382],orc a = none) (hn:need ≤ 60) (H:HItem (prO w need orc)) (k1 k2:Kd) (row:Row) (h:kle k1 k2 = true) (hr:row.length ≤ 20) :
    runO (prO w need orc) 100 654 [vec0 k1 row,.str (kS k2),.list []] = some (vec0 k2 row):=by
  have tf:some (vec0 k2 row) = some (vec0 k2 row):=rfl
  by_cases e:k1 = k2
  · subst e
    have t0:=list_row (P:=prO w need orc) (z:=[]) (IsR.lv [] k1 row)
    have t:=And.intro t0 tf
    refine runO_of (hT0 hl) (as:=[.pr (LV k1 row) []]) ?_
    cases k1 <;> exact Wk.of t (by kernel_rfl)
  · have t0:R k1 row = row.map (encI k1):=rfl
    have t1:∀ o ∈ row,callV (prO w need orc) 90 (.fn (.ref 616)) [.str (kS k1),encI k1 o,.str (kS k2),.list []] [] = some (encI k2 o,[]) ∧ frz (encI k2 o) [] = some (encI k2 o,[]) ∧ some (encI k2 o) = some (encI k2 o) ∧ ([]:Zo) = []:=fun o _ =>
      ⟨(H k1 k2 o h).id (own4 rfl (encI_own _ _) rfl rfl) _ _ (by show need < 90; omega),frz_enc _ _ _,rfl,rfl⟩
    have t2:(R k1 row).length ≤ lineMax:=fit_R (by omega)
    have t3:bcall (prO w need orc) (.type "list") [.list (row.filterMap fun o=>some (encI k2 o))] [] = some (LV k2 row,[]):=by
      rw [fm_map]; exact list_row (IsR.lv [] k2 row)
    have t:=And.intro t0 (And.intro t1 (And.intro t2 (And.intro t3 tf)))
    refine runO_of (hT0 hl) (as:=[.comp row (encI k1) (fun o=>some (encI k2 o)) (fun o=>[.val (encI k2 o),.fz (encI k2 o) []]),.pr (LV k2 row) []]) ?_
    cases k1 <;> cases k2 <;> first | (cases h; done) | exact absurd rfl e | exact Wk.of t (by kernel_rfl)
noncomputable def upl (row:Row):List Nat:=(List.range row.length).filter fun i=>row.idxOf (row.getD i none) = i
theorem fm_if {α:Type} (p:α → Bool) (f:α → V):∀ xs:List α,xs.filterMap (fun x=>if p x = true then some (f x) else none) = (xs.filter p).map f
  | []=>rfl
  | x :: xs=>by
    rw [List.filterMap_cons,fm_if p f xs,List.filter_cons]
    cases h:p x <;> simp
noncomputable abbrev idxR (row:Row):Row:=row.map fun o=>some (row.idxOf o)
theorem idx_item {row:Row} {i:Nat} (h:i < row.length):(idxR row)[i]? = some (some (row.idxOf (row.getD i none))):=by
  rw [List.getElem?_map,getD_some h]; rfl
theorem cmp_int {z:Zo} {i j:Nat}:cmpV z .Eq (.int i) (.int j) = some (decide (i = j)):=by
  show eqz z (.int i) (.int j) = _
  unfold eqz
  rw [both_of (da:=.int i) (db:=.int j) rfl rfl (dOk_dI .integer (some i)) (dOk_dI .integer (some j))]
  have h3:PyData.eqv (.int i) (.int j) = decide (some i = some j):=eqv_dI .integer (some i) (some j)
  show some (PyData.eqv (.int i) (.int j)) = _
  rw [h3]; simp
theorem cmp_ne {z:Zo} {i j:Nat}:cmpV z .NotEq (.int i) (.int j) = some (!decide (i = j)):=by
  exact congrArg (Option.map (!·)) (cmp_int (z:=z) (i:=i) (j:=j))
theorem upl_run (hl:∀ a ∈ [748],orc a = none) (hn:need ≤ 100) (H:HFirst (prO w need orc)) (k:Kd) (row:Row) (att:V) (sh:Bool) (hr:RowOk row) :
    runO (prO w need orc) 140 748 [vecV (kS k) (R k row) att sh] = some (LV .integer ((upl row).map some)):=by
  have t0:callV (prO w need orc) 135 (.fn (.ref 743)) [vecV (kS k) (R k row) att sh] [] = some (LV .integer (idxR row),[]):=(H k row att sh hr).id (own1 rfl) _ _ (by show need < 135; omega)
  have t1:=len_row (P:=prO w need orc) (z:=[]) (IsR.lv [] .integer (idxR row))
  have t2:=range_n (P:=prO w need orc) (z:=[]) (n:=(idxR row).length) (by have:=hr.2; simp; omega)
  have t3:(List.range (idxR row).length).map (fun i:Nat=>V.int i) = (List.range (idxR row).length).map (fun i:Nat=>V.int i):=rfl
  let g:Nat → Option V:=fun i=>if decide (row.idxOf (row.getD i none) = i) = true then some (.int i) else none
  have t4:∀ i ∈ List.range (idxR row).length,itemV [] (LV .integer (idxR row)) (.int i) = some (.int (row.idxOf (row.getD i none))) ∧ cmpV [] .Eq (.int (row.idxOf (row.getD i none))) (.int i) = some (decide (row.idxOf (row.getD i none) = i)) ∧
      (match decide (row.idxOf (row.getD i none) = i) with | true=>some (V.int i) = g i ∧ ([]:Zo) = [] | false=>none = g i ∧ ([]:Zo) = []):=fun i hi=>by
    have hi':i < row.length:=by simpa using hi
    refine ⟨item_row (k:=.integer) (o:=some _) (IsR.lv [] .integer (idxR row)) (idx_item hi'),cmp_int,?_⟩
    show (match decide (row.idxOf (row.getD i none) = i) with | true=>some (V.int i) = (if decide (row.idxOf (row.getD i none) = i) = true then some (.int i) else none) ∧ ([]:Zo) = [] | false=>none = (if decide (row.idxOf (row.getD i none) = i) = true then some (V.int i) else none) ∧ ([]:Zo) = [])
    cases decide (row.idxOf (row.getD i none) = i) <;> exact ⟨rfl,rfl⟩
  have t5:((List.range (idxR row).length).map (fun i:Nat=>V.int i)).length ≤ lineMax:=by have:=hr.2; simp; unfold lineMax; omega
  have t6:some (V.list ((List.range (idxR row).length).filterMap g)) = some (LV .integer ((upl row).map some)):=by
    have:(List.range (idxR row).length).filterMap g = _:=fm_if _ _ _
    rw [this,List.length_map]
    simp [LV,R,upl,encI]
  have t:=And.intro t0 (And.intro t1 (And.intro t2 (And.intro t3 (And.intro t4 (And.intro t5 t6)))))
  refine runO_of (hT0 hl) (as:=[.val (LV .integer (idxR row)),.pr (.int (idxR row).length) [],.pr (.rng (idxR row).length) [],.comp (List.range (idxR row).length) (fun i=>.int i) g (fun i=>[.item (.int (row.idxOf (row.getD i none))),.cmp (decide (row.idxOf (row.getD i none) = i))])]) ?_
  cases k <;> exact Wk.of t (by kernel_rfl)
end
end Mine
end
section
open PySem PySem.W PyProof.Rows
set_option maxHeartbeats 0
namespace Mine
section
variable {w:Params} {need:Nat} {orc:Orc}
noncomputable def dupR (row:Row):Row:=(List.range row.length).map fun i=>some (if row.idxOf (row.getD i none) = i then 0 else 1)
noncomputable abbrev cutE (z:Zo) (v lo hi st:V):Option (V × Zo):=(asList z v).bind fun xs=>(cutV xs lo hi st).bind fun ys=>(frzs ys z).map fun (ts,z5)=>(V.list ts,z5)
theorem cut_rev {z:Zo} {v:V} {k:Kd} {row:Row} (h:IsR z v k row):cutE z v .none .none (.int (-1)) = some (LV k row.reverse,z):=by
  have e:(R k row).reverse = R k row.reverse:=by simp [R]
  have c:cutV (R k row) .none .none (.int (-1)) = some (R k row).reverse:=rfl
  simp only [cutE,h.l,Option.bind_some,c,e,frzs_R,Option.map_some]
theorem dup_items (z:Zo) (row:Row) {g:Nat → Option V} (hg:∀ i,g i = some (encI .integer (some (if row.idxOf (row.getD i none) = i then 0 else 1)))):∀ i ∈ List.range (idxR row).length,itemV z (LV .integer (idxR row)) (.int i) = some (.int (row.idxOf (row.getD i none))) ∧ cmpV z .NotEq (.int (row.idxOf (row.getD i none))) (.int i) = some (!decide (row.idxOf (row.getD i none) = i)) ∧
      (match !decide (row.idxOf (row.getD i none) = i) with | true=>some (V.int 1) = g i ∧ z = z | false=>some (V.int 0) = g i ∧ z = z):=fun i hi=>by
  have hi':i < row.length:=by simpa using hi
  refine ⟨item_row (k:=.integer) (o:=some _) (IsR.lv z .integer (idxR row)) (idx_item hi'),cmp_ne,?_⟩
  rw [hg]
  by_cases h:row.idxOf (row.getD i none) = i
  · rw [if_pos h,decide_eq_true h]; exact ⟨rfl,rfl⟩
  · rw [if_neg h,decide_eq_false h]; exact ⟨rfl,rfl⟩
theorem fm_dup (row:Row) {g:Nat → Option V} (hg:∀ i,g i = some (encI .integer (some (if row.idxOf (row.getD i none) = i then 0 else 1)))):(List.range (idxR row).length).filterMap g = R .integer (dupR row):=by
  have:g = fun i=>some (encI .integer (some (if row.idxOf (row.getD i none) = i then 0 else 1))):=funext hg
  rw [this,fm_map]; simp [R,dupR]
noncomputable def gD (row:Row) (i:Nat):Option V:=some (encI .integer (some (if row.idxOf (row.getD i none) = i then 0 else 1)))
theorem dup_run (hl:∀ a ∈ [761,755,382],orc a = none) (hn:need ≤ 100) (H:HFirst (prO w need orc)) (k:Kd) (row:Row) (att:V) (sh:Bool) (hr:RowOk row) (ts:List V) (hts:ts = [] ∨ ts = [.bool false]) :
    runO (prO w need orc) 140 761 (vecV (kS k) (R k row) att sh :: ts) = some (LV .integer (dupR row)):=by
  have t0:callV (prO w need orc) 134 (.fn (.ref 743)) [vecV (kS k) (R k row) att sh] [] = some (LV .integer (idxR row),[]):=(H k row att sh hr).id (own1 rfl) _ _ (by show need < 134; omega)
  have t1:=len_row (P:=prO w need orc) (z:=[]) (IsR.lv [] .integer (idxR row))
  have t2:=range_n (P:=prO w need orc) (z:=[]) (n:=(idxR row).length) (by have:=hr.2; simp; omega)
  have t3:(List.range (idxR row).length).map (fun i:Nat=>V.int i) = (List.range (idxR row).length).map (fun i:Nat=>V.int i):=rfl
  have t4:=dup_items [] row (g:=gD row) fun _=>rfl
  have t5:((List.range (idxR row).length).map (fun i:Nat=>V.int i)).length ≤ lineMax:=by have:=hr.2; simp; unfold lineMax; omega
  have t6:some (V.list ((List.range (idxR row).length).filterMap (gD row))) = some (LV .integer (dupR row)):=by rw [fm_dup row (g:=gD row) fun _=>rfl]
  have t:=And.intro t0 (And.intro t1 (And.intro t2 (And.intro t3 (And.intro t4 (And.intro t5 t6)))))
  refine runO_of (hT0 hl) (as:=[.val (LV .integer (idxR row)),.pr (.int (idxR row).length) [],.pr (.rng (idxR row).length) [],.comp (List.range (idxR row).length) (fun i=>.int i) (gD row) (fun i=>[.item (.int (row.idxOf (row.getD i none))),.cmp (!decide (row.idxOf (row.getD i none) = i))])]) ?_
  rcases hts with h | h
  · subst h
    cases k <;> exact Wk.of t (by kernel_rfl)
  · subst h
    cases k <;> exact Wk.of t (by kernel_rfl)
theorem duplast_run (hl:∀ a ∈ [761,755,382],orc a = none) (hn:need ≤ 100) (H:HFirst (prO w need orc)) (k:Kd) (row:Row) (att:V) (sh:Bool) (hr:RowOk row) :
    runO (prO w need orc) 140 761 [vecV (kS k) (R k row) att sh,.bool true] = some (LV .integer (dupR row.reverse).reverse):=by
  have hr':RowOk row.reverse:=⟨fun o ho=>hr.1 o (by simpa using ho),by simpa using hr.2⟩
  let rw_:=row.reverse
  have tc:=cut_rev (IsR.lv [] k row)
  let z1:Zo:=[.frz (vec0 k row.reverse)]
  have t0:callV (prO w need orc) 134 (.fn (.ref 743)) [.own 0] [.inst 382 [("kind",.str (kS k)),("items",LV k row.reverse),("attrs",.none),("shared",.bool false),("loose",.bool false)]] = some (LV .integer (idxR row.reverse),[.frz (vec0 k row.reverse)]) :=
    H k row.reverse .none false hr' _ _ _ _ (by show need < 134; omega) rfl
  have t1:=len_row (P:=prO w need orc) (z:=[.frz (vec0 k row.reverse)]) (IsR.lv _ .integer (idxR row.reverse))
  have t2:=range_n (P:=prO w need orc) (z:=[.frz (vec0 k row.reverse)]) (n:=(idxR row.reverse).length) (by have:=hr.2; simp; omega)
  have t3:(List.range (idxR row.reverse).length).map (fun i:Nat=>V.int i) = (List.range (idxR row.reverse).length).map (fun i:Nat=>V.int i):=rfl
  have t4:=dup_items [.frz (vec0 k row.reverse)] row.reverse (g:=gD row.reverse) fun _=>rfl
  have t5:((List.range (idxR row.reverse).length).map (fun i:Nat=>V.int i)).length ≤ lineMax:=by have:=hr.2; simp; unfold lineMax; omega
  have t6:cutE [.frz (vec0 k row.reverse)] (V.list ((List.range (idxR row.reverse).length).filterMap (gD row.reverse))) .none .none (.int (-1)) = some (LV .integer (dupR row.reverse).reverse,[.frz (vec0 k row.reverse)]):=by
    rw [fm_dup row.reverse (g:=gD row.reverse) fun _=>rfl]; exact cut_rev (IsR.lv _ .integer (dupR row.reverse))
  have t7:some (LV .integer (dupR row.reverse).reverse) = some (LV .integer (dupR row.reverse).reverse):=rfl
  have t:=And.intro tc (And.intro t0 (And.intro t1 (And.intro t2 (And.intro t3 (And.intro t4 (And.intro t5 (And.intro t6 t7)))))))
  refine runO_of (hT0 hl) (as:=[.pr (LV k row.reverse) [],.valz (LV .integer (idxR row.reverse)) [.frz (vec0 k row.reverse)],.pr (.int (idxR row.reverse).length) [.frz (vec0 k row.reverse)],.pr (.rng (idxR row.reverse).length) [.frz (vec0 k row.reverse)],
    .comp (List.range (idxR row.reverse).length) (fun i=>.int i) (gD row.reverse) (fun i=>[.item (.int (row.reverse.idxOf (row.reverse.getD i none))),.cmp (!decide (row.reverse.idxOf (row.reverse.getD i none) = i))]),.pr (LV .integer (dupR row.reverse).reverse) [.frz (vec0 k row.reverse)]]) ?_
  cases k <;> exact Wk.of t (by kernel_rfl)
noncomputable abbrev VecO (k:Kd) (row:Row):O:=.inst 382 [("kind",.str (kS k)),("items",LV k row),("attrs",.none),("shared",.bool false),("loose",.bool false)]
theorem kle_max (a b:Kd):kle a (kmax a b) = true ∧ kle b (kmax a b) = true:=by cases a <;> cases b <;> exact ⟨rfl,rfl⟩
abbrev ArgOk (a:Arg):Prop:=RowOk (argR a)
theorem both_run0 (hl:∀ a ∈ [775,553,546,382],orc a = none) (hn:need ≤ 100) (HP:HPlain (prO w need orc)) (HA:HAs (prO w need orc)) (a b:Arg) (ka kb k:Kd) (l r:Row) (ea:argK a = ka) (eb:argK b = kb) (el:argR a = l) (er:argR b = r) (ek:kmax ka kb = k)
    (ha:l.length ≤ 20) (hb:r.length ≤ 20):runO (prO w need orc) 140 775 [argV a,argV b] = some (.tup [vec0 k l,vec0 k r]):=by
  have hk:=kle_max ka kb
  rw [ek] at hk
  have t0:callV (prO w need orc) 135 (.fn (.ref 768)) [argV a] [] = some (vec0 ka l,[]):=by
    have:=(HP a).id (own1 (argV_own a)) 135 [] (by show need < 135; omega)
    rw [ea,el] at this; exact this
  have t1:callV (prO w need orc) 134 (.fn (.ref 768)) [argV b] [] = some (vec0 kb r,[]):=by
    have:=(HP b).id (own1 (argV_own b)) 134 [] (by show need < 134; omega)
    rw [eb,er] at this; exact this
  have t2:callV (prO w need orc) 126 (.fn (.ref 654)) [vec0 ka l,.str (kS k),.own 1] [.frz (.list [.str (kS ka),.str (kS kb)]),.list []] = some (vec0 k l,[.frz (.list [.str (kS ka),.str (kS kb)]),.frz (.list [])]) :=
    HA ka k l hk.1 ha _ _ _ _ (by show need < 126; omega) rfl
  have t3:callV (prO w need orc) 125 (.fn (.ref 654)) [vec0 kb r,.str (kS k),.own 3] [.frz (.list [.str (kS ka),.str (kS kb)]),.frz (.list []),VecO k l,.list []] = some (vec0 k r,[.frz (.list [.str (kS ka),.str (kS kb)]),.frz (.list []),VecO k l,.frz (.list [])]) :=
    HA kb k r hk.2 hb _ _ _ _ (by show need < 125; omega) rfl
  have t4:some (V.tup [vec0 k l,vec0 k r]) = some (V.tup [vec0 k l,vec0 k r]):=rfl
  have t:=And.intro t0 (And.intro t1 (And.intro t2 (And.intro t3 t4)))
  refine runO_of (hT0 hl) (as:=[.val (vec0 ka l),.val (vec0 kb r),.valz (vec0 k l) [.frz (.list [.str (kS ka),.str (kS kb)]),.frz (.list [])],.valz (vec0 k r) [.frz (.list [.str (kS ka),.str (kS kb)]),.frz (.list []),VecO k l,.frz (.list [])]]) ?_
  clear ea eb el er
  generalize argV a = va at *
  generalize argV b = vb at *
  cases ka <;> cases kb <;> (subst ek; exact Wk.of t (by kernel_rfl))
end
end Mine
end
section
open PySem PySem.W PyProof.Rows
namespace Mine
section
variable {w:Params} {need:Nat} {orc:Orc}
def HBoth (P:Prg):Prop:=∀ a b,ArgOk a → ArgOk b → Calls P 775 [argV a,argV b] (.tup [vec0 (kmax (argK a) (argK b)) (argR a),vec0 (kmax (argK a) (argK b)) (argR b)])
def HUpl (P:Prg):Prop:=∀ k row att sh,RowOk row → Calls P 748 [vecV (kS k) (R k row) att sh] (LV .integer ((upl row).map some))
noncomputable def matchR (l r:Row):Row:=l.map fun o=>if o ∈ r then some (r.idxOf o) else none
noncomputable def once (row:Row):Row:=(upl row).map fun i=>row.getD i none
theorem get_fp {z:Zo} {i:Nat} {k:Kd} {row:Row} {o:Option Nat} (hz:z[i]? = some (.dict (fpD k row))) (hs:Sm row) (ho:small o) :
    mcall "dict.get" (.own i) [.str (keyS k o)] z = some (encI .integer (if o ∈ row then some (row.idxOf o) else none),z):=by
  have:mcall "dict.get" (.own i) [.str (keyS k o)] z = getV (.own i) [.str (keyS k o)] z:=rfl
  rw [this]
  have lk:=fpD_lookup (k:=k) ho _ row rfl hs
  show ((z[i]?).bind O.dict?).map (fun es=>((es.lookup (keyS k o)).getD V.none,z)) = _
  rw [hz]
  show some (((fpD k row).lookup (keyS k o)).getD V.none,z) = _
  rw [lk]
  by_cases h:o ∈ row <;> simp [h,encI]
noncomputable def mpSt (a b:Arg) (k:Kd) (l r:Row) (m:Nat):En × Zo:=([("u",argV a),("v",argV b),("left",vec0 k l),("right",vec0 k r),("known",.own 0)],[.dict (fpD k (r.take m))])
theorem match_run (hl:∀ a ∈ [780,729],orc a = none) (hn:need ≤ 140) (HK:HKey (prO w need orc)) (H:HBoth (prO w need orc)) (a b:Arg) (k:Kd) (l r:Row) (el:argR a = l) (er:argR b = r) (ek:kmax (argK a) (argK b) = k) (ha:RowOk l) (hb:RowOk r) :
    runO (prO w need orc) 180 780 [argV a,argV b] = some (LV .integer (matchR l r)):=by
  have t0:callV (prO w need orc) 175 (.fn (.ref 775)) [argV a,argV b] [] = some (.tup [vec0 k l,vec0 k r],[]):=by
    have:=(H a b (by rw [ArgOk,el]; exact ha) (by rw [ArgOk,er]; exact hb)).id (own2 (argV_own a) (argV_own b)) 175 [] (by show need < 175; omega)
    rw [el,er,ek] at this; exact this
  have c0:R k l = l.map (encI k):=rfl
  have c1:∀ o ∈ l,callV (prO w need orc) 168 (.fn (.ref 722)) [.str (kS k),encI k o] [.dict (fpD k r)] = some (.str (keyS k o),[.dict (fpD k r)]) ∧ mcall "dict.get" (.own 0) [.str (keyS k o)] [.dict (fpD k r)] = some (encI .integer (if o ∈ r then some (r.idxOf o) else none),[.dict (fpD k r)]) ∧
      frz (encI .integer (if o ∈ r then some (r.idxOf o) else none)) [.dict (fpD k r)] = some (encI .integer (if o ∈ r then some (r.idxOf o) else none),[.dict (fpD k r)]) ∧ some (encI .integer (if o ∈ r then some (r.idxOf o) else none)) = some (encI .integer (if o ∈ r then some (r.idxOf o) else none)) ∧ ([.dict (fpD k r)]:Zo) = [.dict (fpD k r)]:=fun o ho =>
    ⟨(HK k o (ha.1 o ho)).id (own2 rfl (encI_own _ _)) _ _ (by show need < 168; omega),get_fp (i:=0) rfl hb.1 (ha.1 o ho),frz_enc _ _ _,rfl,rfl⟩
  have c2:(R k l).length ≤ lineMax:=fit_R (by have:=ha.2; omega)
  have c3:some (V.list (l.filterMap fun o=>some (encI .integer (if o ∈ r then some (r.idxOf o) else none)))) = some (LV .integer (matchR l r)):=by
    rw [fm_map]; simp [LV,R,matchR]
  by_cases h0:r = []
  · subst h0
    have t:=And.intro t0 (And.intro c0 (And.intro c1 (And.intro c2 c3)))
    refine runO_of (hT0 hl) (as:=[.val (.tup [vec0 k l,vec0 k []]),.comp l (encI k) (fun o=>some (encI .integer (if o ∈ ([]:Row) then some (([]:Row).idxOf o) else none))) (fun o=>[.val (.str (keyS k o)),.mc (encI .integer (if o ∈ ([]:Row) then some (([]:Row).idxOf o) else none)) [.dict []],.fz (encI .integer (if o ∈ ([]:Row) then some (([]:Row).idxOf o) else none)) [.dict []]])]) ?_
    clear ek el er
    generalize argV a = va at *
    generalize argV b = vb at *
    cases k <;> exact Wk.of t (by kernel_rfl)
  · have hp:0 < r.length:=List.length_pos_iff.mpr h0
    have s0:=len_row (P:=prO w need orc) (z:=[.dict []]) (IsR.lv [.dict []] k r)
    have s1:=range_n (P:=prO w need orc) (z:=[.dict []]) (n:=r.length) (by have:=hb.2; omega)
    have s2:(List.range r.length).map (fun i:Nat=>V.int i) = (List.range r.length).map (fun i:Nat=>V.int i):=rfl
    have s3:(List.range r.length).getLast? = some (r.length - 1):=by
      rw [List.getLast?_range]; simp; omega
    have s4:mpSt a b k l r 0 = mpSt a b k l r 0:=rfl
    have s5:∀ pre:List Nat,((mpSt a b k l r pre.length).1.lookup ("place":S)).isNone = true:=fun pre=>by kernel_rfl
    have s6:∀ (pre:List Nat) (x:Nat) (post:List Nat),List.range r.length = pre ++ x :: post →
        itemV (mpSt a b k l r pre.length).2 (LV k r) (.int x) = some (encI k (r.getD x none)) ∧
        callV (prO w need orc) 168 (.fn (.ref 722)) [.str (kS k),encI k (r.getD x none)] (mpSt a b k l r pre.length).2 = some (.str (keyS k (r.getD x none)),(mpSt a b k l r pre.length).2) ∧
        mcall "dict.setdefault" (.own 0) [.str (keyS k (r.getD x none)),.int x] (mpSt a b k l r pre.length).2 = some (.int (r.idxOf (r.getD x none)),(mpSt a b k l r (x + 1)).2) ∧
        ((mpSt a b k l r pre.length).1 ++ [(("place":S),V.int x)],(mpSt a b k l r (x + 1)).2) = ((mpSt a b k l r (pre ++ [x]).length).1 ++ [(("place":S),V.int x)],(mpSt a b k l r (pre ++ [x]).length).2):=by
      intro pre x post hx
      obtain ⟨rfl,hlt⟩:=range_split hx
      refine ⟨item_row (IsR.lv _ k r) (getD_some hlt),(HK k _ (hb.1 _ (getD_mem hlt))).id (own2 rfl (encI_own _ _)) _ _ (by show need < 168; omega),setdefault_fp (z:=(mpSt a b k l r pre.length).2) (i:=0) rfl hlt hb.1 hb.2,?_⟩
      simp only [List.length_append,List.length_cons,List.length_nil]; rfl
    have e:r.take (List.range r.length).length = r:=by rw [List.length_range,List.take_length]
    have c3:some (V.list (l.filterMap fun o=>some (encI .integer (if o ∈ r.take (List.range r.length).length then some ((r.take (List.range r.length).length).idxOf o) else none)))) = some (LV .integer (matchR l r)):=by rw [e]; exact c3
    rw [← e] at c1
    have t:=And.intro t0 (And.intro s0 (And.intro s1 (And.intro s2 (And.intro s3 (And.intro s4 (And.intro s5 (And.intro s6 (And.intro c0 (And.intro c1 (And.intro c2 c3))))))))))
    refine runO_of (hT0 hl) (as:=[.val (.tup [vec0 k l,vec0 k r]),.pr (.int r.length) [.dict []],.pr (.rng r.length) [.dict []],.loop (List.range r.length) (fun i=>.int i) (r.length - 1) (fun pre=>mpSt a b k l r pre.length)
        (fun _ x=>[.item (encI k (r.getD x none)),.val (.str (keyS k (r.getD x none))),.mc (.int (r.idxOf (r.getD x none))) (mpSt a b k l r (x + 1)).2]),
      .comp l (encI k) (fun o=>some (encI .integer (if o ∈ r.take (List.range r.length).length then some ((r.take (List.range r.length).length).idxOf o) else none))) (fun o=>[.val (.str (keyS k o)),.mc (encI .integer (if o ∈ r.take (List.range r.length).length then some ((r.take (List.range r.length).length).idxOf o) else none)) [.dict (fpD k (r.take (List.range r.length).length))],.fz (encI .integer (if o ∈ r.take (List.range r.length).length then some ((r.take (List.range r.length).length).idxOf o) else none)) [.dict (fpD k (r.take (List.range r.length).length))]])]) ?_
    clear ek el er
    cases k <;> exact Wk.of t (by kernel_rfl)
theorem distinct_run (hl:∀ a ∈ [785,382],orc a = none) (hn:need ≤ 140) (H:HUpl (prO w need orc)) (k:Kd) (row:Row) (hr:RowOk row):runO (prO w need orc) 180 785 [vec0 k row] = some (vec0 k (once row)):=by
  have t0:callV (prO w need orc) 171 (.fn (.ref 748)) [vec0 k row] [] = some (LV .integer ((upl row).map some),[]):=(H k row .none false hr).id (own1 rfl) _ _ (by show need < 171; omega)
  have t1:R .integer ((upl row).map some) = (upl row).map (fun i:Nat=>V.int i):=by simp [R,encI]
  have t2:∀ i ∈ upl row,itemV [] (LV k row) (.int i) = some (encI k (row.getD i none)) ∧ frz (encI k (row.getD i none)) [] = some (encI k (row.getD i none),[]) ∧ some (encI k (row.getD i none)) = some (encI k (row.getD i none)) ∧ ([]:Zo) = []:=fun i hi=>by
    have:i < row.length:=by have:=(List.mem_filter.mp hi).1; simpa using this
    exact ⟨item_row (IsR.lv [] k row) (getD_some this),frz_enc _ _ _,rfl,rfl⟩
  have t3:(R .integer ((upl row).map some)).length ≤ lineMax:=fit_R (by
    have h1:(upl row).length ≤ (List.range row.length).length:=List.length_filter_le _ _
    have:=hr.2; simp at h1 ⊢; omega)
  have t4:some (vecV (kS k) ((upl row).filterMap fun i=>some (encI k (row.getD i none))) .none false) = some (vec0 k (once row)):=by
    rw [fm_map]; simp only [vec0,R,once,List.map_map]; rfl
  have t:=And.intro t0 (And.intro t1 (And.intro t2 (And.intro t3 t4)))
  refine runO_of (hT0 hl) (as:=[.val (LV .integer ((upl row).map some)),.comp (upl row) (fun i=>.int i) (fun i=>some (encI k (row.getD i none))) (fun i=>[.item (encI k (row.getD i none)),.fz (encI k (row.getD i none)) []])]) ?_
  cases k <;> exact Wk.of t (by kernel_rfl)
end
end Mine
end
section
open PySem PySem.W PyProof.Rows
namespace Mine
section
variable {w:Params} {need:Nat} {orc:Orc}
def HMatch (P:Prg):Prop:=∀ a b,ArgOk a → ArgOk b → Calls P 780 [argV a,argV b] (LV .integer (matchR (argR a) (argR b)))
def HDist (P:Prg):Prop:=∀ k row,RowOk row → Calls P 785 [vec0 k row] (vec0 k (once row))
theorem add_row {z:Zo} {v u:V} {k:Kd} {a b:Row} (hv:v = LV k a) (hu:u = LV k b) (hl:(a ++ b).length ≤ 1000):binV z .Add v u = some (LV k (a ++ b),z):=by
  subst hv; subst hu
  have h3:(R k a).length + (R k b).length ≤ lineMax:=by rw [R_len,R_len]; unfold lineMax; simp at hl; omega
  show (frzs (R k a) z).bind _ = _
  rw [frzs_R]
  show (frzs (R k b) z).bind _ = _
  rw [frzs_R]
  show (if (R k a).length + (R k b).length ≤ lineMax then some (V.list (R k a ++ R k b),z) else none) = _
  rw [if_pos h3,← R_app]
theorem sm_app {a b:Row} (ha:Sm a) (hb:Sm b):Sm (a ++ b):=fun o ho=>(List.mem_append.mp ho).elim (ha o) (hb o)
theorem union_run (hl:∀ a ∈ [792,382],orc a = none) (hn:need ≤ 180) (HB:HBoth (prO w need orc)) (HD:HDist (prO w need orc)) (a b:Arg) (k:Kd) (l r:Row) (el:argR a = l) (er:argR b = r) (ek:kmax (argK a) (argK b) = k) (ha:RowOk l) (hb:RowOk r) (hlr:(l ++ r).length ≤ 20) :
    runO (prO w need orc) 220 792 [argV a,argV b] = some (vec0 k (once (l ++ r))):=by
  have t0:callV (prO w need orc) 215 (.fn (.ref 775)) [argV a,argV b] [] = some (.tup [vec0 k l,vec0 k r],[]):=by
    have:=(HB a b (by rw [ArgOk,el]; exact ha) (by rw [ArgOk,er]; exact hb)).id (own2 (argV_own a) (argV_own b)) 215 [] (by show need < 215; omega)
    rw [el,er,ek] at this; exact this
  have t1:=add_row (z:=[]) (k:=k) (a:=l) (b:=r) rfl rfl (by omega)
  have t2:callV (prO w need orc) 214 (.fn (.ref 785)) [.own 0] [VecO k (l ++ r)] = some (vec0 k (once (l ++ r)),[.frz (vec0 k (l ++ r))]):=HD k (l ++ r) ⟨sm_app ha.1 hb.1,hlr⟩ _ _ _ _ (by show need < 214; omega) rfl
  have t3:some (vec0 k (once (l ++ r))) = some (vec0 k (once (l ++ r))):=rfl
  have t:=And.intro t0 (And.intro t1 (And.intro t2 t3))
  refine runO_of (hT0 hl) (as:=[.val (.tup [vec0 k l,vec0 k r]),.bin (LV k (l ++ r)) [],.valz (vec0 k (once (l ++ r))) [.frz (vec0 k (l ++ r))]]) ?_
  clear ek el er
  generalize argV a = va at *
  generalize argV b = vb at *
  cases k <;> exact Wk.of t (by kernel_rfl)
theorem range_map (l:Row):(List.range l.length).map (fun i=>l.getD i none) = l:=by
  refine List.ext_getElem (by simp) fun i h1 h2=>?_
  simp [List.getD_eq_getElem?_getD,List.getElem?_eq_getElem h2]
theorem fm_pick (k:Kd) (l:Row) (p:Option Nat → Bool):(List.range l.length).filterMap (fun i=>if p (l.getD i none) = true then some (encI k (l.getD i none)) else none) = R k (l.filter p):=by
  have h:=fm_if p (encI k) l
  show _ = (l.filter p).map (encI k)
  rw [← h]
  conv=>rhs; rw [← range_map l]
  rw [List.filterMap_map]; rfl
theorem match_item {l r:Row} {i:Nat} (h:i < l.length):(matchR l r)[i]? = some (if l.getD i none ∈ r then some (r.idxOf (l.getD i none)) else none):=by
  unfold matchR
  rw [List.getElem?_map,getD_some h]; rfl
theorem isnot_enc {z:Zo} {k:Kd} (x:Option Nat):cmpV z .IsNot (encI k x) .none = some x.isSome:=by cases k <;> cases x <;> rfl
theorem is_enc {z:Zo} {k:Kd} (x:Option Nat):cmpV z .Is (encI k x) .none = some (!x.isSome):=by cases k <;> cases x <;> rfl
theorem if_some {l r:Row} {o:Option Nat}:(if o ∈ r then some (r.idxOf o) else none:Option Nat).isSome = decide (o ∈ r):=by by_cases h:o ∈ r <;> simp [h]
noncomputable def gI (k:Kd) (l r:Row) (b:Bool) (i:Nat):Option V:=if (decide (l.getD i none ∈ r) == b) = true then some (encI k (l.getD i none)) else none
noncomputable def keepR (l r:Row) (b:Bool):Row:=l.filter fun o=>decide (o ∈ r) == b
noncomputable abbrev mI (l r:Row) (i:Nat):Option Nat:=if l.getD i none ∈ r then some (r.idxOf (l.getD i none)) else none
theorem keep_ok {l r:Row} {b:Bool} (h:RowOk l):RowOk (keepR l r b):=⟨fun o ho=>h.1 o (List.mem_filter.mp ho).1,Nat.le_trans (List.length_filter_le _ _) h.2⟩
theorem inter_run (hl:∀ a ∈ [797,382],orc a = none) (hn:need ≤ 180) (HB:HBoth (prO w need orc)) (HM:HMatch (prO w need orc)) (HD:HDist (prO w need orc)) (a b:Arg) (k:Kd) (l r:Row) (el:argR a = l) (er:argR b = r) (ek:kmax (argK a) (argK b) = k) (ha:RowOk l) (hb:RowOk r) :
    runO (prO w need orc) 220 797 [argV a,argV b] = some (vec0 k (once (keepR l r true))):=by
  have t0:callV (prO w need orc) 215 (.fn (.ref 775)) [argV a,argV b] [] = some (.tup [vec0 k l,vec0 k r],[]):=by
    have:=(HB a b (by rw [ArgOk,el]; exact ha) (by rw [ArgOk,er]; exact hb)).id (own2 (argV_own a) (argV_own b)) 215 [] (by show need < 215; omega)
    rw [el,er,ek] at this; exact this
  have t1:callV (prO w need orc) 214 (.fn (.ref 780)) [vec0 k l,vec0 k r] [] = some (LV .integer (matchR l r),[]):=(HM (.vec k l none) (.vec k r none) ha hb).id (own2 rfl rfl) _ _ (by show need < 214; omega)
  have ml:(matchR l r).length = l.length:=by simp [matchR]
  have t2:=len_row (P:=prO w need orc) (z:=[]) (IsR.lv [] .integer (matchR l r))
  have t3:=range_n (P:=prO w need orc) (z:=[]) (n:=(matchR l r).length) (by have:=ha.2; omega)
  have t4:(List.range (matchR l r).length).map (fun i:Nat=>V.int i) = (List.range (matchR l r).length).map (fun i:Nat=>V.int i):=rfl
  have t5:∀ i ∈ List.range (matchR l r).length,itemV [] (LV .integer (matchR l r)) (.int i) = some (encI .integer (mI l r i)) ∧ cmpV [] .IsNot (encI .integer (mI l r i)) .none = some (decide (l.getD i none ∈ r)) ∧
      (match decide (l.getD i none ∈ r) with | true=>itemV [] (LV k l) (.int i) = some (encI k (l.getD i none)) ∧ frz (encI k (l.getD i none)) [] = some (encI k (l.getD i none),[]) ∧ some (encI k (l.getD i none)) = gI k l r true i ∧ ([]:Zo) = [] | false=>none = gI k l r true i ∧ ([]:Zo) = []):=fun i hi=>by
    have hi':i < l.length:=by simpa [ml] using hi
    refine ⟨item_row (IsR.lv [] .integer _) (match_item hi'),by rw [isnot_enc,if_some (l:=l)],?_⟩
    unfold gI
    by_cases h:l.getD i none ∈ r
    · rw [decide_eq_true h]; exact ⟨item_row (IsR.lv [] k l) (getD_some hi'),frz_enc _ _ _,rfl,rfl⟩
    · rw [decide_eq_false h]; exact ⟨rfl,rfl⟩
  have t6:((List.range (matchR l r).length).map (fun i:Nat=>V.int i)).length ≤ lineMax:=by have:=ha.2; simp [ml]; unfold lineMax; omega
  have fm:(List.range (matchR l r).length).filterMap (gI k l r true) = R k (keepR l r true):=by rw [ml]; exact fm_pick k l (fun o=>decide (o ∈ r) == true)
  have t7:callV (prO w need orc) 213 (.fn (.ref 785)) [.own 0] [.inst 382 [("kind",.str (kS k)),("items",.list ((List.range (matchR l r).length).filterMap (gI k l r true))),("attrs",.none),("shared",.bool false),("loose",.bool false)]] = some (vec0 k (once (keepR l r true)),[.frz (vec0 k (keepR l r true))]):=by
    rw [fm]; exact HD k (keepR l r true) (keep_ok ha) _ _ _ _ (by show need < 213; omega) rfl
  have t8:some (vec0 k (once (keepR l r true))) = some (vec0 k (once (keepR l r true))):=rfl
  have t:=And.intro t0 (And.intro t1 (And.intro t2 (And.intro t3 (And.intro t4 (And.intro t5 (And.intro t6 (And.intro t7 t8)))))))
  refine runO_of (hT0 hl) (as:=[.val (.tup [vec0 k l,vec0 k r]),.val (LV .integer (matchR l r)),.pr (.int (matchR l r).length) [],.pr (.rng (matchR l r).length) [],.comp (List.range (matchR l r).length) (fun i=>.int i) (gI k l r true) (fun i=>[.item (encI .integer (mI l r i)),.cmp (decide (l.getD i none ∈ r)),.item (encI k (l.getD i none)),.fz (encI k (l.getD i none)) []]),.valz (vec0 k (once (keepR l r true))) [.frz (vec0 k (keepR l r true))]]) ?_
  clear ek el er
  generalize argV a = va at *
  generalize argV b = vb at *
  cases k <;> exact Wk.of t (by kernel_rfl)
theorem diff_run (hl:∀ a ∈ [802,382],orc a = none) (hn:need ≤ 180) (HP:HPlain (prO w need orc)) (HM:HMatch (prO w need orc)) (HD:HDist (prO w need orc)) (a b:Arg) (k:Kd) (l r:Row) (el:argR a = l) (er:argR b = r) (ek:argK a = k) (ha:RowOk l) (hb:RowOk r) :
    runO (prO w need orc) 220 802 [argV a,argV b] = some (vec0 k (once (keepR l r false))):=by
  have t0:callV (prO w need orc) 215 (.fn (.ref 768)) [argV a] [] = some (vec0 k l,[]):=by
    have:=(HP a).id (own1 (argV_own a)) 215 [] (by show need < 215; omega)
    rw [el,ek] at this; exact this
  have t1:callV (prO w need orc) 214 (.fn (.ref 780)) [vec0 k l,argV b] [] = some (LV .integer (matchR l r),[]):=by
    have:=(HM (.vec k l none) b ha (by rw [ArgOk,er]; exact hb)).id (own2 rfl (argV_own b)) 214 [] (by show need < 214; omega)
    rw [er] at this; exact this
  have ml:(matchR l r).length = l.length:=by simp [matchR]
  have t2:=len_row (P:=prO w need orc) (z:=[]) (IsR.lv [] .integer (matchR l r))
  have t3:=range_n (P:=prO w need orc) (z:=[]) (n:=(matchR l r).length) (by have:=ha.2; omega)
  have t4:(List.range (matchR l r).length).map (fun i:Nat=>V.int i) = (List.range (matchR l r).length).map (fun i:Nat=>V.int i):=rfl
  have t5:∀ i ∈ List.range (matchR l r).length,itemV [] (LV .integer (matchR l r)) (.int i) = some (encI .integer (mI l r i)) ∧ cmpV [] .Is (encI .integer (mI l r i)) .none = some (!decide (l.getD i none ∈ r)) ∧
      (match !decide (l.getD i none ∈ r) with | true=>itemV [] (LV k l) (.int i) = some (encI k (l.getD i none)) ∧ frz (encI k (l.getD i none)) [] = some (encI k (l.getD i none),[]) ∧ some (encI k (l.getD i none)) = gI k l r false i ∧ ([]:Zo) = [] | false=>none = gI k l r false i ∧ ([]:Zo) = []):=fun i hi=>by
    have hi':i < l.length:=by simpa [ml] using hi
    refine ⟨item_row (IsR.lv [] .integer _) (match_item hi'),by rw [is_enc,if_some (l:=l)],?_⟩
    unfold gI
    by_cases h:l.getD i none ∈ r
    · rw [decide_eq_true h]; exact ⟨rfl,rfl⟩
    · rw [decide_eq_false h]; exact ⟨item_row (IsR.lv [] k l) (getD_some hi'),frz_enc _ _ _,rfl,rfl⟩
  have t6:((List.range (matchR l r).length).map (fun i:Nat=>V.int i)).length ≤ lineMax:=by have:=ha.2; simp [ml]; unfold lineMax; omega
  have fm:(List.range (matchR l r).length).filterMap (gI k l r false) = R k (keepR l r false):=by rw [ml]; exact fm_pick k l (fun o=>decide (o ∈ r) == false)
  have t7:callV (prO w need orc) 213 (.fn (.ref 785)) [.own 0] [.inst 382 [("kind",.str (kS k)),("items",.list ((List.range (matchR l r).length).filterMap (gI k l r false))),("attrs",.none),("shared",.bool false),("loose",.bool false)]] = some (vec0 k (once (keepR l r false)),[.frz (vec0 k (keepR l r false))]):=by
    rw [fm]; exact HD k (keepR l r false) (keep_ok ha) _ _ _ _ (by show need < 213; omega) rfl
  have t8:some (vec0 k (once (keepR l r false))) = some (vec0 k (once (keepR l r false))):=rfl
  have t:=And.intro t0 (And.intro t1 (And.intro t2 (And.intro t3 (And.intro t4 (And.intro t5 (And.intro t6 (And.intro t7 t8)))))))
  refine runO_of (hT0 hl) (as:=[.val (vec0 k l),.val (LV .integer (matchR l r)),.pr (.int (matchR l r).length) [],.pr (.rng (matchR l r).length) [],.comp (List.range (matchR l r).length) (fun i=>.int i) (gI k l r false) (fun i=>[.item (encI .integer (mI l r i)),.cmp (!decide (l.getD i none ∈ r)),.item (encI k (l.getD i none)),.fz (encI k (l.getD i none)) []]),.valz (vec0 k (once (keepR l r false))) [.frz (vec0 k (keepR l r false))]]) ?_
  clear ek el er
  generalize argV a = va at *
  generalize argV b = vb at *
  cases k <;> exact Wk.of t (by kernel_rfl)
theorem same_run (hl:∀ a ∈ [809],orc a = none) (hn:need ≤ 180) (HM:HMatch (prO w need orc)) (a b:Arg) (ha:ArgOk a) (hb:ArgOk b) :
    runO (prO w need orc) 220 809 [argV a,argV b] = some (.bool (!decide (none ∈ matchR (argR a) (argR b)) && !decide (none ∈ matchR (argR b) (argR a)))):=by
  have t0:=(HM a b ha hb).id (own2 (argV_own a) (argV_own b)) 212 [] (by show need < 212; omega)
  have t1:=notin_row (z:=[]) (k:=.integer) none (IsR.lv [] .integer (matchR (argR a) (argR b)))
  have t2:=(HM b a hb ha).id (own2 (argV_own b) (argV_own a)) 211 [] (by show need < 211; omega)
  have t3:=notin_row (z:=[]) (k:=.integer) none (IsR.lv [] .integer (matchR (argR b) (argR a)))
  generalize decide (none ∈ matchR (argR a) (argR b)) = x at *
  generalize decide (none ∈ matchR (argR b) (argR a)) = y at *
  have t4:some (V.bool (!x && !y)) = some (V.bool (!x && !y)):=rfl
  refine runO_of (hT0 hl) (as:=[.val (LV .integer (matchR (argR a) (argR b))),.cmp (!x),.val (LV .integer (matchR (argR b) (argR a))),.cmp (!y)]) ?_
  generalize argV a = va at *
  generalize argV b = vb at *
  cases x
  · have t:=And.intro t0 (And.intro t1 (And.intro t2 (And.intro t3 t4)))
    exact Wk.of t (by kernel_rfl)
  · have t:=And.intro t0 (And.intro t1 t4)
    exact Wk.of t (by kernel_rfl)
end
end Mine
end
section
open PySem PySem.W PyProof.Rows
namespace Mine
structure HTake (P:Prg):Prop where
  u:∀ u,u.isOwn = false → Calls P 145 [arg1 u,.list fUnique] (.list [u,.none,.list []])
  d1:∀ u,u.isOwn = false → Calls P 145 [arg1 u,.list fDup] (.list [u,.none,.none,.list []])
  d2:∀ u v,u.isOwn = false → v.isOwn = false → Calls P 145 [.list [.tup [.none,u],.tup [.str "fromLast",v]],.list fDup] (.list [u,.none,v,.list []])
  m2:∀ u v,u.isOwn = false → v.isOwn = false → Calls P 145 [arg2 u v,.list fMatch] (.list [u,v,.none,.none])
  m3:∀ u v x,u.isOwn = false → v.isOwn = false → x.isOwn = false → Calls P 145 [.list [.tup [.none,u],.tup [.none,v],.tup [.str "nomatch",x]],.list fMatch] (.list [u,v,x,.none])
  i:∀ u v,u.isOwn = false → v.isOwn = false → Calls P 145 [arg2 u v,.list fIn] (.list [u,v])
  s:∀ u v,u.isOwn = false → v.isOwn = false → Calls P 145 [arg2 u v,.list fSet] (.list [u,v])
structure HDup (P:Prg):Prop where
  a:∀ k row att sh ts,RowOk row → ts = [] ∨ ts = [.bool false] → Calls P 761 (vecV (kS k) (R k row) att sh :: ts) (LV .integer (dupR row))
  b:∀ k row att sh,RowOk row → Calls P 761 [vecV (kS k) (R k row) att sh,.bool true] (LV .integer (dupR row.reverse).reverse)
noncomputable abbrev tinyB:List Addr:=[816,456,830,661,539,477,666,520,527,515,382,421,428,823,449,353,868,875,414]
noncomputable abbrev zU:Zo:=[.frz (.list fUnique)]
noncomputable abbrev zD:Zo:=[.frz (.list fDup)]
noncomputable abbrev zM:Zo:=[.frz (.list fMatch)]
noncomputable abbrev zI:Zo:=[.frz (.list fIn)]
noncomputable abbrev zS:Zo:=[.frz (.list fSet)]
noncomputable abbrev vN (k:Kd) (row:Row) (nm:Option V):V:=vecV (kS k) (R k row) (attV nm) false
section
variable {w:Params} {need:Nat} {orc:Orc}
noncomputable def zUq (k:Kd) (row:Row):Zo:=match k with
  | .integer=>[.frz (.list fUnique),.list [],VecO k row]
  | _=>[.frz (.list fUnique),VecO k row]
noncomputable def zUr (k:Kd) (row:Row):Nat × Zo:=match k with
  | .integer=>(3,[.frz (.list fUnique),.list [],VecO k row,VecO k (once row),.list []])
  | _=>(2,[.frz (.list fUnique),VecO k row,VecO k (once row)])
theorem upl_items (z:Zo) (k:Kd) (row:Row):∀ i ∈ upl row,itemV z (LV k row) (.int i) = some (encI k (row.getD i none)) ∧ frz (encI k (row.getD i none)) z = some (encI k (row.getD i none),z) ∧ some (encI k (row.getD i none)) = some (encI k (row.getD i none)) ∧ z = z:=fun i hi=>by
  have:i < row.length:=by have:=(List.mem_filter.mp hi).1; simpa using this
  exact ⟨item_row (IsR.lv z k row) (getD_some this),frz_enc _ _ _,rfl,rfl⟩
theorem upl_len {row:Row} (h:row.length ≤ 20):(upl row).length ≤ 20:=by
  have h1:(upl row).length ≤ (List.range row.length).length:=List.length_filter_le _ _
  simp at h1; omega
theorem upl_fm (k:Kd) (row:Row):(upl row).filterMap (fun i=>some (encI k (row.getD i none))) = R k (once row):=by
  rw [fm_map]; simp only [R,once,List.map_map]; rfl
theorem bunique_run (hl:∀ a ∈ 837 :: tinyB,orc a = none) (hn:need ≤ 220) (HT:HTake (prO w need orc)) (HU:HUpl (prO w need orc)) (k:Kd) (row:Row) (nm:Option V) (hr:RowOk row) :
    runO (prO w need orc) 270 837 [.none,arg1 (vN k row nm),.none] = some (vec0 k (once row)):=by
  have t0:callV (prO w need orc) 262 (.fn (.ref 145)) [arg1 (vN k row nm),.own 0] [.list fUnique] = some (.list [vN k row nm,.none,.list []],zU):=HT.u _ rfl _ _ _ _ (by show need < 262; omega) rfl
  have t1:callV (prO w need orc) 259 (.fn (.ref 748)) [vN k row nm] (zUq k row) = some (LV .integer ((upl row).map some),zUq k row):=(HU k row _ _ hr).id (own1 rfl) _ _ (by show need < 259; omega)
  have t2:R .integer ((upl row).map some) = (upl row).map (fun i:Nat=>V.int i):=by simp [R,encI]
  have t3:=upl_items (zUq k row) k row
  have t4:(R .integer ((upl row).map some)).length ≤ lineMax:=fit_R (by have:=upl_len hr.2; simp; omega)
  have t5:(frz (.own (zUr k row).1) ((zUr k row).2.set (zUr k row).1 (.inst 382 [("kind",.str (kS k)),("items",.list ((upl row).filterMap fun i=>some (encI k (row.getD i none)))),("attrs",.none),("shared",.bool false),("loose",.bool false)]))).map (·.1) = some (vec0 k (once row)):=by
    rw [upl_fm]; cases k <;> rfl
  have t:=And.intro t0 (And.intro t1 (And.intro t2 (And.intro t3 (And.intro t4 t5))))
  refine runO_of (hT0 hl) (as:=[.valz (.list [vN k row nm,.none,.list []]) zU,.val (LV .integer ((upl row).map some)),.comp (upl row) (fun i=>.int i) (fun i=>some (encI k (row.getD i none))) (fun i=>[.item (encI k (row.getD i none)),.fz (encI k (row.getD i none)) (zUq k row)])]) ?_
  cases k <;> cases nm <;> exact Wk.of t (by kernel_rfl)
theorem bunique_null (hl:∀ a ∈ 837 :: tinyB,orc a = none) (hn:need ≤ 220) (HT:HTake (prO w need orc)):runO (prO w need orc) 270 837 [.none,arg1 nullV,.none] = some nullV:=by
  have t0:callV (prO w need orc) 262 (.fn (.ref 145)) [arg1 nullV,.own 0] [.list fUnique] = some (.list [nullV,.none,.list []],zU):=HT.u _ rfl _ _ _ _ (by show need < 262; omega) rfl
  have t:=And.intro t0 (rfl:some nullV = some nullV)
  exact runO_of (hT0 hl) (as:=[.valz (.list [nullV,.none,.list []]) zU]) (Wk.of t (by kernel_rfl))
noncomputable abbrev chV (xs:List S):V:=vecV "character" (xs.map .str) .none false
noncomputable abbrev levV:V:=chV ["p","q","r","s","t"]
noncomputable abbrev clsV:V:=chV ["factor"]
noncomputable abbrev facV (row:Row):V:=vecV (kS .integer) (R .integer row) (.dict [("levels",levV),("class",clsV)]) false
theorem bdup_run (hl:∀ a ∈ 844 :: tinyB,orc a = none) (hn:need ≤ 220) (HT:HTake (prO w need orc)) (HD:HDup (prO w need orc)) (k:Kd) (row:Row) (nm:Option V) (hr:RowOk row) :
    runO (prO w need orc) 270 844 [.none,arg1 (vN k row nm),.none] = some (vec0 .logical (dupR row)):=by
  have t0:callV (prO w need orc) 265 (.fn (.ref 145)) [arg1 (vN k row nm),.own 0] [.list fDup] = some (.list [vN k row nm,.none,.none,.list []],zD):=HT.d1 _ rfl _ _ _ _ (by show need < 265; omega) rfl
  have t1:callV (prO w need orc) 259 (.fn (.ref 761)) [vN k row nm,.bool false] zD = some (LV .integer (dupR row),zD):=(HD.a k row _ _ [.bool false] hr (.inr rfl)).id (own2 rfl rfl) _ _ (by show need < 259; omega)
  have t2:=list_row (P:=prO w need orc) (z:=zD) (IsR.lv zD .integer (dupR row))
  have t:=And.intro t0 (And.intro t1 (And.intro t2 (rfl:some (vec0 .logical (dupR row)) = some (vec0 .logical (dupR row)))))
  refine runO_of (hT0 hl) (as:=[.valz (.list [vN k row nm,.none,.none,.list []]) zD,.val (LV .integer (dupR row)),.pr (LV .integer (dupR row)) zD]) ?_
  cases k <;> exact Wk.of t (by kernel_rfl)
noncomputable abbrev zDa:Zo:=[.frz (.list fDup),.frz (.list [])]
theorem bdup_last (hl:∀ a ∈ 844 :: tinyB,orc a = none) (hn:need ≤ 220) (HT:HTake (prO w need orc)) (HD:HDup (prO w need orc)) (HA:HAs (prO w need orc)) (k:Kd) (row:Row) (nm:Option V) (hr:RowOk row) :
    runO (prO w need orc) 270 844 [.none,.list [.tup [.none,vN k row nm],.tup [.str "fromLast",vec0 .logical [some 1]]],.none] = some (vec0 .logical (dupR row.reverse).reverse):=by
  have t0:callV (prO w need orc) 265 (.fn (.ref 145)) [.list [.tup [.none,vN k row nm],.tup [.str "fromLast",vec0 .logical [some 1]]],.own 0] [.list fDup] = some (.list [vN k row nm,.none,vec0 .logical [some 1],.list []],zD):=HT.d2 _ _ rfl rfl _ _ _ _ (by show need < 265; omega) rfl
  have ta:callV (prO w need orc) 247 (.fn (.ref 654)) [vec0 .logical [some 1],.str (kS .logical),.own 1] [.frz (.list fDup),.list []] = some (vec0 .logical [some 1],zDa):=HA .logical .logical [some 1] rfl (by simp) _ _ _ _ (by show need < 247; omega) rfl
  have t1:callV (prO w need orc) 259 (.fn (.ref 761)) [vN k row nm,.bool true] zDa = some (LV .integer (dupR row.reverse).reverse,zDa):=(HD.b k row _ _ hr).id (own2 rfl rfl) _ _ (by show need < 259; omega)
  have t2:=list_row (P:=prO w need orc) (z:=zDa) (IsR.lv zDa .integer (dupR row.reverse).reverse)
  have t:=And.intro t0 (And.intro ta (And.intro t1 (And.intro t2 (rfl:some (vec0 .logical (dupR row.reverse).reverse) = some (vec0 .logical (dupR row.reverse).reverse)))))
  refine runO_of (hT0 hl) (as:=[.valz (.list [vN k row nm,.none,vec0 .logical [some 1],.list []]) zD,.valz (vec0 .logical [some 1]) zDa,.val (LV .integer (dupR row.reverse).reverse),.pr (LV .integer (dupR row.reverse).reverse) zDa]) ?_
  cases k <;> exact Wk.of t (by kernel_rfl)
theorem bdup_null (hl:∀ a ∈ 844 :: tinyB,orc a = none) (hn:need ≤ 220) (HT:HTake (prO w need orc)):runO (prO w need orc) 270 844 [.none,arg1 nullV,.none] = some (vec0 .logical []):=by
  have t0:callV (prO w need orc) 265 (.fn (.ref 145)) [arg1 nullV,.own 0] [.list fDup] = some (.list [nullV,.none,.none,.list []],zD):=HT.d1 _ rfl _ _ _ _ (by show need < 265; omega) rfl
  have t:=And.intro t0 (rfl:some (vec0 .logical []) = some (vec0 .logical []))
  exact runO_of (hT0 hl) (as:=[.valz (.list [nullV,.none,.none,.list []]) zD]) (Wk.of t (by kernel_rfl))
noncomputable def anyR (row:Row):Row:=[some (if some 1 ∈ dupR row then (dupR row).idxOf (some 1) + 1 else 0)]
theorem bany_run (hl:∀ a ∈ 851 :: tinyB,orc a = none) (hn:need ≤ 220) (HT:HTake (prO w need orc)) (HD:HDup (prO w need orc)) (k:Kd) (row:Row) (nm:Option V) (hr:RowOk row) :
    runO (prO w need orc) 270 851 [.none,arg1 (vN k row nm),.none] = some (vec0 .integer (anyR row)):=by
  have t0:callV (prO w need orc) 262 (.fn (.ref 145)) [arg1 (vN k row nm),.own 0] [.list fUnique] = some (.list [vN k row nm,.none,.list []],zU):=HT.u _ rfl _ _ _ _ (by show need < 262; omega) rfl
  have t1:callV (prO w need orc) 263 (.fn (.ref 761)) [vN k row nm] zU = some (LV .integer (dupR row),zU):=(HD.a k row _ _ [] hr (.inl rfl)).id (own1 rfl) _ _ (by show need < 263; omega)
  have t2:=in_row (z:=zU) (k:=.integer) (some 1) (IsR.lv zU .integer (dupR row))
  have dl:(dupR row).length ≤ lineMax:=by have:=hr.2; simp [dupR]; unfold lineMax; omega
  by_cases h:some 1 ∈ dupR row
  · rw [decide_eq_true h] at t2
    have t3:=index_row (IsR.lv zU .integer (dupR row)) h dl
    have t4:some (vec0 .integer [some ((dupR row).idxOf (some 1) + 1)]) = some (vec0 .integer (anyR row)):=by unfold anyR; rw [if_pos h]
    have t:=And.intro t0 (And.intro t1 (And.intro t2 (And.intro t3 t4)))
    refine runO_of (hT0 hl) (as:=[.valz (.list [vN k row nm,.none,.list []]) zU,.val (LV .integer (dupR row)),.cmp true,.mc (.int ((dupR row).idxOf (some 1))) zU]) ?_
    cases k <;> exact Wk.of t (by kernel_rfl)
  · rw [decide_eq_false h] at t2
    have t4:some (vec0 .integer [some 0]) = some (vec0 .integer (anyR row)):=by unfold anyR; rw [if_neg h]
    have t:=And.intro t0 (And.intro t1 (And.intro t2 t4))
    refine runO_of (hT0 hl) (as:=[.valz (.list [vN k row nm,.none,.list []]) zU,.val (LV .integer (dupR row)),.cmp false]) ?_
    cases k <;> exact Wk.of t (by kernel_rfl)
theorem bany_null (hl:∀ a ∈ 851 :: tinyB,orc a = none) (hn:need ≤ 220) (HT:HTake (prO w need orc)):runO (prO w need orc) 270 851 [.none,arg1 nullV,.none] = some (vec0 .integer [some 0]):=by
  have t0:callV (prO w need orc) 262 (.fn (.ref 145)) [arg1 nullV,.own 0] [.list fUnique] = some (.list [nullV,.none,.list []],zU):=HT.u _ rfl _ _ _ _ (by show need < 262; omega) rfl
  have t:=And.intro t0 (rfl:some (vec0 .integer [some 0]) = some (vec0 .integer [some 0]))
  exact runO_of (hT0 hl) (as:=[.valz (.list [nullV,.none,.list []]) zU]) (Wk.of t (by kernel_rfl))
end
end Mine
end
section
open PySem PySem.W PyProof.Rows
namespace Mine
section
variable {w:Params} {need:Nat} {orc:Orc}
def HUnion (P:Prg):Prop:=∀ a b,ArgOk a → ArgOk b → (argR a ++ argR b).length ≤ 20 → Calls P 792 [argV a,argV b] (vec0 (kmax (argK a) (argK b)) (once (argR a ++ argR b)))
def HInter (P:Prg):Prop:=∀ a b,ArgOk a → ArgOk b → Calls P 797 [argV a,argV b] (vec0 (kmax (argK a) (argK b)) (once (keepR (argR a) (argR b) true)))
def HDiff (P:Prg):Prop:=∀ a b,ArgOk a → ArgOk b → Calls P 802 [argV a,argV b] (vec0 (argK a) (once (keepR (argR a) (argR b) false)))
noncomputable def sameR (l r:Row):Bool:=!decide (none ∈ matchR l r) && !decide (none ∈ matchR r l)
def HSame (P:Prg):Prop:=∀ a b,ArgOk a → ArgOk b → Calls P 809 [argV a,argV b] (.bool (sameR (argR a) (argR b)))
noncomputable abbrev attF:List (S × V):=[("levels",levV),("class",clsV)]
noncomputable abbrev zF (row:Row):Zo:=[.frz (.list fUnique),.dict attF,.inst 382 [("kind",.str (kS .integer)),("items",LV .integer row),("attrs",.own 1),("shared",.bool false),("loose",.bool false)]]
theorem bunique_fac (hl:∀ a ∈ 837 :: tinyB,orc a = none) (hn:need ≤ 220) (HT:HTake (prO w need orc)) (HU:HUpl (prO w need orc)) (row:Row) (hr:RowOk row) :
    runO (prO w need orc) 270 837 [.none,arg1 (facV row),.none] = some (facV (once row)):=by
  have t0:callV (prO w need orc) 262 (.fn (.ref 145)) [arg1 (facV row),.own 0] [.list fUnique] = some (.list [facV row,.none,.list []],zU):=HT.u _ rfl _ _ _ _ (by show need < 262; omega) rfl
  have t1:callV (prO w need orc) 259 (.fn (.ref 748)) [facV row] (zF row) = some (LV .integer ((upl row).map some),zF row):=(HU .integer row _ _ hr).id (own1 rfl) _ _ (by show need < 259; omega)
  have t2:R .integer ((upl row).map some) = (upl row).map (fun i:Nat=>V.int i):=by simp [R,encI]
  have t3:=upl_items (zF row) .integer row
  have t4:(R .integer ((upl row).map some)).length ≤ lineMax:=fit_R (by have:=upl_len hr.2; simp; omega)
  have t5:some (vecV (kS .integer) ((upl row).filterMap fun i=>some (encI .integer (row.getD i none))) (.dict attF) false) = some (facV (once row)):=by
    rw [upl_fm]
  have t:=And.intro t0 (And.intro t1 (And.intro t2 (And.intro t3 (And.intro t4 t5))))
  exact runO_of (hT0 hl) (as:=[.valz (.list [facV row,.none,.list []]) zU,.val (LV .integer ((upl row).map some)),.comp (upl row) (fun i=>.int i) (fun i=>some (encI .integer (row.getD i none))) (fun i=>[.item (encI .integer (row.getD i none)),.fz (encI .integer (row.getD i none)) (zF row)])]) (Wk.of t (by kernel_rfl))
noncomputable def upR (ms o:Option Nat):Option Nat:=match o with
  | none=>ms
  | some i=>some (i + 1)
theorem up_items (z:Zo) (ms:Option Nat):∀ o,cmpV z .Is (encI .integer o) .none = some (!o.isSome) ∧
    (match !o.isSome with | true=>some (encI .integer ms) = some (encI .integer (upR ms o)) ∧ z = z | false=>binV z .Add (encI .integer o) (.int 1) = some (encI .integer (upR ms o),z) ∧ frz (encI .integer (upR ms o)) z = some (encI .integer (upR ms o),z) ∧ some (encI .integer (upR ms o)) = some (encI .integer (upR ms o)) ∧ z = z):=fun o=>by
  refine ⟨is_enc o,?_⟩
  cases o with
  | none=>exact ⟨rfl,rfl⟩
  | some i=>exact ⟨rfl,frz_enc _ _ _,rfl,rfl⟩
theorem bmatch2_run (hl:∀ a ∈ 856 :: tinyB,orc a = none) (hn:need ≤ 220) (HT:HTake (prO w need orc)) (HM:HMatch (prO w need orc)) (k:Kd) (l r:Row) (n1:Option V) (b:Arg) (ha:RowOk l) (hb:ArgOk b) (er:argR b = r) :
    runO (prO w need orc) 270 856 [.none,arg2 (vN k l n1) (argV b),.none] = some (vec0 .integer ((matchR l r).map (upR none))):=by
  have t0:callV (prO w need orc) 264 (.fn (.ref 145)) [arg2 (vN k l n1) (argV b),.own 0] [.list fMatch] = some (.list [vN k l n1,argV b,.none,.none],zM):=HT.m2 _ _ rfl (argV_own b) _ _ _ _ (by show need < 264; omega) rfl
  have t1:callV (prO w need orc) 262 (.fn (.ref 780)) [vN k l n1,argV b] zM = some (LV .integer (matchR l r),zM):=by
    have:=(HM (.vec k l n1) b ha hb).id (own2 rfl (argV_own b)) 262 zM (by show need < 262; omega)
    rw [er] at this; exact this
  have t2:R .integer (matchR l r) = (matchR l r).map (encI .integer):=rfl
  have t3:=fun (o:Option Nat) (_:o ∈ matchR l r)=>up_items zM none o
  have t4:(R .integer (matchR l r)).length ≤ lineMax:=fit_R (by have:=ha.2; simp [matchR]; omega)
  have t5:bcall (prO w need orc) (.type "list") [.list ((matchR l r).filterMap fun o=>some (encI .integer (upR none o)))] zM = some (LV .integer ((matchR l r).map (upR none)),zM):=by
    rw [fm_map]
    have:(matchR l r).map (fun o=>encI .integer (upR none o)) = R .integer ((matchR l r).map (upR none)):=by simp [R]
    rw [this]; exact list_row (IsR.lv zM _ _)
  have t6:some (vec0 .integer ((matchR l r).map (upR none))) = some (vec0 .integer ((matchR l r).map (upR none))):=rfl
  have t:=And.intro t0 (And.intro t1 (And.intro t2 (And.intro t3 (And.intro t4 (And.intro t5 t6)))))
  refine runO_of (hT0 hl) (as:=[.valz (.list [vN k l n1,argV b,.none,.none]) zM,.val (LV .integer (matchR l r)),.comp (matchR l r) (encI .integer) (fun o=>some (encI .integer (upR none o))) (fun o=>[.cmp (!o.isSome),.bin (encI .integer (upR none o)) zM,.fz (encI .integer (upR none o)) zM]),.pr (LV .integer ((matchR l r).map (upR none))) zM]) ?_
  cases b <;> cases k <;> exact Wk.of t (by kernel_rfl)
noncomputable abbrev zMa:Zo:=[.frz (.list fMatch),.frz (.list [])]
theorem bmatch3_run (hl:∀ a ∈ 856 :: tinyB,orc a = none) (hn:need ≤ 220) (HT:HTake (prO w need orc)) (HM:HMatch (prO w need orc)) (HA:HAs (prO w need orc)) (k k2:Kd) (l r:Row) (n1 n2:Option V) (ha:RowOk l) (hb:RowOk r) :
    runO (prO w need orc) 270 856 [.none,.list [.tup [.none,vN k l n1],.tup [.none,vN k2 r n2],.tup [.str "nomatch",vec0 .integer [some 0]]],.none] = some (vec0 .integer ((matchR l r).map (upR (some 0)))):=by
  have t0:callV (prO w need orc) 264 (.fn (.ref 145)) [.list [.tup [.none,vN k l n1],.tup [.none,vN k2 r n2],.tup [.str "nomatch",vec0 .integer [some 0]]],.own 0] [.list fMatch] = some (.list [vN k l n1,vN k2 r n2,vec0 .integer [some 0],.none],zM):=HT.m3 _ _ _ rfl rfl rfl _ _ _ _ (by show need < 264; omega) rfl
  have ta:callV (prO w need orc) 259 (.fn (.ref 654)) [vec0 .integer [some 0],.str (kS .integer),.own 1] [.frz (.list fMatch),.list []] = some (vec0 .integer [some 0],zMa):=HA .integer .integer [some 0] rfl (by simp) _ _ _ _ (by show need < 259; omega) rfl
  have t1:callV (prO w need orc) 262 (.fn (.ref 780)) [vN k l n1,vN k2 r n2] zMa = some (LV .integer (matchR l r),zMa):=(HM (.vec k l n1) (.vec k2 r n2) ha hb).id (own2 rfl rfl) 262 zMa (by show need < 262; omega)
  have t2:R .integer (matchR l r) = (matchR l r).map (encI .integer):=rfl
  have t3:=fun (o:Option Nat) (_:o ∈ matchR l r)=>up_items zMa (some 0) o
  have t4:(R .integer (matchR l r)).length ≤ lineMax:=fit_R (by have:=ha.2; simp [matchR]; omega)
  have t5:bcall (prO w need orc) (.type "list") [.list ((matchR l r).filterMap fun o=>some (encI .integer (upR (some 0) o)))] zMa = some (LV .integer ((matchR l r).map (upR (some 0))),zMa):=by
    rw [fm_map]
    have:(matchR l r).map (fun o=>encI .integer (upR (some 0) o)) = R .integer ((matchR l r).map (upR (some 0))):=by simp [R]
    rw [this]; exact list_row (IsR.lv zMa _ _)
  have t6:some (vec0 .integer ((matchR l r).map (upR (some 0)))) = some (vec0 .integer ((matchR l r).map (upR (some 0)))):=rfl
  have t:=And.intro t0 (And.intro ta (And.intro t1 (And.intro t2 (And.intro t3 (And.intro t4 (And.intro t5 t6))))))
  refine runO_of (hT0 hl) (as:=[.valz (.list [vN k l n1,vN k2 r n2,vec0 .integer [some 0],.none]) zM,.valz (vec0 .integer [some 0]) zMa,.val (LV .integer (matchR l r)),.comp (matchR l r) (encI .integer) (fun o=>some (encI .integer (upR (some 0) o))) (fun o=>[.cmp (!o.isSome),.bin (encI .integer (upR (some 0) o)) zMa,.fz (encI .integer (upR (some 0) o)) zMa]),.pr (LV .integer ((matchR l r).map (upR (some 0)))) zMa]) ?_
  cases k <;> exact Wk.of t (by kernel_rfl)
noncomputable def isR (o:Option Nat):Option Nat:=some (if o.isSome then 1 else 0)
theorem is_items (z:Zo):∀ o:Option Nat,cmpV z .Is (encI .integer o) .none = some (!o.isSome) ∧ (match !o.isSome with | true=>some (V.int 0) = some (encI .logical (isR o)) ∧ z = z | false=>some (V.int 1) = some (encI .logical (isR o)) ∧ z = z):=fun o=>by
  refine ⟨is_enc o,?_⟩
  cases o <;> exact ⟨rfl,rfl⟩
theorem bin_run (hl:∀ a ∈ 861 :: tinyB,orc a = none) (hn:need ≤ 220) (HT:HTake (prO w need orc)) (HM:HMatch (prO w need orc)) (k k2:Kd) (l r:Row) (n1 n2:Option V) (ha:RowOk l) (hb:RowOk r) :
    runO (prO w need orc) 270 861 [.none,arg2 (vN k l n1) (vN k2 r n2),.none] = some (vec0 .logical ((matchR l r).map isR)):=by
  have t0:callV (prO w need orc) 265 (.fn (.ref 145)) [arg2 (vN k l n1) (vN k2 r n2),.own 0] [.list fIn] = some (.list [vN k l n1,vN k2 r n2],zI):=HT.i _ _ rfl rfl _ _ _ _ (by show need < 265; omega) rfl
  have t1:callV (prO w need orc) 264 (.fn (.ref 780)) [vN k l n1,vN k2 r n2] zI = some (LV .integer (matchR l r),zI):=(HM (.vec k l n1) (.vec k2 r n2) ha hb).id (own2 rfl rfl) 264 zI (by show need < 264; omega)
  have t2:R .integer (matchR l r) = (matchR l r).map (encI .integer):=rfl
  have t3:=fun (o:Option Nat) (_:o ∈ matchR l r)=>is_items zI o
  have t4:(R .integer (matchR l r)).length ≤ lineMax:=fit_R (by have:=ha.2; simp [matchR]; omega)
  have t5:bcall (prO w need orc) (.type "list") [.list ((matchR l r).filterMap fun o=>some (encI .logical (isR o)))] zI = some (LV .logical ((matchR l r).map isR),zI):=by
    rw [fm_map]
    have:(matchR l r).map (fun o=>encI .logical (isR o)) = R .logical ((matchR l r).map isR):=by simp [R]
    rw [this]; exact list_row (IsR.lv zI _ _)
  have t6:some (vec0 .logical ((matchR l r).map isR)) = some (vec0 .logical ((matchR l r).map isR)):=rfl
  have t:=And.intro t0 (And.intro t1 (And.intro t2 (And.intro t3 (And.intro t4 (And.intro t5 t6)))))
  refine runO_of (hT0 hl) (as:=[.valz (.list [vN k l n1,vN k2 r n2]) zI,.val (LV .integer (matchR l r)),.comp (matchR l r) (encI .integer) (fun o=>some (encI .logical (isR o))) (fun o=>[.cmp (!o.isSome)]),.pr (LV .logical ((matchR l r).map isR)) zI]) ?_
  cases k <;> exact Wk.of t (by kernel_rfl)
theorem kS_null (z:Zo) (k:Kd):cmpV z .Eq (.str (kS k)) (.str "NULL") = some false:=by cases k <;> kernel_rfl
theorem some_false:some false = some false:=rfl
noncomputable abbrev zSn:Zo:=[.frz (.list fSet),.list [],.inst 382 [("kind",.str (kS .logical)),("items",.list []),("attrs",.none),("shared",.bool false),("loose",.bool false)]]
noncomputable abbrev zSf:Zo:=[.frz (.list fSet),.list [],.frz (vec0 .logical [])]
noncomputable abbrev nilA:Arg:=.vec .logical [] none
theorem nilA_ok:ArgOk nilA:=⟨fun _ h=>(nomatch h),Nat.zero_le _⟩
theorem bunion_run (hl:∀ a ∈ 882 :: tinyB,orc a = none) (hn:need ≤ 220) (HT:HTake (prO w need orc)) (H:HUnion (prO w need orc)) (k k2:Kd) (l r:Row) (n1 n2:Option V) (ha:RowOk l) (hb:RowOk r) (hlr:(l ++ r).length ≤ 20) :
    runO (prO w need orc) 270 882 [.none,arg2 (vN k l n1) (vN k2 r n2),.none] = some (vec0 (kmax k k2) (once (l ++ r))):=by
  have t0:callV (prO w need orc) 260 (.fn (.ref 145)) [arg2 (vN k l n1) (vN k2 r n2),.own 0] [.list fSet] = some (.list [vN k l n1,vN k2 r n2],zS):=HT.s _ _ rfl rfl _ _ _ _ (by show need < 260; omega) rfl
  have t1:callV (prO w need orc) 263 (.fn (.ref 792)) [vN k l n1,vN k2 r n2] zS = some (vec0 (kmax k k2) (once (l ++ r)),zS):=(H (.vec k l n1) (.vec k2 r n2) ha hb hlr).id (own2 rfl rfl) _ _ (by show need < 263; omega)
  have t2:some (vec0 (kmax k k2) (once (l ++ r))) = some (vec0 (kmax k k2) (once (l ++ r))):=rfl
  have t:=And.intro t0 (And.intro some_false (And.intro some_false (And.intro (kS_null zS k) (And.intro (kS_null zS k) (And.intro (kS_null zS k2) (And.intro t1 t2))))))
  exact runO_of (hT0 hl) (as:=[.valz (.list [vN k l n1,vN k2 r n2]) zS,.cmp false,.cmp false,.cmp false,.cmp false,.cmp false,.val (vec0 (kmax k k2) (once (l ++ r)))]) (Wk.of t (by kernel_rfl))
theorem bunion_nv (hl:∀ a ∈ 882 :: tinyB,orc a = none) (hn:need ≤ 220) (HT:HTake (prO w need orc)) (H:HUnion (prO w need orc)) (k2:Kd) (r:Row) (n2:Option V) (hb:RowOk r) :
    runO (prO w need orc) 270 882 [.none,arg2 nullV (vN k2 r n2),.none] = some (vec0 k2 (once r)):=by
  have t0:callV (prO w need orc) 260 (.fn (.ref 145)) [arg2 nullV (vN k2 r n2),.own 0] [.list fSet] = some (.list [nullV,vN k2 r n2],zS):=HT.s _ _ rfl rfl _ _ _ _ (by show need < 260; omega) rfl
  have t1:callV (prO w need orc) 263 (.fn (.ref 792)) [.own 2,vN k2 r n2] zSn = some (vec0 k2 (once r),zSf):=by
    have:=H nilA (.vec k2 r n2) nilA_ok hb hb.2 263 zSn [.own 2,vN k2 r n2] zSf (by show need < 263; omega) rfl
    cases k2 <;> exact this
  have t2:some (vec0 k2 (once r)) = some (vec0 k2 (once r)):=rfl
  have t:=And.intro t0 (And.intro t1 t2)
  refine runO_of (hT0 hl) (as:=[.valz (.list [nullV,vN k2 r n2]) zS,.valz (vec0 k2 (once r)) zSf]) ?_
  cases k2 <;> exact Wk.of t (by kernel_rfl)
theorem bunion_nn (hl:∀ a ∈ 882 :: tinyB,orc a = none) (hn:need ≤ 220) (HT:HTake (prO w need orc)):runO (prO w need orc) 270 882 [.none,arg2 nullV nullV,.none] = some nullV:=by
  have t0:callV (prO w need orc) 260 (.fn (.ref 145)) [arg2 nullV nullV,.own 0] [.list fSet] = some (.list [nullV,nullV],zS):=HT.s _ _ rfl rfl _ _ _ _ (by show need < 260; omega) rfl
  have t:=And.intro t0 (rfl:some nullV = some nullV)
  exact runO_of (hT0 hl) (as:=[.valz (.list [nullV,nullV]) zS]) (Wk.of t (by kernel_rfl))
theorem binter_run (hl:∀ a ∈ 889 :: tinyB,orc a = none) (hn:need ≤ 220) (HT:HTake (prO w need orc)) (H:HInter (prO w need orc)) (k k2:Kd) (l r:Row) (n1 n2:Option V) (ha:RowOk l) (hb:RowOk r) :
    runO (prO w need orc) 270 889 [.none,arg2 (vN k l n1) (vN k2 r n2),.none] = some (vec0 (kmax k k2) (once (keepR l r true))):=by
  have t0:callV (prO w need orc) 260 (.fn (.ref 145)) [arg2 (vN k l n1) (vN k2 r n2),.own 0] [.list fSet] = some (.list [vN k l n1,vN k2 r n2],zS):=HT.s _ _ rfl rfl _ _ _ _ (by show need < 260; omega) rfl
  have t1:callV (prO w need orc) 263 (.fn (.ref 797)) [vN k l n1,vN k2 r n2] zS = some (vec0 (kmax k k2) (once (keepR l r true)),zS):=(H (.vec k l n1) (.vec k2 r n2) ha hb).id (own2 rfl rfl) _ _ (by show need < 263; omega)
  have t2:some (vec0 (kmax k k2) (once (keepR l r true))) = some (vec0 (kmax k k2) (once (keepR l r true))):=rfl
  have t:=And.intro t0 (And.intro some_false (And.intro some_false (And.intro (kS_null zS k) (And.intro (kS_null zS k2) (And.intro t1 t2)))))
  exact runO_of (hT0 hl) (as:=[.valz (.list [vN k l n1,vN k2 r n2]) zS,.cmp false,.cmp false,.cmp false,.cmp false,.val (vec0 (kmax k k2) (once (keepR l r true)))]) (Wk.of t (by kernel_rfl))
theorem binter_nn (hl:∀ a ∈ 889 :: tinyB,orc a = none) (hn:need ≤ 220) (HT:HTake (prO w need orc)):runO (prO w need orc) 270 889 [.none,arg2 nullV nullV,.none] = some nullV:=by
  have t0:callV (prO w need orc) 260 (.fn (.ref 145)) [arg2 nullV nullV,.own 0] [.list fSet] = some (.list [nullV,nullV],zS):=HT.s _ _ rfl rfl _ _ _ _ (by show need < 260; omega) rfl
  have t:=And.intro t0 (rfl:some nullV = some nullV)
  exact runO_of (hT0 hl) (as:=[.valz (.list [nullV,nullV]) zS]) (Wk.of t (by kernel_rfl))
theorem bdiff_run (hl:∀ a ∈ 896 :: tinyB,orc a = none) (hn:need ≤ 220) (HT:HTake (prO w need orc)) (H:HDiff (prO w need orc)) (k k2:Kd) (l r:Row) (n1 n2:Option V) (ha:RowOk l) (hb:RowOk r) :
    runO (prO w need orc) 270 896 [.none,arg2 (vN k l n1) (vN k2 r n2),.none] = some (vec0 k (once (keepR l r false))):=by
  have t0:callV (prO w need orc) 260 (.fn (.ref 145)) [arg2 (vN k l n1) (vN k2 r n2),.own 0] [.list fSet] = some (.list [vN k l n1,vN k2 r n2],zS):=HT.s _ _ rfl rfl _ _ _ _ (by show need < 260; omega) rfl
  have t1:callV (prO w need orc) 263 (.fn (.ref 802)) [vN k l n1,vN k2 r n2] zS = some (vec0 k (once (keepR l r false)),zS):=(H (.vec k l n1) (.vec k2 r n2) ha hb).id (own2 rfl rfl) _ _ (by show need < 263; omega)
  have t2:some (vec0 k (once (keepR l r false))) = some (vec0 k (once (keepR l r false))):=rfl
  have t:=And.intro t0 (And.intro some_false (And.intro some_false (And.intro (kS_null zS k) (And.intro (kS_null zS k2) (And.intro t1 t2)))))
  exact runO_of (hT0 hl) (as:=[.valz (.list [vN k l n1,vN k2 r n2]) zS,.cmp false,.cmp false,.cmp false,.cmp false,.val (vec0 k (once (keepR l r false)))]) (Wk.of t (by kernel_rfl))
theorem bdiff_vn (hl:∀ a ∈ 896 :: tinyB,orc a = none) (hn:need ≤ 220) (HT:HTake (prO w need orc)) (H:HDiff (prO w need orc)) (k:Kd) (l:Row) (n1:Option V) (ha:RowOk l) :
    runO (prO w need orc) 270 896 [.none,arg2 (vN k l n1) nullV,.none] = some (vec0 k (once (keepR l [] false))):=by
  have t0:callV (prO w need orc) 260 (.fn (.ref 145)) [arg2 (vN k l n1) nullV,.own 0] [.list fSet] = some (.list [vN k l n1,nullV],zS):=HT.s _ _ rfl rfl _ _ _ _ (by show need < 260; omega) rfl
  have t1:callV (prO w need orc) 263 (.fn (.ref 802)) [vN k l n1,.own 2] zSn = some (vec0 k (once (keepR l [] false)),zSf):=H (.vec k l n1) nilA ha nilA_ok 263 zSn [vN k l n1,.own 2] zSf (by show need < 263; omega) rfl
  have t2:some (vec0 k (once (keepR l [] false))) = some (vec0 k (once (keepR l [] false))):=rfl
  have t:=And.intro t0 (And.intro some_false (And.intro some_false (And.intro (kS_null zS k) (And.intro t1 t2))))
  exact runO_of (hT0 hl) (as:=[.valz (.list [vN k l n1,nullV]) zS,.cmp false,.cmp false,.cmp false,.valz (vec0 k (once (keepR l [] false))) zSf]) (Wk.of t (by kernel_rfl))
theorem bdiff_nn (hl:∀ a ∈ 896 :: tinyB,orc a = none) (hn:need ≤ 220) (HT:HTake (prO w need orc)):runO (prO w need orc) 270 896 [.none,arg2 nullV nullV,.none] = some nullV:=by
  have t0:callV (prO w need orc) 260 (.fn (.ref 145)) [arg2 nullV nullV,.own 0] [.list fSet] = some (.list [nullV,nullV],zS):=HT.s _ _ rfl rfl _ _ _ _ (by show need < 260; omega) rfl
  have t:=And.intro t0 (rfl:some nullV = some nullV)
  exact runO_of (hT0 hl) (as:=[.valz (.list [nullV,nullV]) zS]) (Wk.of t (by kernel_rfl))
theorem bequal_run (hl:∀ a ∈ 903 :: tinyB,orc a = none) (hn:need ≤ 220) (HT:HTake (prO w need orc)) (H:HSame (prO w need orc)) (k k2:Kd) (l r:Row) (n1 n2:Option V) (ha:RowOk l) (hb:RowOk r) :
    runO (prO w need orc) 270 903 [.none,arg2 (vN k l n1) (vN k2 r n2),.none] = some (vec0 .logical [some (if sameR l r then 1 else 0)]):=by
  have t0:callV (prO w need orc) 260 (.fn (.ref 145)) [arg2 (vN k l n1) (vN k2 r n2),.own 0] [.list fSet] = some (.list [vN k l n1,vN k2 r n2],zS):=HT.s _ _ rfl rfl _ _ _ _ (by show need < 260; omega) rfl
  have t1:callV (prO w need orc) 258 (.fn (.ref 809)) [vN k l n1,vN k2 r n2] zS = some (.bool (sameR l r),zS):=(H (.vec k l n1) (.vec k2 r n2) ha hb).id (own2 rfl rfl) _ _ (by show need < 258; omega)
  have t2:some (vec0 .logical [some (if sameR l r then 1 else 0)]) = some (vec0 .logical [some (if sameR l r then 1 else 0)]):=rfl
  have t:=And.intro t0 (And.intro some_false (And.intro some_false (And.intro (kS_null zS k) (And.intro (kS_null zS k2) (And.intro t1 t2)))))
  refine runO_of (hT0 hl) (as:=[.valz (.list [vN k l n1,vN k2 r n2]) zS,.cmp false,.cmp false,.cmp false,.cmp false,.val (.bool (sameR l r))]) ?_
  generalize sameR l r = x at *
  cases x <;> exact Wk.of t (by kernel_rfl)
theorem bequal_vn (hl:∀ a ∈ 903 :: tinyB,orc a = none) (hn:need ≤ 220) (HT:HTake (prO w need orc)) (H:HSame (prO w need orc)) (k:Kd) (l:Row) (n1:Option V) (ha:RowOk l) :
    runO (prO w need orc) 270 903 [.none,arg2 (vN k l n1) nullV,.none] = some (vec0 .logical [some (if sameR l [] then 1 else 0)]):=by
  have t0:callV (prO w need orc) 260 (.fn (.ref 145)) [arg2 (vN k l n1) nullV,.own 0] [.list fSet] = some (.list [vN k l n1,nullV],zS):=HT.s _ _ rfl rfl _ _ _ _ (by show need < 260; omega) rfl
  have t1:callV (prO w need orc) 258 (.fn (.ref 809)) [vN k l n1,.own 2] zSn = some (.bool (sameR l []),zSf):=H (.vec k l n1) nilA ha nilA_ok 258 zSn [vN k l n1,.own 2] zSf (by show need < 258; omega) rfl
  have t2:some (vec0 .logical [some (if sameR l [] then 1 else 0)]) = some (vec0 .logical [some (if sameR l [] then 1 else 0)]):=rfl
  have t:=And.intro t0 (And.intro some_false (And.intro some_false (And.intro (kS_null zS k) (And.intro t1 t2))))
  refine runO_of (hT0 hl) (as:=[.valz (.list [vN k l n1,nullV]) zS,.cmp false,.cmp false,.cmp false,.valz (.bool (sameR l [])) zSf]) ?_
  generalize sameR l [] = x at *
  cases x <;> exact Wk.of t (by kernel_rfl)
end
end Mine
end
section
open PySem PySem.W PyProof.Rows
namespace Mine
section
variable {w:Params} {need:Nat} {orc:Orc}
noncomputable def onceF (row:Row):Row:=row.foldl (fun m o=>if o ∈ m then m else m ++ [o]) []
theorem onceF_snoc (p:Row) (o:Option Nat):onceF (p ++ [o]) = if o ∈ onceF p then onceF p else onceF p ++ [o]:=by unfold onceF; rw [List.foldl_append]; rfl
theorem onceF_len:∀ (n:Nat) (p:Row),p.length = n → (onceF p).length ≤ n
  | 0,p,hp=>by
    have:p = []:=List.eq_nil_of_length_eq_zero hp
    subst this; simp [onceF]
  | n + 1,p,hp=>by
    obtain ⟨q,a,rfl⟩:∃ q a,p = q ++ [a]:=⟨p.dropLast,p.getLast (by intro e; subst e; cases hp),(List.dropLast_concat_getLast _).symm⟩
    have hq:q.length = n:=by simpa using hp
    have iq:=onceF_len n q hq
    rw [onceF_snoc]
    split
    · omega
    · simp; omega
noncomputable def onSt (row pre:Row):En × Zo:=([("row",LV .integer row),("made",.own 0)],[.list (R .integer (onceF pre))])
theorem once_run0 (hl:∀ a ∈ [922],orc a = none) (row:Row) (hr:row.length ≤ 20):runO (prO w need orc) 60 922 [LV .integer row] = some (LV .integer (onceF row)):=by
  by_cases h0:row = []
  · subst h0
    exact runO_of (hT0 hl) (as:=[]) (Wk.of (rfl:some (V.list []) = some (V.list [])) (by kernel_rfl))
  · have t2:R .integer row = row.map (encI .integer):=rfl
    have t3:row.getLast? = some (row.getLast h0):=List.getLast?_eq_some_getLast h0
    have t4:onSt row [] = onSt row []:=rfl
    have t5:∀ pre:Row,((onSt row pre).1.lookup ("one":S)).isNone = true:=fun pre=>by kernel_rfl
    have t6:∀ (pre:Row) (o:Option Nat) (post:Row),row = pre ++ o :: post → cmpV (onSt row pre).2 .NotIn (encI .integer o) (.own 0) = some (!decide (o ∈ onceF pre)) ∧
        (match !decide (o ∈ onceF pre) with
          | true=>mcall "list.append" (.own 0) [encI .integer o] (onSt row pre).2 = some (.none,(onSt row (pre ++ [o])).2) ∧ ((onSt row pre).1 ++ [(("one":S),encI .integer o)],(onSt row (pre ++ [o])).2) = ((onSt row (pre ++ [o])).1 ++ [(("one":S),encI .integer o)],(onSt row (pre ++ [o])).2)
          | false=>((onSt row pre).1 ++ [(("one":S),encI .integer o)],(onSt row pre).2) = ((onSt row (pre ++ [o])).1 ++ [(("one":S),encI .integer o)],(onSt row (pre ++ [o])).2)):=by
      intro pre o post hx
      refine ⟨notin_row o (IsR.own (z:=(onSt row pre).2) (i:=0) rfl),?_⟩
      have e:=onceF_snoc pre o
      have pl:(onceF pre).length ≤ 20:=by
        have h1:=onceF_len _ pre rfl
        have h2:row.length = pre.length + (post.length + 1):=by rw [hx]; simp
        omega
      by_cases h:o ∈ onceF pre
      · rw [decide_eq_true h]
        rw [if_pos h] at e
        simp only [onSt,e,Bool.not_true]
      · rw [decide_eq_false h]
        rw [if_neg h] at e
        refine ⟨?_,rfl⟩
        rw [append_own (vs:=R .integer (onceF pre)) rfl (by rw [R_len]; unfold lineMax; omega)]
        simp only [onSt,e,R_app]; rfl
    have t7:(frz (.own 0) (onSt row row).2).map (·.1) = some (LV .integer (onceF row)):=frz_own (i:=0) rfl
    have t:=And.intro t2 (And.intro t3 (And.intro t4 (And.intro t5 (And.intro t6 t7))))
    exact runO_of (hT0 hl) (as:=[.loop row (encI .integer) (row.getLast h0) (onSt row) (fun pre o=>[.cmp (!decide (o ∈ onceF pre)),.mc .none (onSt row (pre ++ [o])).2])]) (Wk.of t (by kernel_rfl))
theorem li_enc (o:Option Nat):encI .logical o = encI .integer o:=by cases o <;> rfl
theorem kS_eq (k:Kd):∀ z0,cmpV z0 .Eq (.str (kS k)) (.str (kS k)) = some true:=by cases k <;> (intro z0; kernel_rfl)
noncomputable abbrev tupE (vs:List V) (z0:Zo):Option (V × Zo):=(frzs vs z0).bind fun (ts,z2)=>(fit ts).map fun ts=>(V.tup ts,z2)
theorem dbl_items (o:Option Nat) (g:Option Nat → Option V) (hg:∀ o,g o = some (encI .double o)) (z:Zo):(∀ z0,cmpV z0 .Is (encI .integer o) .none = some (!o.isSome)) ∧ (match !o.isSome with
    | true=>(∀ z0,frz (encI .integer o) z0 = some (encI .double o,z0)) ∧ some (encI .double o) = g o ∧ z = z
    | false=>(∀ z0,tupE [encI .integer o,.int 1] z0 = some (encI .double o,z0)) ∧ (∀ z0,frz (encI .double o) z0 = some (encI .double o,z0)) ∧ some (encI .double o) = g o ∧ z = z):=by
  refine ⟨fun z0=>is_enc o,?_⟩
  cases o with
  | none=>exact ⟨fun _=>rfl,(hg none).symm,rfl⟩
  | some i=>exact ⟨fun _=>rfl,fun _=>rfl,(hg (some i)).symm,rfl⟩
theorem int_items (o:Option Nat) (z:Zo):(∀ z0,cmpV z0 .Is (encI .integer o) .none = some (!o.isSome)) ∧ (match !o.isSome with
    | true=>(∀ z0,frz (encI .integer o) z0 = some (encI .integer o,z0)) ∧ some (encI .integer o) = some (encI .integer o) ∧ z = z
    | false=>(∀ z0,frz (encI .integer o) z0 = some (encI .integer o,z0)) ∧ some (encI .integer o) = some (encI .integer o) ∧ z = z):=by
  refine ⟨fun z0=>is_enc o,?_⟩
  cases o <;> exact ⟨fun _=>frz_enc _ _ _,rfl,rfl⟩
theorem is_run0 (hl:∀ a ∈ [934],orc a = none) (k:Kd) (row:Row) (hr:row.length ≤ 20):runO (prO w need orc) 60 934 [vec0 k row,.str (kS k),LV .integer row] = some (.bool true):=by
  have t0:R .integer row = row.map (encI .integer):=rfl
  have t2:(R .integer row).length ≤ lineMax:=fit_R (by omega)
  have t3:∀ z0,cmpV z0 .Eq (LV k row) (.list (row.filterMap fun o=>some (encI k o))) = some true:=fun z0=>by
    rw [fm_map]
    have:=eq_row (IsR.lv z0 k row) (IsR.lv z0 k row)
    rw [decide_eq_true rfl] at this
    exact this
  have t4:some (V.bool true) = some (V.bool true):=rfl
  cases k with
  | double =>
    have t1:∀ o ∈ row,∀ z:Zo,_:=fun o _ z=>dbl_items o (fun o=>some (encI .double o)) (fun _=>rfl) z
    have t:=And.intro t0 (And.intro t1 (And.intro t2 (And.intro (kS_eq .double) (And.intro t3 t4))))
    exact runO_of (hT0 hl) (as:=[.compA row (encI .integer) (fun o=>some (encI .double o)) (fun o=>[.cmpA (!o.isSome),.fzA (encI .double o),.fzA (encI .double o)]),.cmpA true,.cmpA true]) (Wk.of t (by kernel_rfl))
  | integer =>
    have t1:∀ o ∈ row,∀ z:Zo,_:=fun o _ z=>int_items o z
    have t:=And.intro t0 (And.intro t1 (And.intro t2 (And.intro (kS_eq .integer) (And.intro t3 t4))))
    exact runO_of (hT0 hl) (as:=[.compA row (encI .integer) (fun o=>some (encI .integer o)) (fun o=>[.cmpA (!o.isSome),.fzA (encI .integer o)]),.cmpA true,.cmpA true]) (Wk.of t (by kernel_rfl))
  | logical =>
    have t1:∀ o ∈ row,∀ z:Zo,_:=fun o _ z=>int_items o z
    have t3':∀ z0,cmpV z0 .Eq (LV .logical row) (.list (row.filterMap fun o=>some (encI .integer o))) = some true:=fun z0=>by
      have:=t3 z0
      simpa only [li_enc] using this
    have t:=And.intro t0 (And.intro t1 (And.intro t2 (And.intro (kS_eq .logical) (And.intro t3' t4))))
    exact runO_of (hT0 hl) (as:=[.compA row (encI .integer) (fun o=>some (encI .integer o)) (fun o=>[.cmpA (!o.isSome),.fzA (encI .integer o)]),.cmpA true,.cmpA true]) (Wk.of t (by kernel_rfl))
end
end Mine
end
section
open PySem PySem.W PyProof.Rows
namespace Mine
theorem snoc_cases {p:Row → Prop} (h0:p []) (h1:∀ q a,p q → p (q ++ [a])) (l:Row):p l:=by
  have:∀ n (l:Row),l.length = n → p l:=by
    intro n
    induction n with
    | zero=>intro l hl; rw [List.eq_nil_of_length_eq_zero hl]; exact h0
    | succ n ih =>
      intro l hl
      obtain ⟨q,a,rfl⟩:∃ q a,l = q ++ [a]:=⟨l.dropLast,l.getLast (by intro e; subst e; cases hl),(List.dropLast_concat_getLast _).symm⟩
      exact h1 q a (ih q (by simpa using hl))
  exact this _ l rfl
theorem mem_onceF (o:Option Nat) (l:Row):o ∈ onceF l ↔ o ∈ l:=by
  induction l using snoc_cases with
  | h0=>simp [onceF]
  | h1 q a ih =>
    rw [onceF_snoc]
    by_cases h:a ∈ onceF q
    · rw [if_pos h,ih]
      constructor
      · intro h; simp [h]
      · intro h2
        rcases List.mem_append.mp h2 with h2 | h2
        · exact h2
        · rw [List.mem_singleton.mp h2]
          by_cases e:o = a
          · subst e; exact ih.mp h
          · rw [List.mem_singleton] at h2; exact absurd h2 e
    · rw [if_neg h]; simp [ih]
theorem mem_onceF' (o:Option Nat) (l:Row):o ∈ onceF l ↔ o ∈ l:=mem_onceF o l
theorem getD_app_left {q:Row} {a:Option Nat} {i:Nat} (h:i < q.length):(q ++ [a]).getD i none = q.getD i none:=by
  simp only [List.getD_eq_getElem?_getD]
  rw [List.getElem?_append_left h]
theorem getD_app_last {q:Row} {a:Option Nat}:(q ++ [a]).getD q.length none = a:=by
  simp [List.getD_eq_getElem?_getD]
theorem upl_snoc (q:Row) (a:Option Nat):upl (q ++ [a]) = if a ∈ q then upl q else upl q ++ [q.length]:=by
  unfold upl
  rw [List.length_append,List.length_singleton,List.range_succ,List.filter_append]
  have e1:(List.range q.length).filter (fun i=>decide ((q ++ [a]).idxOf ((q ++ [a]).getD i none) = i)) = (List.range q.length).filter fun i=>decide (q.idxOf (q.getD i none) = i):=by
    refine List.filter_congr fun i hi=>?_
    have hi':i < q.length:=List.mem_range.mp hi
    rw [getD_app_left hi',List.idxOf_append,if_pos (getD_mem hi')]
  rw [e1]
  have e2:([q.length].filter fun i=>decide ((q ++ [a]).idxOf ((q ++ [a]).getD i none) = i)) = if a ∈ q then [] else [q.length]:=by
    simp only [List.filter_cons,List.filter_nil,getD_app_last,List.idxOf_append]
    by_cases h:a ∈ q
    · have:q.idxOf a < q.length:=List.idxOf_lt_length_iff.mpr h
      have ne:¬ q.idxOf a = q.length:=by omega
      simp [h,ne]
    · simp [h]
  rw [e2]
  by_cases h:a ∈ q <;> simp [h]
theorem once_eq (row:Row):once row = onceF row:=by
  have key:∀ l:Row,once l = onceF l:=fun l=>by
    induction l using snoc_cases with
    | h0=>rfl
    | h1 q a ih =>
      have hm:∀ i ∈ upl q,(q ++ [a]).getD i none = q.getD i none:=fun i hi=>getD_app_left (by have:=(List.mem_filter.mp hi).1; simpa using this)
      rw [onceF_snoc]
      unfold once at ih ⊢
      rw [upl_snoc]
      by_cases h:a ∈ q
      · rw [if_pos h,if_pos ((mem_onceF a q).mpr h),List.map_congr_left hm,ih]
      · rw [if_neg h,if_neg (fun x=>h ((mem_onceF a q).mp x)),List.map_append,List.map_congr_left hm,ih,List.map_singleton,getD_app_last]
  exact key row
theorem onceF_filter (p:Option Nat → Bool) (l:Row):onceF (l.filter p) = (onceF l).filter p:=by
  induction l using snoc_cases with
  | h0=>rfl
  | h1 q a ih =>
    rw [List.filter_append,onceF_snoc]
    cases hp:p a with
    | false =>
      have:[a].filter p = []:=by simp [hp]
      rw [this,List.append_nil,ih]
      split
      · rfl
      · simp [hp]
    | true =>
      have:[a].filter p = [a]:=by simp [hp]
      rw [this,onceF_snoc,ih]
      by_cases h:a ∈ onceF q
      · have:a ∈ (onceF q).filter p:=List.mem_filter.mpr ⟨h,hp⟩
        rw [if_pos h,if_pos this]
      · have:¬ a ∈ (onceF q).filter p:=fun x=>h (List.mem_filter.mp x).1
        rw [if_neg h,if_neg this]; simp [hp]
theorem onceF_map {f:Option Nat → Option Nat} (hf:∀ a b,f a = f b → a = b) (l:Row):onceF (l.map f) = (onceF l).map f:=by
  induction l using snoc_cases with
  | h0=>rfl
  | h1 q a ih =>
    rw [List.map_append,List.map_singleton,onceF_snoc,onceF_snoc,ih]
    by_cases h:a ∈ onceF q
    · have:f a ∈ (onceF q).map f:=List.mem_map.mpr ⟨a,h,rfl⟩
      rw [if_pos h,if_pos this]
    · have:¬ f a ∈ (onceF q).map f:=fun x=>by
        obtain ⟨b,hb,e⟩:=List.mem_map.mp x
        exact h (hf _ _ e ▸ hb)
      rw [if_neg h,if_neg this]; simp
theorem upR_inj (a b:Option Nat) (h:upR none a = upR none b):a = b:=by
  cases a <;> cases b <;> simp [upR] at h ⊢
  exact h
noncomputable def marksR (row:Row):Row:=(List.range row.length).map fun i=>some (if row.getD i none ∈ row.take i then 1 else 0)
noncomputable def behindR (row:Row):Row:=(List.range row.length).map fun i=>some (if row.getD i none ∈ row.drop (i + 1) then 1 else 0)
theorem dup_marks (row:Row):dupR row = marksR row:=by
  refine List.map_congr_left fun i hi=>?_
  have hi':i < row.length:=List.mem_range.mp hi
  have e:=idx_take hi'
  by_cases h:row.getD i none ∈ row.take i
  · rw [if_pos h] at e
    have:(row.take i).idxOf (row.getD i none) < (row.take i).length:=List.idxOf_lt_length_iff.mpr h
    have ne:¬ row.idxOf (row.getD i none) = i:=by rw [e]; rw [List.length_take] at this; omega
    rw [if_neg ne,if_pos h]
  · rw [if_neg h] at e
    rw [if_pos e,if_neg h]
theorem getD_rev {row:Row} {i:Nat} (h:i < row.length):row.reverse.getD i none = row.getD (row.length - 1 - i) none:=by
  simp only [List.getD_eq_getElem?_getD]
  rw [List.getElem?_reverse h]
theorem marks_rev (row:Row):(marksR row.reverse).reverse = behindR row:=by
  unfold marksR behindR
  rw [← List.map_reverse,List.length_reverse]
  refine List.ext_getElem (by simp) fun i h1 h2=>?_
  have hi:i < row.length:=by simpa using h2
  simp only [List.getElem_map,List.getElem_reverse,List.getElem_range,List.length_range]
  have e1:row.length - 1 - (row.length - 1 - i) = i:=by omega
  rw [getD_rev (by omega),e1]
  have e2:row.reverse.take (row.length - 1 - i) = (row.drop (i + 1)).reverse:=by
    rw [List.take_reverse]
    have:row.length - (row.length - 1 - i) = i + 1:=by omega
    rw [this]
  rw [e2]
  simp
theorem dup_behind (row:Row):(dupR row.reverse).reverse = behindR row:=by rw [dup_marks,marks_rev]
theorem dup_turned (row:Row):dupR row.reverse = (behindR row).reverse:=by rw [← dup_behind,List.reverse_reverse]
theorem matchR_none (l r:Row):none ∈ matchR l r ↔ ∃ o ∈ l,o ∉ r:=by
  unfold matchR
  rw [List.mem_map]
  constructor
  · rintro ⟨o,ho,e⟩
    refine ⟨o,ho,fun h=>?_⟩
    rw [if_pos h] at e; cases e
  · rintro ⟨o,ho,h⟩
    exact ⟨o,ho,by rw [if_neg h]⟩
theorem filter_nil_iff (l r:Row):l.filter (fun o=>!decide (o ∈ r)) = [] ↔ ¬ ∃ o ∈ l,o ∉ r:=by
  rw [List.filter_eq_nil_iff]
  constructor
  · rintro h ⟨o,ho,hn⟩
    exact h o ho (by simp [hn])
  · intro h o ho hx
    exact h ⟨o,ho,by simpa using hx⟩
theorem same_law (l r:Row):sameR l r = (decide ((onceF l).filter (fun o=>!decide (o ∈ r)) = []) && decide (r.filter (fun o=>!decide (o ∈ l)) = [])):=by
  unfold sameR
  have h1:(onceF l).filter (fun o=>!decide (o ∈ r)) = [] ↔ ¬ none ∈ matchR l r:=by
    rw [filter_nil_iff,matchR_none]
    constructor
    · rintro h ⟨o,ho,hn⟩; exact h ⟨o,(mem_onceF o l).mpr ho,hn⟩
    · rintro h ⟨o,ho,hn⟩; exact h ⟨o,(mem_onceF o l).mp ho,hn⟩
  have h2:r.filter (fun o=>!decide (o ∈ l)) = [] ↔ ¬ none ∈ matchR r l:=by rw [filter_nil_iff,matchR_none]
  simp only [h1,h2,decide_not]
end Mine
end
section
open PySem PySem.W PyProof.Rows
namespace Mine
structure HLaw (P:Prg):Prop where
  onc:∀ row,row.length ≤ 20 → Calls P 922 [LV .integer row] (LV .integer (onceF row))
  is:∀ k row,row.length ≤ 20 → Calls P 934 [vec0 k row,.str (kS k),LV .integer row] (.bool true)
  uniq:∀ k row nm,RowOk row → Calls P 837 [.none,arg1 (vN k row nm),.none] (vec0 k (once row))
  uniqN:Calls P 837 [.none,arg1 nullV,.none] nullV
  uniqF:∀ row,RowOk row → Calls P 837 [.none,arg1 (facV row),.none] (facV (once row))
  dup:∀ k row nm,RowOk row → Calls P 844 [.none,arg1 (vN k row nm),.none] (vec0 .logical (dupR row))
  dupL:∀ k row nm,RowOk row → Calls P 844 [.none,.list [.tup [.none,vN k row nm],.tup [.str "fromLast",vec0 .logical [some 1]]],.none] (vec0 .logical (dupR row.reverse).reverse)
  dupN:Calls P 844 [.none,arg1 nullV,.none] (vec0 .logical [])
  any:∀ k row nm,RowOk row → Calls P 851 [.none,arg1 (vN k row nm),.none] (vec0 .integer (anyR row))
  anyN:Calls P 851 [.none,arg1 nullV,.none] (vec0 .integer [some 0])
  mat:∀ k l n1 b,RowOk l → ArgOk b → Calls P 856 [.none,arg2 (vN k l n1) (argV b),.none] (vec0 .integer ((matchR l (argR b)).map (upR none)))
  mat0:∀ k k2 l r n1 n2,RowOk l → RowOk r → Calls P 856 [.none,.list [.tup [.none,vN k l n1],.tup [.none,vN k2 r n2],.tup [.str "nomatch",vec0 .integer [some 0]]],.none] (vec0 .integer ((matchR l r).map (upR (some 0))))
  inn:∀ k k2 l r n1 n2,RowOk l → RowOk r → Calls P 861 [.none,arg2 (vN k l n1) (vN k2 r n2),.none] (vec0 .logical ((matchR l r).map isR))
  uni:∀ k k2 l r n1 n2,RowOk l → RowOk r → (l ++ r).length ≤ 20 → Calls P 882 [.none,arg2 (vN k l n1) (vN k2 r n2),.none] (vec0 (kmax k k2) (Mine.once (l ++ r)))
  uniNV:∀ k2 r n2,RowOk r → Calls P 882 [.none,arg2 nullV (vN k2 r n2),.none] (vec0 k2 (Mine.once r))
  uniNN:Calls P 882 [.none,arg2 nullV nullV,.none] nullV
  int:∀ k k2 l r n1 n2,RowOk l → RowOk r → Calls P 889 [.none,arg2 (vN k l n1) (vN k2 r n2),.none] (vec0 (kmax k k2) (Mine.once (keepR l r true)))
  intNN:Calls P 889 [.none,arg2 nullV nullV,.none] nullV
  dif:∀ k k2 l r n1 n2,RowOk l → RowOk r → Calls P 896 [.none,arg2 (vN k l n1) (vN k2 r n2),.none] (vec0 k (Mine.once (keepR l r false)))
  difVN:∀ k l n1,RowOk l → Calls P 896 [.none,arg2 (vN k l n1) nullV,.none] (vec0 k (Mine.once (keepR l [] false)))
  difNN:Calls P 896 [.none,arg2 nullV nullV,.none] nullV
  eqv:∀ k k2 l r n1 n2,RowOk l → RowOk r → Calls P 903 [.none,arg2 (vN k l n1) (vN k2 r n2),.none] (vec0 .logical [some (if sameR l r then 1 else 0)])
  eqvN:∀ k l n1,RowOk l → Calls P 903 [.none,arg2 (vN k l n1) nullV,.none] (vec0 .logical [some (if sameR l [] then 1 else 0)])
abbrev LRow (row:Row):Prop:=(∀ i,some i ∈ row → i < 7) ∧ row.length ≤ 7
theorem LRow.ok {row:Row} (h:LRow row):RowOk row:=⟨fun o ho i e=>by have:=h.1 i (e ▸ ho); omega,by omega⟩
theorem LRow.rev {row:Row} (h:LRow row):LRow row.reverse:=⟨fun i hi=>h.1 i (by simpa using hi),by simpa using h.2⟩
theorem LRow.fac {row:Row} (h:LRow row):RowOk (row.map (upR none)):=by
  refine ⟨fun o ho i e=>?_,by simp; omega⟩
  obtain ⟨x,hx,e2⟩:=List.mem_map.mp ho
  subst e
  cases x with
  | none=>cases e2
  | some j =>
    have:=h.1 j hx
    simp only [upR,Option.some.injEq] at e2
    omega
theorem R_li (row:Row):R .logical row = R .integer row:=by
  unfold R; exact List.map_congr_left fun o _=>li_enc o
section
variable {w:Params} {need:Nat} {orc:Orc}
theorem cut_take {z:Zo} {k:Kd} {row:Row} {i:Nat}:cutE z (LV k row) .none (.int i) .none = some (LV k (row.take i),z):=by
  have h:asList z (LV k row) = some (R k row):=rfl
  have c:cutV (R k row) .none (.int i) .none = some (R k (row.take i)):=by
    have:cutV (R k row) .none (.int i) .none = if (i:Int) < 0 then none else some ((R k row).take (i:Int).toNat):=rfl
    rw [this,if_neg (by omega)]; simp [R,List.map_take]
  simp only [cutE,h,c,Option.bind_some,frzs_R,Option.map_some]
theorem cut_drop {z:Zo} {k:Kd} {row:Row} {i:Nat}:cutE z (LV k row) (.int ((i:Int) + 1)) .none .none = some (LV k (row.drop (i + 1)),z):=by
  have h:asList z (LV k row) = some (R k row):=rfl
  have c:cutV (R k row) (.int ((i:Int) + 1)) .none .none = some (R k (row.drop (i + 1))):=by
    have:cutV (R k row) (.int ((i:Int) + 1)) .none .none = if (i:Int) + 1 < 0 then none else some ((R k row).drop ((i:Int) + 1).toNat):=rfl
    have e:((i:Int) + 1).toNat = i + 1:=by omega
    rw [this,if_neg (by omega),e]; simp [R,List.map_drop]
  simp only [cutE,h,c,Option.bind_some,frzs_R,Option.map_some]
noncomputable def gM (row:Row) (i:Nat):Option V:=some (encI .integer (some (if row.getD i none ∈ row.take i then 1 else 0)))
noncomputable def gB (row:Row) (i:Nat):Option V:=some (encI .integer (some (if row.getD i none ∈ row.drop (i + 1) then 1 else 0)))
theorem fm_marks (row:Row):(List.range row.length).filterMap (gM row) = R .integer (marksR row):=by
  have:gM row = fun i=>some (encI .integer (some (if row.getD i none ∈ row.take i then 1 else 0))):=rfl
  rw [this,fm_map]; simp [R,marksR]
theorem fm_behind (row:Row):(List.range row.length).filterMap (gB row) = R .integer (behindR row):=by
  have:gB row = fun i=>some (encI .integer (some (if row.getD i none ∈ row.drop (i + 1) then 1 else 0))):=rfl
  rw [this,fm_map]; simp [R,behindR]
theorem marks_items (row:Row):∀ i ∈ List.range row.length,∀ z:Zo,(∀ z0,itemV z0 (LV .integer row) (.int i) = some (encI .integer (row.getD i none))) ∧ (∀ z0,cutE z0 (LV .integer row) .none (.int i) .none = some (LV .integer (row.take i),z0)) ∧
    (∀ z0,cmpV z0 .In (encI .integer (row.getD i none)) (LV .integer (row.take i)) = some (decide (row.getD i none ∈ row.take i))) ∧ (match decide (row.getD i none ∈ row.take i) with | true=>some (V.int 1) = gM row i ∧ z = z | false=>some (V.int 0) = gM row i ∧ z = z):=fun i hi z=>by
  have hi':i < row.length:=List.mem_range.mp hi
  refine ⟨fun z0=>item_row (IsR.lv z0 .integer row) (getD_some hi'),fun z0=>cut_take,fun z0=>in_row _ (IsR.lv z0 .integer _),?_⟩
  unfold gM
  by_cases h:row.getD i none ∈ row.take i
  · rw [if_pos h,decide_eq_true h]; exact ⟨rfl,rfl⟩
  · rw [if_neg h,decide_eq_false h]; exact ⟨rfl,rfl⟩
theorem behind_items (row:Row):∀ i ∈ List.range row.length,∀ z:Zo,(∀ z0,itemV z0 (LV .integer row) (.int i) = some (encI .integer (row.getD i none))) ∧ (∀ z0,cutE z0 (LV .integer row) (.int ((i:Int) + 1)) .none .none = some (LV .integer (row.drop (i + 1)),z0)) ∧
    (∀ z0,cmpV z0 .In (encI .integer (row.getD i none)) (LV .integer (row.drop (i + 1))) = some (decide (row.getD i none ∈ row.drop (i + 1)))) ∧ (match decide (row.getD i none ∈ row.drop (i + 1)) with | true=>some (V.int 1) = gB row i ∧ z = z | false=>some (V.int 0) = gB row i ∧ z = z):=fun i hi z=>by
  have hi':i < row.length:=List.mem_range.mp hi
  refine ⟨fun z0=>item_row (IsR.lv z0 .integer row) (getD_some hi'),fun z0=>cut_drop,fun z0=>in_row _ (IsR.lv z0 .integer _),?_⟩
  unfold gB
  by_cases h:row.getD i none ∈ row.drop (i + 1)
  · rw [if_pos h,decide_eq_true h]; exact ⟨rfl,rfl⟩
  · rw [if_neg h,decide_eq_false h]; exact ⟨rfl,rfl⟩
theorem inc_items (ms:Option Nat) (o:Option Nat) (z:Zo):(∀ z0,cmpV z0 .Is (encI .integer o) .none = some (!o.isSome)) ∧
    (match !o.isSome with | true=>some (encI .integer ms) = some (encI .integer (upR ms o)) ∧ z = z | false=>(∀ z0,binV z0 .Add (encI .integer o) (.int 1) = some (encI .integer (upR ms o),z0)) ∧ (∀ z0,frz (encI .integer (upR ms o)) z0 = some (encI .integer (upR ms o),z0)) ∧ some (encI .integer (upR ms o)) = some (encI .integer (upR ms o)) ∧ z = z):=by
  refine ⟨fun z0=>is_enc o,?_⟩
  cases o with
  | none=>exact ⟨rfl,rfl⟩
  | some i=>exact ⟨fun _=>rfl,fun _=>frz_enc _ _ _,rfl,rfl⟩
theorem fm_inc (ms:Option Nat) (row:Row):(row.filterMap fun o=>some (encI .integer (upR ms o))) = R .integer (row.map (upR ms)):=by rw [fm_map]; simp [R]
theorem ne_same {k:Kd} {row:Row} (z0:Zo):cmpV z0 .NotEq (LV k row) (LV k row) = some false:=by
  rw [ne_row (IsR.lv z0 k row) (IsR.lv z0 k row),decide_eq_true rfl]; rfl
theorem cb {P:Prg} {nb:Nat} {a:Addr} {ts:List V} {r:V} (hn:P.need ≤ nb) (H:Calls P a ts r):CallsB P nb a ts r:=⟨hn,H⟩
noncomputable abbrev tinyL:List Addr:=[382,421,428,435,353,414]
noncomputable abbrev lastA (v:V):V:=.list [.tup [.none,v],.tup [.str "fromLast",vec0 .logical [some 1]]]
noncomputable def firstR (row:Row):Nat:=if some 1 ∈ marksR row then (marksR row).idxOf (some 1) + 1 else 0
theorem any_first (row:Row):anyR row = [some (firstR row)]:=by unfold anyR firstR; rw [dup_marks]
theorem alone_run (hl:∀ a ∈ 939 :: tinyL,orc a = none) (hn:need ≤ 270) (H:HLaw (prO w need orc)) (k:Kd) (row:Row) (nm:Option V) (hr:LRow row):runO (prO w need orc) 320 939 [vN k row nm,LV .integer row] = some (.bool true):=by
  have hP:(prO w need orc).need ≤ 270:=hn
  have ok:=hr.ok
  have l20:row.length ≤ 20:=ok.2
  have ol:(onceF row).length ≤ 20:=Nat.le_trans (onceF_len _ row rfl) l20
  have t0:=cb hP (H.onc row l20)
  have t1:CallsB (prO w need orc) 270 837 [.none,arg1 (vN k row nm),.none] (vec0 k (onceF row)):=by have:=H.uniq k row nm ok; rw [once_eq] at this; exact cb hP this
  have t2:=cb hP (H.is k (onceF row) ol)
  have t3:∀ z0,bcall (prO w need orc) (.builtin "len") [LV .integer row] z0 = some (.int row.length,z0):=fun z0=>len_row (IsR.lv z0 .integer row)
  have t4:∀ z0,bcall (prO w need orc) (.type "range") [.int row.length] z0 = some (.rng row.length,z0):=fun z0=>range_n (by omega)
  have t5:(List.range row.length).map (fun i:Nat=>V.int i) = (List.range row.length).map (fun i:Nat=>V.int i):=rfl
  have t6:=marks_items row
  have t7:((List.range row.length).map (fun i:Nat=>V.int i)).length ≤ lineMax:=by simp; unfold lineMax; omega
  have t11:=behind_items row
  have t13:CallsB (prO w need orc) 270 844 [.none,arg1 (vN k row nm),.none] (vec0 .logical (marksR row)):=by have:=H.dup k row nm ok; rw [dup_marks] at this; exact cb hP this
  have t14:∀ z0,cmpV z0 .NotEq (LV .logical (marksR row)) (.list ((List.range row.length).filterMap (gM row))) = some false:=fun z0=>by rw [fm_marks,← R_li]; exact ne_same z0
  have t15:CallsB (prO w need orc) 270 844 [.none,lastA (vN k row nm),.none] (vec0 .logical (behindR row)):=by have:=H.dupL k row nm ok; rw [dup_behind] at this; exact cb hP this
  have t16:∀ z0,cmpV z0 .NotEq (LV .logical (behindR row)) (.list ((List.range row.length).filterMap (gB row))) = some false:=fun z0=>by rw [fm_behind,← R_li]; exact ne_same z0
  have t17:∀ z0,cutE z0 (LV k row) .none .none (.int (-1)) = some (LV k row.reverse,z0):=fun z0=>cut_rev (IsR.lv z0 k row)
  have t18:CallsB (prO w need orc) 270 844 [.none,arg1 (vec0 k row.reverse),.none] (vec0 .logical (behindR row).reverse):=by have:=H.dup k row.reverse none hr.rev.ok; rw [dup_turned] at this; exact cb hP this
  have t19:∀ z0,cutE z0 (.list ((List.range row.length).filterMap (gB row))) .none .none (.int (-1)) = some (LV .integer (behindR row).reverse,z0):=fun z0=>by rw [fm_behind]; exact cut_rev (IsR.lv z0 .integer _)
  have t20:∀ z0,cmpV z0 .NotEq (LV .logical (behindR row).reverse) (LV .integer (behindR row).reverse) = some false:=fun z0=>by
    have:=ne_same (k:=.logical) (row:=(behindR row).reverse) z0
    simp only [LV,R_li] at this ⊢; exact this
  have t21:∀ z0,cmpV z0 .In (.int 1) (.list ((List.range row.length).filterMap (gM row))) = some (decide (some 1 ∈ marksR row)):=fun z0=>by rw [fm_marks]; exact in_row (k:=.integer) (some 1) (IsR.lv z0 .integer _)
  have t23:CallsB (prO w need orc) 270 851 [.none,arg1 (vN k row nm),.none] (vec0 .integer [some (firstR row)]):=by have:=H.any k row nm ok; rw [any_first] at this; exact cb hP this
  have t24:=cb hP (H.is .integer [some (firstR row)] (by simp))
  have t25:R .integer row = row.map (encI .integer):=rfl
  have t26:∀ o ∈ row,∀ z:Zo,_:=fun o _ z=>inc_items none o z
  have t27:(R .integer row).length ≤ lineMax:=fit_R (by omega)
  have t28:∀ z0,bcall (prO w need orc) (.type "list") [.list (row.filterMap fun o=>some (encI .integer (upR none o)))] z0 = some (LV .integer (row.map (upR none)),z0):=fun z0=>by rw [fm_inc]; exact list_row (IsR.lv z0 _ _)
  have t29:CallsB (prO w need orc) 270 837 [.none,arg1 (facV (row.map (upR none))),.none] (facV ((onceF row).map (upR none))):=by
    have:=H.uniqF (row.map (upR none)) hr.fac
    rw [once_eq,onceF_map upR_inj] at this; exact cb hP this
  have t30:R .integer (onceF row) = (onceF row).map (encI .integer):=rfl
  have t31:∀ o ∈ onceF row,∀ z:Zo,_:=fun o _ z=>inc_items none o z
  have t32:(R .integer (onceF row)).length ≤ lineMax:=fit_R (by omega)
  have t33:∀ z0,cmpV z0 .NotEq (LV .integer ((onceF row).map (upR none))) (.list ((onceF row).filterMap fun o=>some (encI .integer (upR none o)))) = some false:=fun z0=>by rw [fm_inc]; exact ne_same z0
  have tf:some (V.bool true) = some (V.bool true):=rfl
  have tail:=And.intro t23 (And.intro t24 (And.intro t25 (And.intro t26 (And.intro t27 (And.intro t28 (And.intro t29 (And.intro t30 (And.intro t31 (And.intro t32 (And.intro t33 tf))))))))))
  by_cases h:some 1 ∈ marksR row
  · have t22:∀ z0,mcall "list.index" (.list ((List.range row.length).filterMap (gM row))) [.int 1] z0 = some (.int ((marksR row).idxOf (some 1)),z0):=fun z0=>by
      rw [fm_marks]; exact index_row (k:=.integer) (o:=some 1) (IsR.lv z0 .integer _) h (by simp [marksR]; unfold lineMax; omega)
    rw [decide_eq_true h] at t21
    have ef:firstR row = (marksR row).idxOf (some 1) + 1:=by unfold firstR; rw [if_pos h]
    rw [ef] at tail
    have t:=And.intro t0 (And.intro t1 (And.intro t2 (And.intro t3 (And.intro t4 (And.intro t5 (And.intro t6 (And.intro t7 (And.intro t3 (And.intro t4 (And.intro t5 (And.intro t11 (And.intro t7 (And.intro t13 (And.intro t14 (And.intro t15 (And.intro t16 (And.intro t17 (And.intro t18 (And.intro t19 (And.intro t20 (And.intro t21 (And.intro t22 tail))))))))))))))))))))))
    exact runO_of (hT0 hl) (as:=[.call 270 (LV .integer (onceF row)),.call 270 (vec0 k (onceF row)),.call 270 (.bool true),
      .prA (.int row.length),.prA (.rng row.length),.compA (List.range row.length) (fun i=>.int i) (gM row) (fun i=>[.itemA (encI .integer (row.getD i none)),.prA (LV .integer (row.take i)),.cmpA (decide (row.getD i none ∈ row.take i))]),
      .prA (.int row.length),.prA (.rng row.length),.compA (List.range row.length) (fun i=>.int i) (gB row) (fun i=>[.itemA (encI .integer (row.getD i none)),.prA (LV .integer (row.drop (i + 1))),.cmpA (decide (row.getD i none ∈ row.drop (i + 1)))]),
      .call 270 (vec0 .logical (marksR row)),.cmpA false,.call 270 (vec0 .logical (behindR row)),.cmpA false,.prA (LV k row.reverse),.call 270 (vec0 .logical (behindR row).reverse),.prA (LV .integer (behindR row).reverse),.cmpA false,
      .cmpA true,.mcA (.int ((marksR row).idxOf (some 1))),.call 270 (vec0 .integer [some ((marksR row).idxOf (some 1) + 1)]),.call 270 (.bool true),
      .compA row (encI .integer) (fun o=>some (encI .integer (upR none o))) (fun o=>[.cmpA (!o.isSome),.binA (encI .integer (upR none o)),.fzA (encI .integer (upR none o))]),.prA (LV .integer (row.map (upR none))),.call 270 (facV ((onceF row).map (upR none))),
      .compA (onceF row) (encI .integer) (fun o=>some (encI .integer (upR none o))) (fun o=>[.cmpA (!o.isSome),.binA (encI .integer (upR none o)),.fzA (encI .integer (upR none o))]),.cmpA false]) (Wk.of t (by kernel_rfl))
  · rw [decide_eq_false h] at t21
    have ef:firstR row = 0:=by unfold firstR; rw [if_neg h]
    rw [ef] at tail
    have t:=And.intro t0 (And.intro t1 (And.intro t2 (And.intro t3 (And.intro t4 (And.intro t5 (And.intro t6 (And.intro t7 (And.intro t3 (And.intro t4 (And.intro t5 (And.intro t11 (And.intro t7 (And.intro t13 (And.intro t14 (And.intro t15 (And.intro t16 (And.intro t17 (And.intro t18 (And.intro t19 (And.intro t20 (And.intro t21 tail)))))))))))))))))))))
    exact runO_of (hT0 hl) (as:=[.call 270 (LV .integer (onceF row)),.call 270 (vec0 k (onceF row)),.call 270 (.bool true),
      .prA (.int row.length),.prA (.rng row.length),.compA (List.range row.length) (fun i=>.int i) (gM row) (fun i=>[.itemA (encI .integer (row.getD i none)),.prA (LV .integer (row.take i)),.cmpA (decide (row.getD i none ∈ row.take i))]),
      .prA (.int row.length),.prA (.rng row.length),.compA (List.range row.length) (fun i=>.int i) (gB row) (fun i=>[.itemA (encI .integer (row.getD i none)),.prA (LV .integer (row.drop (i + 1))),.cmpA (decide (row.getD i none ∈ row.drop (i + 1)))]),
      .call 270 (vec0 .logical (marksR row)),.cmpA false,.call 270 (vec0 .logical (behindR row)),.cmpA false,.prA (LV k row.reverse),.call 270 (vec0 .logical (behindR row).reverse),.prA (LV .integer (behindR row).reverse),.cmpA false,
      .cmpA false,.call 270 (vec0 .integer [some 0]),.call 270 (.bool true),
      .compA row (encI .integer) (fun o=>some (encI .integer (upR none o))) (fun o=>[.cmpA (!o.isSome),.binA (encI .integer (upR none o)),.fzA (encI .integer (upR none o))]),.prA (LV .integer (row.map (upR none))),.call 270 (facV ((onceF row).map (upR none))),
      .compA (onceF row) (encI .integer) (fun o=>some (encI .integer (upR none o))) (fun o=>[.cmpA (!o.isSome),.binA (encI .integer (upR none o)),.fzA (encI .integer (upR none o))]),.cmpA false]) (Wk.of t (by kernel_rfl))
end
end Mine
end
section
open PySem PySem.W PyProof.Rows
namespace Mine
def HWide (P:Prg):Prop:=∀ a b,Calls P 929 [.str (kS a),.str (kS b)] (.str (kS (kmax a b)))
section
variable {w:Params} {need:Nat} {orc:Orc}
theorem wide_run (hl:∀ a ∈ [929],orc a = none) (a b:Kd):runO (prO w need orc) 60 929 [.str (kS a),.str (kS b)] = some (.str (kS (kmax a b))):=by
  have t:some (V.str (kS (kmax a b))) = some (V.str (kS (kmax a b))):=rfl
  refine runO_of (hT0 hl) (as:=[]) ?_
  cases a <;> cases b <;> exact Wk.of t (by kernel_rfl)
noncomputable abbrev tinyM:List Addr:=[382,421,428,435,353,414]
noncomputable def plR (r:Row) (o:Option Nat):Option Nat:=if o ∈ r then some (r.idxOf o + 1) else none
noncomputable def zR (o:Option Nat):Option Nat:=some (o.getD 0)
theorem match_pl (l r:Row):(matchR l r).map (upR none) = l.map (plR r):=by
  unfold matchR; rw [List.map_map]
  refine List.map_congr_left fun o _=>?_
  simp only [Function.comp,plR]
  split <;> rfl
theorem match_zr (l r:Row):(matchR l r).map (upR (some 0)) = (l.map (plR r)).map zR:=by
  unfold matchR; rw [List.map_map,List.map_map]
  refine List.map_congr_left fun o _=>?_
  simp only [Function.comp,plR]
  split <;> rfl
theorem match_is (l r:Row):(matchR l r).map isR = (l.map (plR r)).map isR:=by
  unfold matchR; rw [List.map_map,List.map_map]
  refine List.map_congr_left fun o _=>?_
  simp only [Function.comp,plR]
  split <;> rfl
noncomputable def gP (r:Row) (o:Option Nat):Option V:=some (encI .integer (plR r o))
noncomputable def gZ (f:Option Nat → Option Nat) (o:Option Nat):Option V:=some (encI .integer (f o))
noncomputable def gIn (r:Row) (b:Bool) (o:Option Nat):Option V:=if (decide (o ∈ r) == b) = true then some (encI .integer o) else none
theorem fm_gP (r l:Row):l.filterMap (gP r) = R .integer (l.map (plR r)):=by
  have:gP r = fun o=>some (encI .integer (plR r o)):=rfl
  rw [this,fm_map]; simp [R]
theorem fm_gZ (f:Option Nat → Option Nat) (l:Row):l.filterMap (gZ f) = R .integer (l.map f):=by
  have:gZ f = fun o=>some (encI .integer (f o)):=rfl
  rw [this,fm_map]; simp [R]
theorem fm_gIn (l r:Row) (b:Bool):l.filterMap (gIn r b) = R .integer (keepR l r b):=fm_if (fun o=>decide (o ∈ r) == b) (encI .integer) l
theorem pl_items (l r:Row) (hr:r.length ≤ 20):∀ o ∈ l,∀ z:Zo,(∀ z0,cmpV z0 .In (encI .integer o) (LV .integer r) = some (decide (o ∈ r))) ∧ (match decide (o ∈ r) with
    | true=>(∀ z0,mcall "list.index" (LV .integer r) [encI .integer o] z0 = some (.int (r.idxOf o),z0)) ∧ some (V.int ((r.idxOf o:Int) + 1)) = gP r o ∧ z = z
    | false=>some V.none = gP r o ∧ z = z):=fun o _ z=>by
  refine ⟨fun z0=>in_row o (IsR.lv z0 .integer r),?_⟩
  unfold gP plR
  by_cases h:o ∈ r
  · rw [decide_eq_true h,if_pos h]
    exact ⟨fun z0=>index_row (IsR.lv z0 .integer r) h (by unfold lineMax; omega),rfl,rfl⟩
  · rw [decide_eq_false h,if_neg h]; exact ⟨rfl,rfl⟩
theorem zr_items (l:Row):∀ o ∈ l,∀ z:Zo,(∀ z0,cmpV z0 .Is (encI .integer o) .none = some (!o.isSome)) ∧ (match !o.isSome with
    | true=>(∀ z0,frz (.int 0) z0 = some (encI .integer (zR o),z0)) ∧ some (encI .integer (zR o)) = gZ zR o ∧ z = z
    | false=>(∀ z0,frz (encI .integer o) z0 = some (encI .integer (zR o),z0)) ∧ some (encI .integer (zR o)) = gZ zR o ∧ z = z):=fun o _ z=>by
  refine ⟨fun z0=>is_enc o,?_⟩
  cases o <;> exact ⟨fun _=>rfl,rfl,rfl⟩
theorem ir_items (l:Row):∀ o ∈ l,∀ z:Zo,(∀ z0,cmpV z0 .Is (encI .integer o) .none = some (!o.isSome)) ∧ (match !o.isSome with
    | true=>some (V.int 0) = gZ isR o ∧ z = z
    | false=>some (V.int 1) = gZ isR o ∧ z = z):=fun o _ z=>by
  refine ⟨fun z0=>is_enc o,?_⟩
  cases o <;> exact ⟨rfl,rfl⟩
theorem in_items (l r:Row):∀ o ∈ l,∀ z:Zo,(∀ z0,cmpV z0 .In (encI .integer o) (LV .integer r) = some (decide (o ∈ r))) ∧ (match decide (o ∈ r) with
    | true=>(∀ z0,frz (encI .integer o) z0 = some (encI .integer o,z0)) ∧ some (encI .integer o) = gIn r true o ∧ z = z
    | false=>none = gIn r true o ∧ z = z):=fun o _ z=>by
  refine ⟨fun z0=>in_row o (IsR.lv z0 .integer r),?_⟩
  unfold gIn
  by_cases h:o ∈ r
  · rw [decide_eq_true h]; exact ⟨fun _=>frz_enc _ _ _,rfl,rfl⟩
  · rw [decide_eq_false h]; exact ⟨rfl,rfl⟩
theorem out_items (l r:Row):∀ o ∈ l,∀ z:Zo,(∀ z0,cmpV z0 .NotIn (encI .integer o) (LV .integer r) = some (!decide (o ∈ r))) ∧ (match !decide (o ∈ r) with
    | true=>(∀ z0,frz (encI .integer o) z0 = some (encI .integer o,z0)) ∧ some (encI .integer o) = gIn r false o ∧ z = z
    | false=>none = gIn r false o ∧ z = z):=fun o _ z=>by
  refine ⟨fun z0=>notin_row o (IsR.lv z0 .integer r),?_⟩
  unfold gIn
  by_cases h:o ∈ r
  · rw [decide_eq_true h]; exact ⟨rfl,rfl⟩
  · rw [decide_eq_false h]; exact ⟨fun _=>frz_enc _ _ _,rfl,rfl⟩
theorem once_keep (l r:Row) (b:Bool):once (keepR l r b) = keepR (onceF l) r b:=by rw [once_eq]; exact onceF_filter _ l
theorem same_keep (l r:Row):sameR l r = (decide (keepR (onceF l) r false = []) && decide (keepR r l false = [])):=by
  have e:∀ a b:Row,keepR a b false = a.filter (fun o=>!decide (o ∈ b)):=fun a b=>List.filter_congr fun o _=>by cases decide (o ∈ b) <;> rfl
  rw [same_law,e,e]
theorem one_eq (z0:Zo) (b:Bool):cmpV z0 .Eq (LV .logical [some (if b then 1 else 0)]) (.list [.int (if b then 1 else 0)]) = some true:=by cases b <;> rfl
theorem eq_nil (l:Row) (z0:Zo):cmpV z0 .Eq (LV .integer l) (.list []) = some (decide (l = [])):=eq_row (IsR.lv z0 .integer l) (IsR.lv z0 .integer [])
theorem both_run (hl:∀ a ∈ 944 :: tinyM,orc a = none) (hn:need ≤ 270) (H:HLaw (prO w need orc)) (HW:HWide (prO w need orc)) (k k2:Kd) (l r:Row) (n1 n2:Option V) (ha:LRow l) (hb:LRow r) :
    runO (prO w need orc) 320 944 [vN k l n1,LV .integer l,vN k2 r n2,LV .integer r] = some (.bool true):=by
  have hP:(prO w need orc).need ≤ 270:=hn
  have oa:=ha.ok
  have ob:=hb.ok
  have la:=ha.2
  have lb:=hb.2
  have ol:=onceF_len _ l rfl
  have t0:R .integer l = l.map (encI .integer):=rfl
  have t1:=pl_items l r ob.2
  have t2:(R .integer l).length ≤ lineMax:=fit_R (by omega)
  have t3:CallsB (prO w need orc) 270 856 [.none,arg2 (vN k l n1) (vN k2 r n2),.none] (vec0 .integer (l.map (plR r))):=by have:=H.mat k l n1 (.vec k2 r n2) oa ob; simp only [argR] at this; rw [match_pl] at this; exact cb hP this
  have t4:CallsB (prO w need orc) 270 934 [vec0 .integer (l.map (plR r)),.str (kS .integer),.list (l.filterMap (gP r))] (.bool true):=by rw [fm_gP]; exact cb hP (H.is .integer (l.map (plR r)) (by simp; omega))
  have t5:CallsB (prO w need orc) 270 856 [.none,.list [.tup [.none,vN k l n1],.tup [.none,vN k2 r n2],.tup [.str "nomatch",vec0 .integer [some 0]]],.none] (vec0 .integer ((l.map (plR r)).map zR)):=by have:=H.mat0 k k2 l r n1 n2 oa ob; rw [match_zr] at this; exact cb hP this
  have t6:l.filterMap (gP r) = (l.map (plR r)).map (encI .integer):=fm_gP r l
  have t7:=zr_items (l.map (plR r))
  have t8:(l.filterMap (gP r)).length ≤ lineMax:=by rw [fm_gP]; exact fit_R (by simp; omega)
  have t9:CallsB (prO w need orc) 270 934 [vec0 .integer ((l.map (plR r)).map zR),.str (kS .integer),.list ((l.map (plR r)).filterMap (gZ zR))] (.bool true):=by rw [fm_gZ]; exact cb hP (H.is .integer _ (by simp; omega))
  have t10:CallsB (prO w need orc) 270 861 [.none,arg2 (vN k l n1) (vN k2 r n2),.none] (vec0 .logical ((l.map (plR r)).map isR)):=by have:=H.inn k k2 l r n1 n2 oa ob; rw [match_is] at this; exact cb hP this
  have t12:=ir_items (l.map (plR r))
  have t14:CallsB (prO w need orc) 270 934 [vec0 .logical ((l.map (plR r)).map isR),.str (kS .logical),.list ((l.map (plR r)).filterMap (gZ isR))] (.bool true):=by rw [fm_gZ]; exact cb hP (H.is .logical _ (by simp; omega))
  have t15:=cb hP (HW k k2)
  have t16:=cb hP (H.onc l (by omega))
  have t17:R .integer (onceF l) = (onceF l).map (encI .integer):=rfl
  have t18:=in_items (onceF l) r
  have t19:(R .integer (onceF l)).length ≤ lineMax:=fit_R (by omega)
  have t22:=out_items (onceF l) r
  have t24:CallsB (prO w need orc) 270 882 [.none,arg2 (vN k l n1) (vN k2 r n2),.none] (vec0 (kmax k k2) (onceF (l ++ r))):=by have:=H.uni k k2 l r n1 n2 oa ob (by simp; omega); rw [once_eq] at this; exact cb hP this
  have t25:∀ z0,binV z0 .Add (LV .integer l) (LV .integer r) = some (LV .integer (l ++ r),z0):=fun z0=>add_row rfl rfl (by simp; omega)
  have t26:=cb hP (H.onc (l ++ r) (by simp; omega))
  have olr:=onceF_len _ (l ++ r) rfl
  have t27:=cb hP (H.is (kmax k k2) (onceF (l ++ r)) (by simp at olr; omega))
  have kl:∀ b,(keepR (onceF l) r b).length ≤ 20:=fun b=>Nat.le_trans (List.length_filter_le _ _) (by omega)
  have t28:CallsB (prO w need orc) 270 889 [.none,arg2 (vN k l n1) (vN k2 r n2),.none] (vec0 (kmax k k2) (keepR (onceF l) r true)):=by have:=H.int k k2 l r n1 n2 oa ob; rw [once_keep] at this; exact cb hP this
  have t29:CallsB (prO w need orc) 270 934 [vec0 (kmax k k2) (keepR (onceF l) r true),.str (kS (kmax k k2)),.list ((onceF l).filterMap (gIn r true))] (.bool true):=by rw [fm_gIn]; exact cb hP (H.is _ _ (kl true))
  have t30:CallsB (prO w need orc) 270 896 [.none,arg2 (vN k l n1) (vN k2 r n2),.none] (vec0 k (keepR (onceF l) r false)):=by have:=H.dif k k2 l r n1 n2 oa ob; rw [once_keep] at this; exact cb hP this
  have t31:CallsB (prO w need orc) 270 934 [vec0 k (keepR (onceF l) r false),.str (kS k),.list ((onceF l).filterMap (gIn r false))] (.bool true):=by rw [fm_gIn]; exact cb hP (H.is _ _ (kl false))
  have t32:∀ z0,cmpV z0 .Eq (.list ((onceF l).filterMap (gIn r false))) (.list []) = some (decide (keepR (onceF l) r false = [])):=fun z0=>by rw [fm_gIn]; exact eq_nil _ z0
  have t33:R .integer r = r.map (encI .integer):=rfl
  have t34:=out_items r l
  have t35:(R .integer r).length ≤ lineMax:=fit_R (by omega)
  have t36:∀ z0,cmpV z0 .Eq (.list (r.filterMap (gIn l false))) (.list []) = some (decide (keepR r l false = [])):=fun z0=>by rw [fm_gIn]; exact eq_nil _ z0
  have t37:CallsB (prO w need orc) 270 903 [.none,arg2 (vN k l n1) (vN k2 r n2),.none] (vec0 .logical [some (if sameR l r then 1 else 0)]):=cb hP (H.eqv k k2 l r n1 n2 oa ob)
  rw [same_keep] at t37
  have tf:some (V.bool true) = some (V.bool true):=rfl
  generalize decide (keepR (onceF l) r false = []) = b1 at *
  generalize decide (keepR r l false = []) = b2 at *
  refine runO_of (hT0 hl) (as:=[
    .compA l (encI .integer) (gP r) (fun o=>[.cmpA (decide (o ∈ r)),.mcA (.int (r.idxOf o))]),.call 270 (vec0 .integer (l.map (plR r))),.call 270 (.bool true),.call 270 (vec0 .integer ((l.map (plR r)).map zR)),
    .compA (l.map (plR r)) (encI .integer) (gZ zR) (fun o=>[.cmpA (!o.isSome),.fzA (encI .integer (zR o))]),.call 270 (.bool true),
    .call 270 (vec0 .logical ((l.map (plR r)).map isR)),.compA (l.map (plR r)) (encI .integer) (gZ isR) (fun o=>[.cmpA (!o.isSome)]),.call 270 (.bool true),.call 270 (.str (kS (kmax k k2))),
    .call 270 (LV .integer (onceF l)),.compA (onceF l) (encI .integer) (gIn r true) (fun o=>[.cmpA (decide (o ∈ r)),.fzA (encI .integer o)]),.call 270 (LV .integer (onceF l)),.compA (onceF l) (encI .integer) (gIn r false) (fun o=>[.cmpA (!decide (o ∈ r)),.fzA (encI .integer o)]),
    .call 270 (vec0 (kmax k k2) (onceF (l ++ r))),.binA (LV .integer (l ++ r)),.call 270 (LV .integer (onceF (l ++ r))),.call 270 (.bool true),
    .call 270 (vec0 (kmax k k2) (keepR (onceF l) r true)),.call 270 (.bool true),.call 270 (vec0 k (keepR (onceF l) r false)),.call 270 (.bool true),.cmpD b1] ++ (if b1 then [.compA r (encI .integer) (gIn l false) (fun o=>[.cmpA (!decide (o ∈ l)),.fzA (encI .integer o)]),.cmpD b2] else []) ++
    [.call 270 (vec0 .logical [some (if b1 && b2 then 1 else 0)]),.cmpD true]) ?_
  cases b1
  · have t38:=fun z0=>one_eq z0 false
    have t:=And.intro t0 (And.intro t1 (And.intro t2 (And.intro t3 (And.intro t4 (And.intro t5 (And.intro t6 (And.intro t7 (And.intro t8 (And.intro t9 (And.intro t10 (And.intro t6 (And.intro t12 (And.intro t8 (And.intro t14 (And.intro t15 (And.intro t16 (And.intro t17 (And.intro t18 (And.intro t19 (And.intro t16 (And.intro t17 (And.intro t22 (And.intro t19 (And.intro t24 (And.intro t25 (And.intro t26 (And.intro t27 (And.intro t28 (And.intro t29 (And.intro t30 (And.intro t31 (And.intro t32 (And.intro t37 (And.intro t38 tf))))))))))))))))))))))))))))))))))
    exact Wk.of t (by kernel_rfl)
  · cases b2
    · have t38:=fun z0=>one_eq z0 false
      have t:=And.intro t0 (And.intro t1 (And.intro t2 (And.intro t3 (And.intro t4 (And.intro t5 (And.intro t6 (And.intro t7 (And.intro t8 (And.intro t9 (And.intro t10 (And.intro t6 (And.intro t12 (And.intro t8 (And.intro t14 (And.intro t15 (And.intro t16 (And.intro t17 (And.intro t18 (And.intro t19 (And.intro t16 (And.intro t17 (And.intro t22 (And.intro t19 (And.intro t24 (And.intro t25 (And.intro t26 (And.intro t27 (And.intro t28 (And.intro t29 (And.intro t30 (And.intro t31 (And.intro t32 (And.intro t33 (And.intro t34 (And.intro t35 (And.intro t36 (And.intro t37 (And.intro t38 tf))))))))))))))))))))))))))))))))))))))
      exact Wk.of t (by kernel_rfl)
    · have t38:=fun z0=>one_eq z0 true
      have t:=And.intro t0 (And.intro t1 (And.intro t2 (And.intro t3 (And.intro t4 (And.intro t5 (And.intro t6 (And.intro t7 (And.intro t8 (And.intro t9 (And.intro t10 (And.intro t6 (And.intro t12 (And.intro t8 (And.intro t14 (And.intro t15 (And.intro t16 (And.intro t17 (And.intro t18 (And.intro t19 (And.intro t16 (And.intro t17 (And.intro t22 (And.intro t19 (And.intro t24 (And.intro t25 (And.intro t26 (And.intro t27 (And.intro t28 (And.intro t29 (And.intro t30 (And.intro t31 (And.intro t32 (And.intro t33 (And.intro t34 (And.intro t35 (And.intro t36 (And.intro t37 (And.intro t38 tf))))))))))))))))))))))))))))))))))))))
      exact Wk.of t (by kernel_rfl)
end
end Mine
end
section
open PySem PySem.W PyProof.Rows
namespace Mine
section
variable {w:Params} {need:Nat} {orc:Orc}
noncomputable abbrev zN (k:Kd) (l:Row) (n1:Option V):Zo:=[.frz nullV,.frz (arg1 nullV),.frz (arg1 nullV),.list [],.frz (arg1 nullV),.list [.int 0],.frz (arg2 (vN k l n1) nullV),.list [.none]]
theorem mul_none {z:Zo} {i n:Nat} (h:z[i]? = some (.list [.none])) (hn:n ≤ 1000):binV z .Mult (.own i) (.int n) = some (.own z.length,z ++ [.list (List.replicate n .none)]):=by
  have h1:0 ≤ (n:Int) ∧ n ≤ lineMax:=⟨by omega,by unfold lineMax; omega⟩
  show (z[i]?).bind _ = _
  rw [h]
  exact if_pos h1
theorem match_nil (l:Row):(matchR l []).map (upR none) = List.replicate l.length none:=by
  unfold matchR
  induction l with
  | nil=>rfl
  | cons o l ih =>
    simp only [List.map_cons,List.length_cons,List.replicate_succ] at ih ⊢
    rw [ih]; simp [upR]
theorem R_rep (n:Nat):R .integer (List.replicate n none) = List.replicate n .none:=by simp [R,encI]
theorem keep_nil (l:Row):keepR l [] false = l:=by
  unfold keepR
  exact List.filter_eq_self.mpr fun o _=>by simp
theorem same_nil (l:Row):sameR l [] = decide (l = []):=by
  rw [same_keep,keep_nil]
  have:keepR [] l false = []:=rfl
  rw [this]
  have e:onceF l = [] ↔ l = []:=by
    constructor
    · intro h
      cases l with
      | nil=>rfl
      | cons o l =>
        have:o ∈ onceF (o :: l):=(mem_onceF o _).mpr (.head _)
        rw [h] at this; cases this
    · intro h; subst h; rfl
  simp [e]
theorem nothing_run (hl:∀ a ∈ 951 :: tinyM,orc a = none) (hn:need ≤ 270) (H:HLaw (prO w need orc)) (k:Kd) (l:Row) (n1:Option V) (ha:LRow l) :
    runO (prO w need orc) 320 951 [vN k l n1,LV .integer l] = some (.bool true):=by
  have hP:(prO w need orc).need ≤ 270:=hn
  have oa:=ha.ok
  have la:=ha.2
  have ol:=onceF_len _ l rfl
  have t0:=cb hP H.uniqN
  have t1:=cb hP H.dupN
  have t2:=cb hP H.anyN
  have t3:CallsB (prO w need orc) 270 856 [.none,arg2 (vN k l n1) nullV,.none] (vec0 .integer (List.replicate l.length none)):=by have:=H.mat k l n1 .null oa ⟨fun _ h=>(nomatch h),Nat.zero_le _⟩; simp only [argR] at this; rw [match_nil] at this; exact cb hP this
  have t4:∀ z0,bcall (prO w need orc) (.builtin "len") [LV .integer l] z0 = some (.int l.length,z0):=fun z0=>len_row (IsR.lv z0 .integer l)
  have t5:=mul_none (z:=zN k l n1) (i:=7) (n:=l.length) rfl (by omega)
  have t6:∀ z0,cmpV z0 .NotEq (LV .integer (List.replicate l.length none)) (.list (List.replicate l.length .none)) = some false:=fun z0=>by rw [← R_rep]; exact ne_same z0
  have t7:CallsB (prO w need orc) 270 882 [.none,arg2 nullV (vN k l n1),.none] (vec0 k (onceF l)):=by have:=H.uniNV k l n1 oa; rw [once_eq] at this; exact cb hP this
  have t8:=cb hP (H.onc l (by omega))
  have t9:=cb hP (H.is k (onceF l) (by omega))
  have t10:CallsB (prO w need orc) 270 896 [.none,arg2 (vN k l n1) nullV,.none] (vec0 k (onceF l)):=by have:=H.difVN k l n1 oa; rw [once_eq,keep_nil] at this; exact cb hP this
  have t11:=cb hP H.uniNN
  have t12:=cb hP H.intNN
  have t13:=cb hP H.difNN
  have t14:CallsB (prO w need orc) 270 903 [.none,arg2 (vN k l n1) nullV,.none] (vec0 .logical [some (if decide (l = []) then 1 else 0)]):=by have:=H.eqvN k l n1 oa; rw [same_nil] at this; exact cb hP this
  have t15:=eq_nil l
  have tf:some (V.bool true) = some (V.bool true):=rfl
  generalize decide (l = []) = b at *
  refine runO_of (hT0 hl) (as:=[.call 270 nullV,.call 270 (vec0 .logical []),.call 270 (vec0 .integer [some 0]),.call 270 (vec0 .integer (List.replicate l.length none)),.prA (.int l.length),.bin (.own 8) (zN k l n1 ++ [.list (List.replicate l.length .none)]),.cmpD false,
    .call 270 (vec0 k (onceF l)),.call 270 (LV .integer (onceF l)),.call 270 (.bool true),.call 270 (vec0 k (onceF l)),.call 270 (LV .integer (onceF l)),.call 270 (.bool true),
    .call 270 nullV,.call 270 nullV,.call 270 nullV,.call 270 (vec0 .logical [some (if b then 1 else 0)]),.cmpD b,.cmpD true]) ?_
  have t16:=fun z0=>one_eq z0 b
  have t:=And.intro t0 (And.intro t1 (And.intro t2 (And.intro t3 (And.intro t4 (And.intro t5 (And.intro t6 (And.intro t7 (And.intro t8 (And.intro t9 (And.intro t10 (And.intro t8 (And.intro t9 (And.intro t11 (And.intro t12 (And.intro t13 (And.intro t14 (And.intro t15 (And.intro t16 tf))))))))))))))))))
  cases b <;> exact Wk.of t (by kernel_rfl)
end
end Mine
end
section
open PySem PySem.W PyProof.Rows
namespace Mine
noncomputable abbrev Orb:=Addr → Option (O → List V → Option (V × O))
noncomputable def prB (w:Params) (need:Nat) (orc:Orc) (orb:Orb):Prg:=prL (KP w) need orc orb
noncomputable def finB (v:V) (z:Zo):Option (V × O):=(frz v z).bind fun (t,z2)=>match z2[0]? with
  | some o'=>if plainO o' then some (t,o') else none
  | none=>none
noncomputable def runB (P:Prg) (n:Nat) (a:Addr) (o:O) (ts:List V):Option (V × O):=(callV P n (.fn (.ref a)) (.own 0 :: ts) [o]).bind fun (v,z1)=>finB v z1
theorem runB_of {P:Prg} {T:Addr → Bool} (hT:∀ a,T a = true → P.orc a = none ∧ P.orb a = none) {n:Nat} {a:Addr} {o:O} {ts:List V} {as:As} {t:V} {o':O} (h:Wk (callW P T n (.fn (.ref a)) (.own 0 :: ts) [o] as fun v z _=>finB v z = some (t,o'))):runB P n a o ts = some (t,o'):=by
  obtain ⟨v,z,as',h1,h2⟩:=(sw hT n).callV h.h
  unfold runB
  show ((fs P n).callV _ _ _).bind _ = _
  rw [h1]
  exact h2
theorem callsO_of {P:Prg} {nb:Nat} {a:Addr} {o o':O} {ts:List V} {r:V} {F:O → List V → Option (V × O)} (hn:P.need ≤ nb) (h0:P.orc a = none) (ho:P.orb a = some F) (hp:plainO o = true) (hF:F o ts = some (r,o')):CallsO P nb a o ts r o':=⟨hn,fun n z k rest z1 hn hf hz=>by
  obtain ⟨m,rfl⟩:∃ m,n = m + 1:=⟨n - 1,by omega⟩
  show refB P (fs P m) m a (.own k :: rest) z = _
  unfold refB
  rw [h0]
  show (match P.orb a with | some F=>orbB P m F (.own k :: rest) z | none=>_) = _
  rw [ho]
  show (if P.need ≤ m then _ else _) = _
  rw [if_pos (Nat.le_of_lt_succ hn)]
  show (frzs rest z).bind _ = _
  rw [hf]
  show (z1[k]?).bind _ = _
  rw [hz]
  show (if plainO o = true then (F o ts).map _ else _) = _
  rw [if_pos hp,hF]
  rfl⟩
theorem hTB {w:Params} {need:Nat} {orc:Orc} {orb:Orb} {l:List Addr} (h:∀ a ∈ l,orc a = none ∧ orb a = none):∀ a,T0 l a = true → (prB w need orc orb).orc a = none ∧ (prB w need orc orb).orb a = none:=fun a ha =>
  h a (List.contains_iff_mem.mp ha)
noncomputable abbrev spo (cs:List Int) (a:Nat) (b:Int):O:=.list [.int a,.int b,.list (cs.map .int)]
noncomputable def cellR (cs:List Int) (a:Nat):Int:=cs.getD (a % cs.length) 0
noncomputable def yarnR (cs:List Int) (a:Nat):Int:=Int.fmod (cellR cs a) 1000000000000273 + 12007 * a + 113
noncomputable def spinR (y:Int):Int:=Int.fmod ((y * y * 79 + y * 83 + 89) * 1181783497276652981) 2305843009213693777
noncomputable def reelS (cs:List Int) (a:Nat) (b:Int):Nat × Int :=
  if b < 240000 then (a + 1,if a < cs.length ∧ 10 ^ 18 ≤ cellR cs a then Int.fmod (cellR cs a) (10 ^ 28) else spinR (yarnR cs a)) else (a,b)
noncomputable def knotR (cs:List Int) (a:Nat) (b:Int) (m:Nat):Nat:=(Int.fmod (reelS cs a b).2 m).toNat
noncomputable def reelB (cs:List Int) (a:Nat) (b:Int) (m:Nat):Int:=Int.fdiv (reelS cs a b).2 m
theorem fmod_pos {b:Int} {m:Nat} (h:0 < m):0 ≤ Int.fmod b m ∧ Int.fmod b m < m:=by
  have h1:(0:Int) < m:=by omega
  exact ⟨Int.fmod_nonneg_of_pos _ h1,Int.fmod_lt_of_pos _ h1⟩
theorem knotR_lt {cs:List Int} {a:Nat} {b:Int} {m:Nat} (h:0 < m):knotR cs a b m < m:=by
  have:=fmod_pos (b:=(reelS cs a b).2) h
  unfold knotR; omega
theorem knotR_int {cs:List Int} {a:Nat} {b:Int} {m:Nat} (h:0 < m):Int.fmod (reelS cs a b).2 m = (knotR cs a b m:Nat):=by
  have:=fmod_pos (b:=(reelS cs a b).2) h
  unfold knotR; omega
theorem bmod {z:Zo} {i j:Int} (h:j ≠ 0):binV z .Mod (.int i) (.int j) = some (.int (Int.fmod i j),z):=by
  exact if_neg h
theorem bdiv {z:Zo} {i:Int} {m:Nat} (h:0 < m) (h2:m < 1000):binV z .FloorDiv (.int i) (.int m) = some (.int (Int.fdiv i m),z):=by
  have:(0:Int) < m ∧ (m:Int) < 1073741824:=by omega
  exact if_pos this
theorem bmul {z:Zo} {i j:Int} (h:i.natAbs < 10 ^ 70) (h2:j.natAbs < 10 ^ 70):binV z .Mult (.int i) (.int j) = some (.int (i * j),z):=by
  have e:intMax.natAbs = 10 ^ 80:=by decide
  have:i.natAbs < intMax.natAbs ∧ j.natAbs < intMax.natAbs:=by rw [e]; exact ⟨Nat.lt_trans h (by decide),Nat.lt_trans h2 (by decide)⟩
  exact if_pos (by simpa using this)
theorem badd {z:Zo} {i j:Int}:binV z .Add (.int i) (.int j) = some (.int (i + j),z):=rfl
theorem bpow18 {z:Zo}:binV z .Pow (.int 10) (.int 18) = some (.int (10 ^ 18),z):=rfl
theorem bpow28 {z:Zo}:binV z .Pow (.int 10) (.int 28) = some (.int (10 ^ 28),z):=rfl
theorem fmod_nat (a n:Nat):Int.fmod (a:Int) (n:Int) = ((a % n:Nat):Int):=by
  rw [Int.fmod_eq_emod_of_nonneg _ (by omega)]; rfl
theorem yarn_bd {cs:List Int} {a:Nat} (ha:a ≤ 1000):∃ n:Nat,yarnR cs a = n ∧ n < 10 ^ 16:=by
  have h:=fmod_pos (b:=cellR cs a) (m:=1000000000000273) (by decide)
  have e:((1000000000000273:Nat):Int) = 1000000000000273:=rfl
  rw [e] at h
  refine ⟨(yarnR cs a).toNat,?_,?_⟩ <;> unfold yarnR <;> omega
theorem clt {z:Zo} {i j:Int}:cmpV z .Lt (.int i) (.int j) = some (decide (i < j)):=rfl
theorem cge {z:Zo} {i j:Int}:cmpV z .GtE (.int i) (.int j) = some (decide (j ≤ i)):=rfl
section
variable {w:Params} {need:Nat} {orc:Orc}
theorem reel_run (hl:∀ a ∈ [910],orc a = none) (cs:List Int) (a m:Nat) (b:Int) (hc:cs ≠ []) (hl2:cs.length ≤ 1000) (ha:a ≤ 1000) (hm:0 < m) (hm2:m < 1000) :
    runB (prO w need orc) 60 910 (spo cs a b) [.int m] = some (.int (knotR cs a b m),spo cs (reelS cs a b).1 (reelB cs a b m)):=by
  have hm0:(m:Int) ≠ 0:=by omega
  have hp:0 < cs.length:=List.length_pos_iff.mpr hc
  by_cases h:b < 240000
  · have e:reelS cs a b = (a + 1,if a < cs.length ∧ 10 ^ 18 ≤ cellR cs a then Int.fmod (cellR cs a) (10 ^ 28) else spinR (yarnR cs a)):=by unfold reelS; rw [if_pos h]
    have t0:∀ z0,cmpV z0 .Lt (.int b) (.int 240000) = some true:=fun z0=>by rw [clt,decide_eq_true h]
    have t1:∀ z0,binV z0 .Add (.int a) (.int 1) = some (.int ((a + 1:Nat):Int),z0):=fun _=>rfl
    have t2:∀ z0,bcall (prO w need orc) (.builtin "len") [.list (cs.map .int)] z0 = some (.int cs.length,z0):=fun z0=>by
      have:bcall (prO w need orc) (.builtin "len") [.list (cs.map .int)] z0 = some (.int (cs.map V.int).length,z0):=rfl
      rw [this,List.length_map]
    have t3:∀ z0,binV z0 .Mod (.int a) (.int cs.length) = some (.int ((a % cs.length:Nat):Int),z0):=fun z0=>by rw [bmod (by omega),fmod_nat]
    have hlt:a % cs.length < cs.length:=Nat.mod_lt _ hp
    have t4:∀ z0,itemV z0 (.list (cs.map .int)) (.int ((a % cs.length:Nat):Int)) = some (.int (cellR cs a)):=fun z0=>by
      have:¬ ((a % cs.length:Nat):Int) < 0:=by omega
      have hs:asSeq z0 (.list (cs.map .int)) = some (cs.map .int):=rfl
      show (if ((a % cs.length:Nat):Int) < 0 then none else (asSeq z0 (.list (cs.map .int))).bind fun xs=>xs[((a % cs.length:Nat):Int).toNat]?) = _
      rw [if_neg this,hs]
      show (cs.map V.int)[a % cs.length]? = _
      unfold cellR
      rw [List.getElem?_map,List.getD_eq_getElem?_getD,List.getElem?_eq_getElem hlt]; rfl
    have t5:∀ z0,cmpV z0 .Lt (.int a) (.int cs.length) = some (decide (a < cs.length)):=fun z0=>by rw [clt]; simp
    have t6:∀ z0:Zo,binV z0 .Pow (.int 10) (.int 18) = some (.int (10 ^ 18),z0):=fun _=>bpow18
    have t7:∀ z0,cmpV z0 .GtE (.int (cellR cs a)) (.int (10 ^ 18)) = some (decide (10 ^ 18 ≤ cellR cs a)):=fun _=>cge
    have k1:∀ z0,binV z0 .Mod (.int (reelS cs a b).2) (.int m) = some (.int (knotR cs a b m),z0):=fun z0=>by rw [bmod hm0,← knotR_int hm]
    have k2:∀ z0,binV z0 .FloorDiv (.int (reelS cs a b).2) (.int m) = some (.int (reelB cs a b m),z0):=fun z0=>by rw [bdiv hm hm2,reelB]
    have k3:finB (.int (knotR cs a b m)) [spo cs (a + 1) (reelB cs a b m)] = some (.int (knotR cs a b m),spo cs (reelS cs a b).1 (reelB cs a b m)):=by rw [e]; rfl
    by_cases hc2:a < cs.length ∧ 10 ^ 18 ≤ cellR cs a
    · rw [if_pos hc2] at e
      rw [decide_eq_true hc2.1] at t5
      rw [decide_eq_true hc2.2] at t7
      have t8:∀ z0:Zo,binV z0 .Pow (.int 10) (.int 28) = some (.int (10 ^ 28),z0):=fun _=>bpow28
      have t9:∀ z0,binV z0 .Mod (.int (cellR cs a)) (.int (10 ^ 28)) = some (.int (reelS cs a b).2,z0):=fun z0=>by rw [bmod (by decide),e]
      have t:=And.intro t0 (And.intro t1 (And.intro t2 (And.intro t3 (And.intro t4 (And.intro t2 (And.intro t5 (And.intro t6 (And.intro t7 (And.intro t8 (And.intro t9 (And.intro k1 (And.intro k2 k3))))))))))))
      exact runB_of (hT0 hl) (as:=[.cmpA true,.binA (.int ((a + 1:Nat):Int)),.prA (.int cs.length),.binA (.int ((a % cs.length:Nat):Int)),.itemA (.int (cellR cs a)),.prA (.int cs.length),.cmpA true,.binA (.int (10 ^ 18)),.cmpA true,
        .binA (.int (10 ^ 28)),.binA (.int (reelS cs a b).2),.binA (.int (knotR cs a b m)),.binA (.int (reelB cs a b m))]) (Wk.of t (by kernel_rfl))
    · rw [if_neg hc2] at e
      obtain ⟨y,hy,hy2⟩:=yarn_bd (cs:=cs) ha
      have fp:=fmod_pos (b:=cellR cs a) (m:=1000000000000273) (by decide)
      have yy:y * y < 10 ^ 16 * 10 ^ 16:=Nat.mul_lt_mul'' hy2 hy2
      generalize hq:y * y = q at yy
      have hqi:(y:Int) * y = q:=by rw [← hq]; simp
      have s1:∀ z0,binV z0 .Mod (.int (cellR cs a)) (.int 1000000000000273) = some (.int (Int.fmod (cellR cs a) 1000000000000273),z0):=fun z0=>bmod (by decide)
      have s2:∀ z0,binV z0 .Mult (.int 12007) (.int a) = some (.int (12007 * a),z0):=fun z0=>bmul (by decide) (by omega)
      have s3:∀ z0,binV z0 .Add (.int (Int.fmod (cellR cs a) 1000000000000273)) (.int (12007 * a)) = some (.int (Int.fmod (cellR cs a) 1000000000000273 + 12007 * a),z0):=fun z0=>badd
      have s4:∀ z0,binV z0 .Add (.int (Int.fmod (cellR cs a) 1000000000000273 + 12007 * a)) (.int 113) = some (.int y,z0):=fun z0=>by rw [badd,← hy]; rfl
      have s5:∀ z0,binV z0 .Mult (.int y) (.int y) = some (.int q,z0):=fun z0=>by rw [bmul (by omega) (by omega),hqi]
      have s6:∀ z0,binV z0 .Mult (.int q) (.int 79) = some (.int ((q:Int) * 79),z0):=fun z0=>bmul (by omega) (by decide)
      have s7:∀ z0,binV z0 .Mult (.int y) (.int 83) = some (.int ((y:Int) * 83),z0):=fun z0=>bmul (by omega) (by decide)
      have s8:∀ z0,binV z0 .Add (.int ((q:Int) * 79)) (.int ((y:Int) * 83)) = some (.int ((q:Int) * 79 + (y:Int) * 83),z0):=fun z0=>badd
      have s9:∀ z0,binV z0 .Add (.int ((q:Int) * 79 + (y:Int) * 83)) (.int 89) = some (.int ((q:Int) * 79 + (y:Int) * 83 + 89),z0):=fun z0=>badd
      have s10:∀ z0,binV z0 .Mult (.int ((q:Int) * 79 + (y:Int) * 83 + 89)) (.int 1181783497276652981) = some (.int (((q:Int) * 79 + (y:Int) * 83 + 89) * 1181783497276652981),z0):=fun z0=>bmul (by omega) (by decide)
      have s11:∀ z0,binV z0 .Mod (.int (((q:Int) * 79 + (y:Int) * 83 + 89) * 1181783497276652981)) (.int 2305843009213693777) = some (.int (reelS cs a b).2,z0):=fun z0=>by
        rw [bmod (by decide),e]; simp only [spinR,hy,hqi]
      have tl:=And.intro s1 (And.intro s2 (And.intro s3 (And.intro s4 (And.intro s5 (And.intro s6 (And.intro s7 (And.intro s8 (And.intro s9 (And.intro s10 (And.intro s11 (And.intro k1 (And.intro k2 k3))))))))))))
      by_cases h1:a < cs.length
      · have h2:¬ 10 ^ 18 ≤ cellR cs a:=fun x=>hc2 ⟨h1,x⟩
        rw [decide_eq_true h1] at t5
        rw [decide_eq_false h2] at t7
        have t:=And.intro t0 (And.intro t1 (And.intro t2 (And.intro t3 (And.intro t4 (And.intro t2 (And.intro t5 (And.intro t6 (And.intro t7 tl))))))))
        exact runB_of (hT0 hl) (as:=[.cmpA true,.binA (.int ((a + 1:Nat):Int)),.prA (.int cs.length),.binA (.int ((a % cs.length:Nat):Int)),.itemA (.int (cellR cs a)),.prA (.int cs.length),.cmpA true,.binA (.int (10 ^ 18)),.cmpA false,
          .binA (.int (Int.fmod (cellR cs a) 1000000000000273)),.binA (.int (12007 * a)),.binA (.int (Int.fmod (cellR cs a) 1000000000000273 + 12007 * a)),.binA (.int y),.binA (.int q),.binA (.int ((q:Int) * 79)),.binA (.int ((y:Int) * 83)),.binA (.int ((q:Int) * 79 + (y:Int) * 83)),.binA (.int ((q:Int) * 79 + (y:Int) * 83 + 89)),
          .binA (.int (((q:Int) * 79 + (y:Int) * 83 + 89) * 1181783497276652981)),.binA (.int (reelS cs a b).2),.binA (.int (knotR cs a b m)),.binA (.int (reelB cs a b m))]) (Wk.of t (by kernel_rfl))
      · rw [decide_eq_false h1] at t5
        have t:=And.intro t0 (And.intro t1 (And.intro t2 (And.intro t3 (And.intro t4 (And.intro t2 (And.intro t5 tl))))))
        exact runB_of (hT0 hl) (as:=[.cmpA true,.binA (.int ((a + 1:Nat):Int)),.prA (.int cs.length),.binA (.int ((a % cs.length:Nat):Int)),.itemA (.int (cellR cs a)),.prA (.int cs.length),.cmpA false,
          .binA (.int (Int.fmod (cellR cs a) 1000000000000273)),.binA (.int (12007 * a)),.binA (.int (Int.fmod (cellR cs a) 1000000000000273 + 12007 * a)),.binA (.int y),.binA (.int q),.binA (.int ((q:Int) * 79)),.binA (.int ((y:Int) * 83)),.binA (.int ((q:Int) * 79 + (y:Int) * 83)),.binA (.int ((q:Int) * 79 + (y:Int) * 83 + 89)),
          .binA (.int (((q:Int) * 79 + (y:Int) * 83 + 89) * 1181783497276652981)),.binA (.int (reelS cs a b).2),.binA (.int (knotR cs a b m)),.binA (.int (reelB cs a b m))]) (Wk.of t (by kernel_rfl))
  · have e:reelS cs a b = (a,b):=by unfold reelS; rw [if_neg h]
    have t0:cmpV [spo cs a b] .Lt (.int b) (.int 240000) = some false:=by rw [clt,decide_eq_false h]
    have t1:binV [spo cs a b] .Mod (.int b) (.int m) = some (.int (knotR cs a b m),[spo cs a b]):=by rw [bmod hm0,← knotR_int hm,e]
    have t2:binV [spo cs a b] .FloorDiv (.int b) (.int m) = some (.int (reelB cs a b m),[spo cs a b]):=by rw [bdiv hm hm2,reelB,e]
    have t3:finB (.int (knotR cs a b m)) [spo cs a (reelB cs a b m)] = some (.int (knotR cs a b m),spo cs (reelS cs a b).1 (reelB cs a b m)):=by rw [e]; rfl
    have t:=And.intro t0 (And.intro t1 (And.intro t2 t3))
    exact runB_of (hT0 hl) (as:=[.cmp false,.bin (.int (knotR cs a b m)) [spo cs a b],.bin (.int (reelB cs a b m)) [spo cs a b]]) (Wk.of t (by kernel_rfl))
end
end Mine
end
section
open PySem PySem.W PyProof.Rows
namespace Mine
noncomputable abbrev SS:=Nat × Int
noncomputable def rS (cs:List Int) (s:SS) (m:Nat):SS:=((reelS cs s.1 s.2).1,reelB cs s.1 s.2 m)
noncomputable def rK (cs:List Int) (s:SS) (m:Nat):Nat:=knotR cs s.1 s.2 m
noncomputable abbrev sO (cs:List Int) (s:SS):O:=spo cs s.1 s.2
def HReel (P:Prg) (cs:List Int):Prop:=∀ (s:SS) (m:Nat),s.1 ≤ 1000 → 0 < m → m < 1000 → CallsO P 60 910 (sO cs s) [.int m] (.int (rK cs s m)) (sO cs (rS cs s m))
theorem rS_le {cs:List Int} {s:SS} {m:Nat}:(rS cs s m).1 ≤ s.1 + 1:=by
  unfold rS reelS; split <;> simp
noncomputable def sa (cs:List Int) (q:Nat) (s:SS):Nat → SS
  | 0=>s
  | m + 1=>rS cs (sa cs q s m) q
theorem sa_le {cs:List Int} {q:Nat} {s:SS}:∀ m,(sa cs q s m).1 ≤ s.1 + m
  | 0=>Nat.le_refl _
  | m + 1=>by
    have h1:=rS_le (cs:=cs) (s:=sa cs q s m) (m:=q)
    have h2:=sa_le (cs:=cs) (q:=q) (s:=s) m
    show (rS cs (sa cs q s m) q).1 ≤ _
    omega
noncomputable def dr (cs:List Int) (q:Nat) (s:SS) (m:Nat):Nat:=rK cs (sa cs q s m) q
noncomputable def one' (q d:Nat):Option Nat:=if d = q then none else some d
noncomputable def rd (cs:List Int) (q t:Nat) (s:SS):Nat → Row
  | 0=>[]
  | m + 1=>rd cs q t s m ++ [one' t (dr cs q s m)]
theorem rd_len {cs:List Int} {q t:Nat} {s:SS}:∀ m,(rd cs q t s m).length = m
  | 0=>rfl
  | m + 1=>by simp [rd,rd_len m]
theorem rd_mem {cs:List Int} {q t:Nat} {s:SS} (hq:0 < q) (hq2:q ≤ 7):∀ m,∀ i,some i ∈ rd cs q t s m → i < 7
  | 0,i,h=>nomatch h
  | m + 1,i,h=>by
    rcases List.mem_append.mp h with h | h
    · exact rd_mem hq hq2 m i h
    · have:=List.mem_singleton.mp h
      unfold one' at this
      split at this
      · cases this
      · cases this
        have:=knotR_lt (cs:=cs) (a:=(sa cs q s m).1) (b:=(sa cs q s m).2) hq
        unfold dr rK; omega
noncomputable abbrev strsV:List V:=[.str "integer",.str "double",.str "logical"]
noncomputable def nmS (i:Nat):S:=("n":S) ++ Str.ofString (toString (i:Int))
noncomputable def namesV (n:Nat):V:=vecV "character" ((List.range n).map fun i=>.str (nmS i)) .none false
noncomputable def vSt (k:Kd) (cs:List Int) (q t:Nat) (s:SS) (m:Nat):En × Zo:=([("spool",.own 0),("sort",.str (kS k)),("plain_ones",.own 2),("lap",.int m),("drawn_one",.int (dr cs q s m))],[sO cs (sa cs q s (m + 1)),.list strsV,.list (R .integer (rd cs q t s (m + 1)))])
theorem nm_len:∀ i:Fin 8,("n":S).length + (Str.ofString (toString (i.val:Int))).length ≤ 100:=by decide +kernel
section
variable {w:Params} {need:Nat} {orc:Orc} {orb:Orb}
theorem draw_append {z:Zo} {i:Nat} {q t:Nat} {cs:List Int} {s:SS} {m:Nat} (h:z[i]? = some (.list (R .integer (rd cs q t s m)))) (hm:m ≤ 10) {E:Prop} (hE:E) :
    (match decide (dr cs q s m = t) with
      | true=>mcall "list.append" (.own i) [.none] z = some (.none,z.set i (.list (R .integer (rd cs q t s (m + 1))))) ∧ E
      | false=>mcall "list.append" (.own i) [.int (dr cs q s m)] z = some (.none,z.set i (.list (R .integer (rd cs q t s (m + 1))))) ∧ E):=by
  have hl:(R .integer (rd cs q t s m)).length < lineMax:=by rw [R_len,rd_len]; unfold lineMax; omega
  by_cases h1:dr cs q s m = t
  · rw [decide_eq_true h1]
    refine ⟨?_,hE⟩
    rw [append_own h hl]
    simp only [rd,one',if_pos h1,R_app]; rfl
  · rw [decide_eq_false h1]
    refine ⟨?_,hE⟩
    rw [append_own h hl]
    simp only [rd,one',if_neg h1,R_app]; rfl
theorem iter_own {z:Zo} {i:Nat} {k:Kd} {row:Row} (h:z[i]? = some (.list (R k row))):iterOf (.own i) z = some (R k row,z.set i (.frz (LV k row))):=by
  have hm:mutAt z i = true:=by unfold mutAt; rw [h]; rfl
  have h2:frzLf (frzV 5) (R k row) z = some (R k row,z):=frzL_id (d:=4) R_own
  have:frz (.own i) z = some (LV k row,z.set i (.frz (LV k row))):=by
    show (match z[i]? with
      | some (.frz t)=>some (t,z)
      | some (.list vs)=>(frzLf (frzV 5) vs z).bind fun (ts,z')=>if mutAt z' i then some (V.list ts,z'.set i (.frz (.list ts))) else none
      | some (.dict es)=>(frzEf (frzV 5) es z).bind fun (ts,z')=>if mutAt z' i then some (.dict ts,z'.set i (.frz (.dict ts))) else none
      | some (.inst C fs)=>(frzEf (frzV 5) fs z).bind fun (ts,z')=>if mutAt z' i then some (.inst C ts,z'.set i (.frz (.inst C ts))) else none
      | none=>none) = _
    rw [h]
    show (frzLf (frzV 5) (R k row) z).bind _ = _
    rw [h2]
    exact if_pos hm
  show (frz (.own i) z).bind _ = _
  rw [this]; rfl
noncomputable def qOf (k:Kd):Nat:=match k with | .logical=>3 | _=>6
noncomputable def tOf (k:Kd):Nat:=match k with | .logical=>2 | _=>5
noncomputable def kOf (n:Nat):Kd:=match n with | 0=>.integer | 1=>.double | _=>.logical
noncomputable def gK (k:Kd) (o:Option Nat):Option V:=some (encI k o)
theorem gK_items (k:Kd):∀ o:Option Nat,∀ z:Zo,(∀ z0,cmpV z0 .Is (encI .integer o) .none = some (!o.isSome)) ∧ (match !o.isSome with
    | true=>(∀ z0,frz (encI .integer o) z0 = some (encI k o,z0)) ∧ some (encI k o) = gK k o ∧ z = z
    | false=>(match k with
      | .double=>(∀ z0,tupE [encI .integer o,.int 1] z0 = some (encI .double o,z0)) ∧ (∀ z0,frz (encI .double o) z0 = some (encI .double o,z0)) ∧ some (encI .double o) = gK .double o ∧ z = z
      | k=>(∀ z0,frz (encI .integer o) z0 = some (encI k o,z0)) ∧ some (encI k o) = gK k o ∧ z = z)):=fun o z=>by
  refine ⟨fun z0=>is_enc o,?_⟩
  cases o <;> cases k <;> first | exact ⟨fun _=>rfl,rfl,rfl⟩ | exact ⟨fun _=>rfl,fun _=>rfl,rfl,rfl⟩
theorem fm_gK (k:Kd) (row:Row):row.filterMap (gK k) = R k row:=fm_map _ _
theorem lg_eq (k:Kd):∀ z0,cmpV z0 .Eq (.str (kS k)) (.str "logical") = some (decide (qOf k = 3)):=by cases k <;> (intro z0; kernel_rfl)
theorem names_list {P:Prg} {n:Nat}:∀ z0,bcall P (.type "list") [.list ((List.range n).filterMap fun i=>some (.str (nmS i)))] z0 = some (.list ((List.range n).map fun i=>.str (nmS i)),z0):=fun z0=>by
  rw [fm_map]
  have:bcall P (.type "list") [.list ((List.range n).map fun i=>V.str (nmS i))] z0 = (frzs ((List.range n).map fun i=>V.str (nmS i)) z0).map fun (ts,z')=>(.list ts,z'):=rfl
  have h:frzs ((List.range n).map fun i=>V.str (nmS i)) z0 = some ((List.range n).map fun i=>V.str (nmS i),z0):=frzL_id fun v hv=>by
    obtain ⟨i,_,rfl⟩:=List.mem_map.mp hv; rfl
  rw [this,h]; rfl
noncomputable def vAs (k:Kd) (cs:List Int) (k0 n k3:Nat) (b3:Bool) (s1 s2 s3:SS) (row:Row):As:=[.orb 60 (.int k0) (sO cs s1),.orb 60 (.int ((n + 1:Nat):Int)) (sO cs s2),.prA (.rng (n + 1)),
  .loop1 (.int (0:Nat)) [.orb 60 (.int (dr cs (qOf k) s2 0)) (sO cs (sa cs (qOf k) s2 1)),.cmpA (decide (qOf k = 3)),.cmpA (decide (dr cs (qOf k) s2 0 = tOf k)),.mc .none [sO cs (sa cs (qOf k) s2 1),.list strsV,.list (R .integer (rd cs (qOf k) (tOf k) s2 1))]]
    (List.range n) (fun i=>.int ((i + 1:Nat):Int)) (fun pre=>vSt k cs (qOf k) (tOf k) s2 pre.length)
    (fun _ x=>[.orb 60 (.int (dr cs (qOf k) s2 (x + 1))) (sO cs (sa cs (qOf k) s2 (x + 2))),.cmpA (decide (qOf k = 3)),.cmpA (decide (dr cs (qOf k) s2 (x + 1) = tOf k)),.mc .none [sO cs (sa cs (qOf k) s2 (x + 2)),.list strsV,.list (R .integer (rd cs (qOf k) (tOf k) s2 (x + 2)))]]),
  .it (R .integer row) [sO cs (sa cs (qOf k) s2 (n + 1)),.list strsV,.frz (LV .integer row)],.compA row (encI .integer) (gK k) (fun o=>[.cmpA (!o.isSome),.fzA (encI k o),.fzA (encI k o)]),.cmpD true,.orb 60 (.int k3) (sO cs s3),.cmpA b3]
theorem vector_run (hl:∀ a ∈ [915,382,435],orc a = none ∧ orb a = none) (hn:need ≤ 60) (cs:List Int) (s:SS) (hs:s.1 ≤ 500) (H:HReel (prB w need orc orb) cs) :
    ∃ k row nm s',LRow row ∧ s'.1 ≤ s.1 + 20 ∧ runB (prB w need orc orb) 120 915 (sO cs s) [] = some (.tup [vN k row nm,LV .integer row],sO cs s'):=by
  have h0:=H s 3 (by omega) (by omega) (by omega)
  have k0lt:rK cs s 3 < 3:=knotR_lt (by omega)
  have e1:=rS_le (cs:=cs) (s:=s) (m:=3)
  have h1:=H (rS cs s 3) 8 (by omega) (by omega) (by omega)
  have n0lt:rK cs (rS cs s 3) 8 < 8:=knotR_lt (by omega)
  have e2:=rS_le (cs:=cs) (s:=rS cs s 3) (m:=8)
  generalize hs1:rS cs s 3 = s1 at *
  generalize hs2:rS cs s1 8 = s2 at *
  generalize hk0:rK cs s 3 = k0 at *
  generalize hn0:rK cs s1 8 = n0 at *
  have hkk:k0 = 0 ∨ k0 = 1 ∨ k0 = 2:=by omega
  cases n0 with
  | zero =>
    refine ⟨kOf k0,[],none,s2,⟨fun _ h=>(nomatch h),Nat.zero_le _⟩,by omega,?_⟩
    have t2:some (V.tup [vN (kOf k0) [] none,LV .integer []],sO cs s2) = some (V.tup [vN (kOf k0) [] none,LV .integer []],sO cs s2):=rfl
    have t:=And.intro h0 (And.intro h1 t2)
    refine runB_of (hTB hl) (as:=[.orb 60 (.int k0) (sO cs s1),.orb 60 (.int (0:Nat)) (sO cs s2)]) ?_
    clear hk0 k0lt
    rcases hkk with rfl | rfl | rfl <;> exact Wk.of t (by kernel_rfl)
  | succ n =>
    generalize hK:kOf k0 = k
    have hq:0 < qOf k ∧ qOf k ≤ 7:=by cases k <;> decide
    obtain ⟨row,hrow⟩:∃ row,row = rd cs (qOf k) (tOf k) s2 (n + 1):=⟨_,rfl⟩
    have rl:row.length = n + 1:=by rw [hrow]; exact rd_len _
    have lr:LRow row:=⟨by rw [hrow]; exact rd_mem hq.1 hq.2 _,by omega⟩
    have sl:∀ m,m ≤ 10 → (sa cs (qOf k) s2 m).1 ≤ 1000:=fun m hm=>by have:=sa_le (cs:=cs) (q:=qOf k) (s:=s2) m; omega
    have d1:∀ m,m ≤ 9 → CallsO (prB w need orc orb) 60 910 (sO cs (sa cs (qOf k) s2 m)) [.int (qOf k)] (.int (dr cs (qOf k) s2 m)) (sO cs (sa cs (qOf k) s2 (m + 1))):=fun m hm=>H _ _ (sl m (by omega)) hq.1 (by omega)
    have r0:∀ z0,bcall (prB w need orc orb) (.type "range") [.int ((n + 1:Nat):Int)] z0 = some (.rng (n + 1),z0):=fun z0=>range_n (by omega)
    have r1:(List.range (n + 1)).map (fun i:Nat=>V.int i) = V.int (0:Nat) :: (List.range n).map (fun i:Nat=>V.int ((i + 1:Nat):Int)):=by
      rw [List.range_succ_eq_map,List.map_cons,List.map_map]; rfl
    have c1:∀ m,∀ z0,cmpV z0 .Eq (.int (dr cs (qOf k) s2 m)) (.int (tOf k)) = some (decide (dr cs (qOf k) s2 m = tOf k)):=fun m z0=>cmp_int
    have f1:=draw_append (z:=[sO cs (sa cs (qOf k) s2 1),.list strsV,.list []]) (i:=2) (q:=qOf k) (t:=tOf k) (cs:=cs) (s:=s2) (m:=0) rfl (by omega)
      (rfl:vSt k cs (qOf k) (tOf k) s2 0 = vSt k cs (qOf k) (tOf k) s2 ([]:List Nat).length)
    have f2:∀ (pre:List Nat) (x:Nat) (post:List Nat),List.range n = pre ++ x :: post → CallsO (prB w need orc orb) 60 910 (sO cs (sa cs (qOf k) s2 (pre.length + 1))) [.int (qOf k)] (.int (dr cs (qOf k) s2 (x + 1))) (sO cs (sa cs (qOf k) s2 (x + 2))) ∧
        (∀ z0,cmpV z0 .Eq (.str (kS k)) (.str "logical") = some (decide (qOf k = 3))) ∧ (∀ z0,cmpV z0 .Eq (.int (dr cs (qOf k) s2 (x + 1))) (.int (tOf k)) = some (decide (dr cs (qOf k) s2 (x + 1) = tOf k))) ∧
        (match decide (dr cs (qOf k) s2 (x + 1) = tOf k) with
          | true=>mcall "list.append" (.own 2) [.none] [sO cs (sa cs (qOf k) s2 (x + 2)),.list strsV,.list (R .integer (rd cs (qOf k) (tOf k) s2 (pre.length + 1)))] = some (.none,[sO cs (sa cs (qOf k) s2 (x + 2)),.list strsV,.list (R .integer (rd cs (qOf k) (tOf k) s2 (x + 2)))]) ∧ vSt k cs (qOf k) (tOf k) s2 (x + 1) = vSt k cs (qOf k) (tOf k) s2 (pre ++ [x]).length
          | false=>mcall "list.append" (.own 2) [.int (dr cs (qOf k) s2 (x + 1))] [sO cs (sa cs (qOf k) s2 (x + 2)),.list strsV,.list (R .integer (rd cs (qOf k) (tOf k) s2 (pre.length + 1)))] = some (.none,[sO cs (sa cs (qOf k) s2 (x + 2)),.list strsV,.list (R .integer (rd cs (qOf k) (tOf k) s2 (x + 2)))]) ∧ vSt k cs (qOf k) (tOf k) s2 (x + 1) = vSt k cs (qOf k) (tOf k) s2 (pre ++ [x]).length):=by
      intro pre x post hx
      obtain ⟨rfl,hlt⟩:=range_split hx
      refine ⟨d1 _ (by omega),lg_eq k,c1 _,?_⟩
      exact draw_append (z:=[sO cs (sa cs (qOf k) s2 (pre.length + 2)),.list strsV,.list (R .integer (rd cs (qOf k) (tOf k) s2 (pre.length + 1)))]) (i:=2) rfl (by omega) (by simp)
    have en:(List.range n).length + 1 = n + 1:=by simp
    have g1:iterOf (.own 2) [sO cs (sa cs (qOf k) s2 ((List.range n).length + 1)),.list strsV,.list (R .integer (rd cs (qOf k) (tOf k) s2 ((List.range n).length + 1)))] = some (R .integer row,[sO cs (sa cs (qOf k) s2 (n + 1)),.list strsV,.frz (LV .integer row)]):=by
      rw [en,← hrow]; exact iter_own (i:=2) rfl
    have g2:R .integer row = row.map (encI .integer):=rfl
    have g3:∀ o ∈ row,∀ z:Zo,_:=fun o _ z=>gK_items k o z
    have g4:(R .integer row).length ≤ lineMax:=fit_R (by omega)
    have g5:∀ z0,cmpV z0 .NotEq (LV .integer row) (.list []) = some true:=fun z0=>by
      have q:=ne_row (IsR.lv z0 .integer row) (IsR.lv z0 .integer [])
      have:¬ row = []:=fun e=>by rw [e] at rl; cases rl
      rw [decide_eq_false this] at q; exact q
    have h3:=H (sa cs (qOf k) s2 (n + 1)) 3 (sl _ (by omega)) (by omega) (by omega)
    have c3:∀ z0,cmpV z0 .Eq (.int (rK cs (sa cs (qOf k) s2 (n + 1)) 3)) (.int (0:Nat)) = some (decide (rK cs (sa cs (qOf k) s2 (n + 1)) 3 = 0)):=fun z0=>cmp_int
    have e3:=rS_le (cs:=cs) (s:=sa cs (qOf k) s2 (n + 1)) (m:=3)
    have e4:=sa_le (cs:=cs) (q:=qOf k) (s:=s2) (n + 1)
    generalize hs3:rS cs (sa cs (qOf k) s2 (n + 1)) 3 = s3 at *
    generalize hk3:rK cs (sa cs (qOf k) s2 (n + 1)) 3 = k3 at *
    by_cases hz:k3 = 0
    · refine ⟨k,row,some (namesV row.length),s3,lr,by omega,?_⟩
      rw [decide_eq_true hz] at c3
      have p1:∀ z0,bcall (prB w need orc orb) (.type "range") [.int (R .integer row).length] z0 = some (.rng row.length,z0):=fun z0=>by rw [R_len]; exact range_n (by omega)
      have p2:(List.range row.length).map (fun i:Nat=>V.int i) = (List.range row.length).map (fun i:Nat=>V.int i):=rfl
      have p3:∀ i ∈ List.range row.length,∀ z:Zo,(∀ z0,bcall (prB w need orc orb) (.type "str") [.int i] z0 = some (.str (Str.ofString (toString (i:Int))),z0)) ∧ (∀ z0,binV z0 .Add (.str "n") (.str (Str.ofString (toString (i:Int)))) = some (.str (nmS i),z0)) ∧ some (V.str (nmS i)) = some (V.str (nmS i)) ∧ z = z:=fun i hi z=>by
        have hi':i < 8:=by have:=List.mem_range.mp hi; omega
        exact ⟨fun z0=>str_int hi',fun z0=>add_str (nm_len ⟨i,hi'⟩),rfl,rfl⟩
      have p4:((List.range row.length).map (fun i:Nat=>V.int i)).length ≤ lineMax:=by simp; unfold lineMax; omega
      have p5:=names_list (P:=prB w need orc orb) (n:=row.length)
      have p6:some (V.tup [vecV (kS k) (row.filterMap (gK k)) (.dict [("names",namesV row.length)]) false,LV .integer row],sO cs s3) = some (V.tup [vN k row (some (namesV row.length)),LV .integer row],sO cs s3):=by rw [fm_gK]; rfl
      have tt:=And.intro h0 (And.intro h1 (And.intro r0 (And.intro r1 (And.intro (And.intro (d1 0 (by omega)) (And.intro (lg_eq k) (And.intro (c1 0) f1))) (And.intro f2 (And.intro g1 (And.intro g2 (And.intro g3 (And.intro g4 (And.intro g5 (And.intro h3 (And.intro c3 (And.intro p1 (And.intro p2 (And.intro p3 (And.intro p4 (And.intro p5 p6)))))))))))))))))
      refine runB_of (hTB hl) (as:=vAs k cs k0 n k3 true s1 s2 s3 row ++ [.skip,.prA (.rng row.length),.compA (List.range row.length) (fun i=>.int i) (fun i=>some (.str (nmS i))) (fun i=>[.prA (.str (Str.ofString (toString (i:Int)))),.binA (.str (nmS i))]),.prA (.list ((List.range row.length).map fun i=>.str (nmS i)))]) ?_
      clear hk0 k0lt hs1 hrow hs2 hn0
      subst hK
      rcases hkk with rfl | rfl | rfl <;> exact Wk.of tt (by kernel_rfl)
    · refine ⟨k,row,none,s3,lr,by omega,?_⟩
      rw [decide_eq_false hz] at c3
      have p6:some (V.tup [vecV (kS k) (row.filterMap (gK k)) .none false,LV .integer row],sO cs s3) = some (V.tup [vN k row none,LV .integer row],sO cs s3):=by rw [fm_gK]; rfl
      have tt:=And.intro h0 (And.intro h1 (And.intro r0 (And.intro r1 (And.intro (And.intro (d1 0 (by omega)) (And.intro (lg_eq k) (And.intro (c1 0) f1))) (And.intro f2 (And.intro g1 (And.intro g2 (And.intro g3 (And.intro g4 (And.intro g5 (And.intro h3 (And.intro c3 p6))))))))))))
      refine runB_of (hTB hl) (as:=vAs k cs k0 n k3 false s1 s2 s3 row) ?_
      clear hk0 k0lt hs1 hrow hs2 hn0
      subst hK
      rcases hkk with rfl | rfl | rfl <;> exact Wk.of tt (by kernel_rfl)
end
end Mine
end
section
open PySem PySem.W PyProof.Rows
namespace Mine
noncomputable abbrev symV:V:=.inst 403 [("kind",.str "symbol"),("name",.str "x"),("attrs",.none)]
end Mine
end
section
open PySem PySem.W PySem.Calls PyProof.Rows
namespace Mine
section
variable {w:Params} {G G':Gh} {ρ ρ₁:Ro} {z z₁:Zo} {s s':Shared}
theorem rol_plain {vals:List Value} {vs:List V} (h:∀ v ∈ vs,v.isOwn = false) (r:ROL w G ρ vals vs):ROL w G ρ₁ vals vs:=by
  induction r with
  | nil=>exact .nil
  | @cons v t vs ts a b ih =>
    refine .cons ?_ (ih fun v hv=>h v (.tail _ hv))
    have one:∀ t:V,t.isOwn = false → RepO w G ρ v t → RepO w G ρ₁ v t:=fun t=>by
      clear a b ih h
      induction t using V.casesOn <;> first | exact fun _ a=>a | exact fun h=>ff h.symm
    exact one t (h t (.head _)) a
theorem plain_of {o:O} (h:plainO o = true):∃ vs,o = .list vs ∧ ∀ v ∈ vs,v.isOwn = false:=by
  unfold plainO at h
  cases h2:o.rawl? with
  | none=>rw [h2] at h; cases h
  | some vs=>rw [h2] at h; exact ⟨vs,O.rawl_of h2,fun v hv=>by simpa using List.all_eq_true.mp h v hv⟩
theorem plain_mut {o:O} (h:plainO o = true):o.mut = true:=by obtain ⟨vs,rfl,_⟩:=plain_of h; rfl
theorem zob_plain {h:Heap} {p:Addr × Addr} {o:O} (hp:plainO o = true) (x:ZOb w G ρ h p o):ZOb w G ρ₁ h p o:=by
  obtain ⟨vs,rfl,hv⟩:=plain_of hp
  obtain ⟨a,vals,n,b,c,d⟩:=x
  exact ⟨a,vals,n,b,c,rol_plain hv d⟩
theorem zrel1 {k:Nat} {p:Addr × Addr} {o:O} (R:ZRel w G ρ z s.heap) (hp:ρ[k]? = some p) (ho:z[k]? = some o) (hpl:plainO o = true):ZRel w G [p] [o] s.heap:=by
  have one:∀ {i:Nat} {q:Addr × Addr},([p]:Ro)[i]? = some q → i = 0 ∧ q = p:=fun {i q} h=>by
    cases i with
    | zero=>simp at h; exact ⟨rfl,h.symm⟩
    | succ i=>simp at h
  have oneo:∀ {i:Nat} {q:O},([o]:Zo)[i]? = some q → i = 0 ∧ q = o:=fun {i q} h=>by
    cases i with
    | zero=>simp at h; exact ⟨rfl,h.symm⟩
    | succ i=>simp at h
  refine ⟨rfl,R.keep,fun i q x hq hx=>?_,fun i q x hq hx hm=>?_,fun i j q r oi oj hij hq hr hi hj _ _=>?_,fun a ha=>?_⟩
  · obtain ⟨rfl,rfl⟩:=one hq
    obtain ⟨_,rfl⟩:=oneo hx
    exact zob_plain hpl (R.obj k q x hp ho)
  · obtain ⟨rfl,rfl⟩:=one hq
    obtain ⟨_,rfl⟩:=oneo hx
    exact R.new k q x hp ho hm
  · exact absurd ((one hq).1.trans (one hr).1.symm) hij
  · obtain ⟨q,hq,e⟩:=ha
    rw [List.mem_singleton.mp hq] at e
    exact R.live a ⟨p,List.mem_of_getElem? hp,e⟩
theorem frame1 {k:Nat} {p:Addr × Addr} {o o':O} (R:ZRel w G ρ z s.heap) (hp:ρ[k]? = some p) (ho:z[k]? = some o) (hpl:plainO o = true) (g:Grow NoX G [p] s G' ρ₁ s') (R':ZRel w G' ρ₁ z₁ s'.heap)
    (ho':z₁[0]? = some o') (hpl':plainO o' = true):Grow NoX G ρ s G' ρ s' ∧ ZRel w G' ρ (z.set k o') s'.heap:=by
  have pin:p ∈ ρ:=List.mem_of_getElem? hp
  have sub:∀ a,Fp [p] a → Fp ρ a:=fun a ⟨q,hq,e⟩=>⟨q,by rw [List.mem_singleton.mp hq]; exact pin,e⟩
  have om:=plain_mut hpl
  have om':=plain_mut hpl'
  have r0:ρ₁[0]? = some p:=by obtain ⟨t,e⟩:=g.r; rw [e]; rfl
  have apart:∀ (i:Nat) (q:Addr × Addr) (x:O),i ≠ k → ρ[i]? = some q → z[i]? = some x → x.mut = true → ¬ Fp [p] q.1 ∧ ¬ Fp [p] q.2:=fun i q x hne hq hx hm=>by
    have ap:=R.inj i k q p x o hne hq hp hx ho hm om
    constructor
    · rintro ⟨r,hr,e⟩
      rw [List.mem_singleton.mp hr] at e
      rcases e with e | e
      · exact ap.1 e
      · exact ap.2.1 e
    · rintro ⟨r,hr,e⟩
      rw [List.mem_singleton.mp hr] at e
      rcases e with e | e
      · exact ap.2.2.1 e
      · exact ap.2.2.2 e
  have same:∀ a,Fp ρ a → ¬ Fp [p] a → s'.heap.get? a = s.heap.get? a:=fun a ha hn=>by
    obtain ⟨x,hx⟩:=Option.isSome_iff_exists.mp (R.live a ha)
    rw [hx]; exact g.fr a x hx hn id
  have gn:∀ a,Fp ρ a → ¬ Fp [p] a → G a = none → G' a = none:=fun a hf hn hg=>by
    cases e:G' a with
    | none=>rfl
    | some x =>
      rcases g.gf a x e with h | h | h
      · rw [hg] at h; cases h
      · have:=R.live a hf; rw [h] at this; cases this
      · exact absurd h hn
  have look:∀ {i:Nat} {x:O},(z.set k o')[i]? = some x → (i = k ∧ x = o') ∨ (i ≠ k ∧ z[i]? = some x):=by
    intro i x e
    by_cases h:i = k
    · subst h
      rw [List.getElem?_set_self (by have:=List.getElem?_eq_some_iff.mp ho; exact this.1)] at e
      cases e; exact .inl ⟨rfl,rfl⟩
    · rw [List.getElem?_set_ne (Ne.symm h)] at e; exact .inr ⟨h,e⟩
  refine ⟨⟨g.g,⟨[],by simp⟩,fun a x e=>?_,fun _ h=>.inl h,fun b x e hf _=>g.fr b x e (fun h=>hf (sub b h)) id,g.al,g.st⟩,?_⟩
  · rcases g.gf a x e with h | h | h
    · exact .inl h
    · exact .inr (.inl h)
    · exact .inr (.inr (sub a h))
  · refine ⟨by simp [R.len],R'.keep,fun i q x hq hx=>?_,fun i q x hq hx hm=>?_,fun i j q r oi oj hij hq hr hi hj mi mj=>?_,fun a ha=>g.al a (R.live a ha)⟩
    · rcases look hx with ⟨rfl,rfl⟩ | ⟨hne,hx⟩
      · rw [hp] at hq; cases hq
        exact zob_plain hpl' (R'.obj 0 p x r0 ho')
      · refine (R.obj i q x hq hx).mono g.g ⟨[],by simp⟩ fun hmx=>?_
        have ap:=apart i q x hne hq hx hmx
        have f:=Fp.of hq
        exact ⟨same _ f.1 ap.1,same _ f.2 ap.2⟩
    · rcases look hx with ⟨rfl,rfl⟩ | ⟨hne,hx⟩
      · rw [hp] at hq; cases hq
        exact R'.new 0 p x r0 ho' hm
      · have q1:=R.new i q x hq hx hm
        have ap:=apart i q x hne hq hx hm
        have f:=Fp.of hq
        exact ⟨gn _ f.1 ap.1 q1.1,gn _ f.2 ap.2 q1.2⟩
    · rcases look hi with ⟨e1,_⟩ | ⟨_,hi1⟩ <;> rcases look hj with ⟨e2,_⟩ | ⟨_,hj1⟩
      · exact absurd (e1.trans e2.symm) hij
      · exact R.inj i j q r _ _ hij hq hr (e1 ▸ ho) hj1 om mj
      · exact R.inj i j q r _ _ hij hq hr hi1 (e2 ▸ ho) mi om
      · exact R.inj i j q r _ _ hij hq hr hi1 hj1 mi mj
end
theorem runB_ok {prog:Program} {w:World} {K:Frag} {P:Prg} {loose:List S} {mg mb:S → Option Value} {n:Nat} (H:AllOk prog w K P loose mg mb n) {a:Addr} {o o':O} {ts:List V} {t:V} (h:runB P n a o ts = some (t,o')) (hpl:plainO o = true)
    {k:Nat} {p:Addr × Addr} {ys:List Value} {A:Around} {E:Value → Shared → Prop} {s:Shared} {G:Gh} {ρ:Ro} {z:Zo} (rm:Room n A) (B:Base K prog loose mg mb G) (R:ZRel w.params G ρ z s.heap) (hp:ρ[k]? = some p) (ho:z[k]? = some o) (r:RepL w.params G ys ts) :
    wpAny (model prog w) A (call (.ref a) (.ref p.1 :: ys)) (fun x s'=>∃ G',Grow NoX G ρ s G' ρ s' ∧ ZRel w.params G' ρ (z.set k o') s'.heap ∧ Rep w.params G' x t) E s:=by
  unfold runB at h
  obtain ⟨⟨v,z1⟩,h1,h2⟩:=Option.bind_eq_some_iff.mp h
  unfold finB at h2
  obtain ⟨⟨t',z2⟩,h3,h4⟩:=Option.bind_eq_some_iff.mp h2
  dsimp only at h4
  split at h4
  · rename_i o2 e2
    split at h4
    · rename_i hq
      cases h4
      refine wpAny_mono (H.callV (.ref a) (.own 0 :: ts) [o] v z1 h1 (.ref p.1 :: ys) A E s G [p] rm B (zrel1 R hp ho hpl) (.cons ⟨p,rfl,rfl⟩ (ROL.of_rep r))) (fun x s' ⟨G1,ρ1,g,R1,rv⟩=>?_) fun _ _ h=>h
      obtain ⟨G2,g2,R2,rt⟩:=frz_ok (X:=NoX) h3 R1 rv
      obtain ⟨a1,a2⟩:=frame1 R hp ho hpl (g.trans g2) R2 e2 hq
      exact ⟨G2,a1,a2,rt⟩
    · cases h4
  · cases h4
end Mine
end
section
open PySem PySem.W PySem.Calls PyProof.Rows
namespace Mine
noncomputable def ext (l:List Addr) (F:Addr → List V → Option V) (prev:Orc):Orc:=fun a=>if l.contains a = true then some (F a) else prev a
theorem ext_none {l t:List Addr} {F:Addr → List V → Option V} {prev:Orc} (h1:∀ a ∈ t,prev a = none) (h2:(t.all fun a=>!l.contains a) = true):∀ a ∈ t,ext l F prev a = none:=fun a ha=>by
  have:=List.all_eq_true.mp h2 a ha
  have e:¬ l.contains a = true:=by simpa using this
  unfold ext
  rw [if_neg e]; exact h1 a ha
noncomputable def lv0 (w:Params):Prg:=prO w 0 (fun _=>none)
noncomputable def orc1 (w:Params):Orc:=ext [722,616,768,145,922,934,929] (fun a=>runO (lv0 w) 60 a) (fun _=>none)
noncomputable def lv1 (w:Params):Prg:=prO w 60 (orc1 w)
noncomputable def orc2 (w:Params):Orc:=ext [743,654] (fun a=>runO (lv1 w) 100 a) (orc1 w)
noncomputable def lv2 (w:Params):Prg:=prO w 100 (orc2 w)
noncomputable def orc3 (w:Params):Orc:=ext [748,761,775] (fun a=>runO (lv2 w) 140 a) (orc2 w)
noncomputable def lv3 (w:Params):Prg:=prO w 140 (orc3 w)
noncomputable def orc4 (w:Params):Orc:=ext [780,785] (fun a=>runO (lv3 w) 180 a) (orc3 w)
noncomputable def lv4 (w:Params):Prg:=prO w 180 (orc4 w)
noncomputable def orc5 (w:Params):Orc:=ext [792,797,802,809] (fun a=>runO (lv4 w) 220 a) (orc4 w)
noncomputable def lv5 (w:Params):Prg:=prO w 220 (orc5 w)
noncomputable def orc6 (w:Params):Orc:=ext [837,844,851,856,861,882,889,896,903] (fun a=>runO (lv5 w) 270 a) (orc5 w)
noncomputable def lv6 (w:Params):Prg:=prO w 270 (orc6 w)
noncomputable def orc7 (w:Params):Orc:=ext [939,944,951] (fun a=>runO (lv6 w) 320 a) (orc6 w)
noncomputable def orbV (w:Params):Orb:=fun a=>if a = 910 then some (runB (lv0 w) 60 910) else none
noncomputable def lvV (w:Params):Prg:=prB w 60 (fun _=>none) (orbV w)
noncomputable def orb8 (w:Params):Orb:=fun a=>if a = 915 then some (runB (lvV w) 120 915) else none
section
variable {w:Params}
theorem n1 {t:List Addr} (h:(t.all fun a=>![722,616,768,145,922,934,929].contains a) = true):∀ a ∈ t,orc1 w a = none:=ext_none (fun _ _=>rfl) h
theorem n2 {t:List Addr} (h:(t.all fun a=>![722,616,768,145,922,934,929].contains a) = true) (h2:(t.all fun a=>![743,654].contains a) = true):∀ a ∈ t,orc2 w a = none:=ext_none (n1 h) h2
theorem n3 {t:List Addr} (h:(t.all fun a=>![722,616,768,145,922,934,929].contains a) = true) (h2:(t.all fun a=>![743,654].contains a) = true) (h3:(t.all fun a=>![748,761,775].contains a) = true):∀ a ∈ t,orc3 w a = none:=ext_none (n2 h h2) h3
theorem n4 {t:List Addr} (h:(t.all fun a=>![722,616,768,145,922,934,929].contains a) = true) (h2:(t.all fun a=>![743,654].contains a) = true) (h3:(t.all fun a=>![748,761,775].contains a) = true) (h4:(t.all fun a=>![780,785].contains a) = true):∀ a ∈ t,orc4 w a = none:=ext_none (n3 h h2 h3) h4
theorem n5 {t:List Addr} (h:(t.all fun a=>![722,616,768,145,922,934,929].contains a) = true) (h2:(t.all fun a=>![743,654].contains a) = true) (h3:(t.all fun a=>![748,761,775].contains a) = true) (h4:(t.all fun a=>![780,785].contains a) = true) (h5:(t.all fun a=>![792,797,802,809].contains a) = true):∀ a ∈ t,orc5 w a = none:=ext_none (n4 h h2 h3 h4) h5
theorem n6 {t:List Addr} (h:(t.all fun a=>![722,616,768,145,922,934,929].contains a) = true) (h2:(t.all fun a=>![743,654].contains a) = true) (h3:(t.all fun a=>![748,761,775].contains a) = true) (h4:(t.all fun a=>![780,785].contains a) = true) (h5:(t.all fun a=>![792,797,802,809].contains a) = true) (h6:(t.all fun a=>![837,844,851,856,861,882,889,896,903].contains a) = true):∀ a ∈ t,orc6 w a = none:=ext_none (n5 h h2 h3 h4 h5) h6
theorem hkey {P:Prg} (e:P.orc 722 = some (runO (lv0 w) 60 722)):HKey P:=fun k o ho=>calls_of e (key_run w 0 _ (fun _ _=>rfl) k o ho)
theorem hitem {P:Prg} (e:P.orc 616 = some (runO (lv0 w) 60 616)):HItem P:=fun k1 k2 o h=>calls_of e (itemas_run (fun _ _=>rfl) k1 k2 o h)
theorem hplain {P:Prg} (e:P.orc 768 = some (runO (lv0 w) 60 768)):HPlain P:=fun a=>calls_of e (plain_run (fun _ _=>rfl) a)
theorem htake {P:Prg} (e:P.orc 145 = some (runO (lv0 w) 60 145)):HTake P where
  u u h:=calls_of e (take_unique (fun _ _=>rfl) u h)
  d1 u h:=calls_of e (take_dup1 (fun _ _=>rfl) u h)
  d2 u v h g:=calls_of e (take_dup2 (fun _ _=>rfl) u v h g)
  m2 u v h g:=calls_of e (take_match2 (fun _ _=>rfl) u v h g)
  m3 u v x h g i:=calls_of e (take_match3 (fun _ _=>rfl) u v x h g i)
  i u v h g:=calls_of e (take_in (fun _ _=>rfl) u v h g)
  s u v h g:=calls_of e (take_set (fun _ _=>rfl) u v h g)
theorem hwide {P:Prg} (e:P.orc 929 = some (runO (lv0 w) 60 929)):HWide P:=fun a b=>calls_of e (wide_run (fun _ _=>rfl) a b)
theorem hfirst {P:Prg} (e:P.orc 743 = some (runO (lv1 w) 100 743)):HFirst P:=fun k row att sh h=>calls_of e (first_run (n1 (by decide)) (Nat.le_refl _) (hkey (w:=w) (by kernel_rfl)) k row h.1 h.2 att sh)
theorem has {P:Prg} (e:P.orc 654 = some (runO (lv1 w) 100 654)):HAs P:=fun k1 k2 row h hr=>calls_of e (as_run (n1 (by decide)) (Nat.le_refl _) (hitem (w:=w) (by kernel_rfl)) k1 k2 row h hr)
theorem hupl {P:Prg} (e:P.orc 748 = some (runO (lv2 w) 140 748)):HUpl P:=fun k row att sh h=>calls_of e (upl_run (n2 (by decide) (by decide)) (Nat.le_refl _) (hfirst (w:=w) (by kernel_rfl)) k row att sh h)
theorem hdup {P:Prg} (e:P.orc 761 = some (runO (lv2 w) 140 761)):HDup P where
  a k row att sh ts h g:=calls_of e (dup_run (n2 (by decide) (by decide)) (Nat.le_refl _) (hfirst (w:=w) (by kernel_rfl)) k row att sh h ts g)
  b k row att sh h:=calls_of e (duplast_run (n2 (by decide) (by decide)) (Nat.le_refl _) (hfirst (w:=w) (by kernel_rfl)) k row att sh h)
theorem hboth {P:Prg} (e:P.orc 775 = some (runO (lv2 w) 140 775)):HBoth P:=fun a b ha hb=>calls_of e (both_run0 (n2 (by decide) (by decide)) (Nat.le_refl _) (hplain (w:=w) (by kernel_rfl)) (has (w:=w) (by kernel_rfl)) a b _ _ _ _ _ rfl rfl rfl rfl rfl ha.2 hb.2)
theorem hmatch {P:Prg} (e:P.orc 780 = some (runO (lv3 w) 180 780)):HMatch P:=fun a b ha hb=>calls_of e (match_run (n3 (by decide) (by decide) (by decide)) (Nat.le_refl _) (hkey (w:=w) (by kernel_rfl)) (hboth (w:=w) (by kernel_rfl)) a b _ _ _ rfl rfl rfl ha hb)
theorem hdist {P:Prg} (e:P.orc 785 = some (runO (lv3 w) 180 785)):HDist P:=fun k row h=>calls_of e (distinct_run (n3 (by decide) (by decide) (by decide)) (Nat.le_refl _) (hupl (w:=w) (by kernel_rfl)) k row h)
theorem hunion {P:Prg} (e:P.orc 792 = some (runO (lv4 w) 220 792)):HUnion P:=fun a b ha hb h=>calls_of e (union_run (n4 (by decide) (by decide) (by decide) (by decide)) (Nat.le_refl _) (hboth (w:=w) (by kernel_rfl)) (hdist (w:=w) (by kernel_rfl)) a b _ _ _ rfl rfl rfl ha hb h)
theorem hinter {P:Prg} (e:P.orc 797 = some (runO (lv4 w) 220 797)):HInter P:=fun a b ha hb=>calls_of e (inter_run (n4 (by decide) (by decide) (by decide) (by decide)) (Nat.le_refl _) (hboth (w:=w) (by kernel_rfl)) (hmatch (w:=w) (by kernel_rfl)) (hdist (w:=w) (by kernel_rfl)) a b _ _ _ rfl rfl rfl ha hb)
theorem hdiff {P:Prg} (e:P.orc 802 = some (runO (lv4 w) 220 802)):HDiff P:=fun a b ha hb=>calls_of e (diff_run (n4 (by decide) (by decide) (by decide) (by decide)) (Nat.le_refl _) (hplain (w:=w) (by kernel_rfl)) (hmatch (w:=w) (by kernel_rfl)) (hdist (w:=w) (by kernel_rfl)) a b _ _ _ rfl rfl rfl ha hb)
theorem hsame {P:Prg} (e:P.orc 809 = some (runO (lv4 w) 220 809)):HSame P:=fun a b ha hb=>calls_of e (same_run (n4 (by decide) (by decide) (by decide) (by decide)) (Nat.le_refl _) (hmatch (w:=w) (by kernel_rfl)) a b ha hb)
theorem hlaw:HLaw (lv6 w):=by
  have T:HTake (prO w 220 (orc5 w)):=htake (w:=w) (by kernel_rfl)
  have U:HUpl (prO w 220 (orc5 w)):=hupl (w:=w) (by kernel_rfl)
  have D:HDup (prO w 220 (orc5 w)):=hdup (w:=w) (by kernel_rfl)
  have A:HAs (prO w 220 (orc5 w)):=has (w:=w) (by kernel_rfl)
  have M:HMatch (prO w 220 (orc5 w)):=hmatch (w:=w) (by kernel_rfl)
  have Un:HUnion (prO w 220 (orc5 w)):=hunion (w:=w) (by kernel_rfl)
  have In:HInter (prO w 220 (orc5 w)):=hinter (w:=w) (by kernel_rfl)
  have Di:HDiff (prO w 220 (orc5 w)):=hdiff (w:=w) (by kernel_rfl)
  have Sa:HSame (prO w 220 (orc5 w)):=hsame (w:=w) (by kernel_rfl)
  have le:220 ≤ 220:=Nat.le_refl _
  refine ⟨?_,?_,?_,?_,?_,?_,?_,?_,?_,?_,?_,?_,?_,?_,?_,?_,?_,?_,?_,?_,?_,?_,?_⟩
  · exact fun row h=>calls_of (F:=runO (lv0 w) 60 922) (by kernel_rfl) (once_run0 (fun _ _=>rfl) row h)
  · exact fun k row h=>calls_of (F:=runO (lv0 w) 60 934) (by kernel_rfl) (is_run0 (fun _ _=>rfl) k row h)
  · exact fun k row nm h=>calls_of (F:=runO (lv5 w) 270 837) (by kernel_rfl) (bunique_run (n5 (by decide) (by decide) (by decide) (by decide) (by decide)) le T U k row nm h)
  · exact calls_of (F:=runO (lv5 w) 270 837) (by kernel_rfl) (bunique_null (n5 (by decide) (by decide) (by decide) (by decide) (by decide)) le T)
  · exact fun row h=>calls_of (F:=runO (lv5 w) 270 837) (by kernel_rfl) (bunique_fac (n5 (by decide) (by decide) (by decide) (by decide) (by decide)) le T U row h)
  · exact fun k row nm h=>calls_of (F:=runO (lv5 w) 270 844) (by kernel_rfl) (bdup_run (n5 (by decide) (by decide) (by decide) (by decide) (by decide)) le T D k row nm h)
  · exact fun k row nm h=>calls_of (F:=runO (lv5 w) 270 844) (by kernel_rfl) (bdup_last (n5 (by decide) (by decide) (by decide) (by decide) (by decide)) le T D A k row nm h)
  · exact calls_of (F:=runO (lv5 w) 270 844) (by kernel_rfl) (bdup_null (n5 (by decide) (by decide) (by decide) (by decide) (by decide)) le T)
  · exact fun k row nm h=>calls_of (F:=runO (lv5 w) 270 851) (by kernel_rfl) (bany_run (n5 (by decide) (by decide) (by decide) (by decide) (by decide)) le T D k row nm h)
  · exact calls_of (F:=runO (lv5 w) 270 851) (by kernel_rfl) (bany_null (n5 (by decide) (by decide) (by decide) (by decide) (by decide)) le T)
  · exact fun k l n1 b h g=>calls_of (F:=runO (lv5 w) 270 856) (by kernel_rfl) (bmatch2_run (n5 (by decide) (by decide) (by decide) (by decide) (by decide)) le T M k l _ n1 b h g rfl)
  · exact fun k k2 l r m1 m2 h g=>calls_of (F:=runO (lv5 w) 270 856) (by kernel_rfl) (bmatch3_run (n5 (by decide) (by decide) (by decide) (by decide) (by decide)) le T M A k k2 l r m1 m2 h g)
  · exact fun k k2 l r m1 m2 h g=>calls_of (F:=runO (lv5 w) 270 861) (by kernel_rfl) (bin_run (n5 (by decide) (by decide) (by decide) (by decide) (by decide)) le T M k k2 l r m1 m2 h g)
  · exact fun k k2 l r m1 m2 h g i=>calls_of (F:=runO (lv5 w) 270 882) (by kernel_rfl) (bunion_run (n5 (by decide) (by decide) (by decide) (by decide) (by decide)) le T Un k k2 l r m1 m2 h g i)
  · exact fun k2 r m2 h=>calls_of (F:=runO (lv5 w) 270 882) (by kernel_rfl) (bunion_nv (n5 (by decide) (by decide) (by decide) (by decide) (by decide)) le T Un k2 r m2 h)
  · exact calls_of (F:=runO (lv5 w) 270 882) (by kernel_rfl) (bunion_nn (n5 (by decide) (by decide) (by decide) (by decide) (by decide)) le T)
  · exact fun k k2 l r m1 m2 h g=>calls_of (F:=runO (lv5 w) 270 889) (by kernel_rfl) (binter_run (n5 (by decide) (by decide) (by decide) (by decide) (by decide)) le T In k k2 l r m1 m2 h g)
  · exact calls_of (F:=runO (lv5 w) 270 889) (by kernel_rfl) (binter_nn (n5 (by decide) (by decide) (by decide) (by decide) (by decide)) le T)
  · exact fun k k2 l r m1 m2 h g=>calls_of (F:=runO (lv5 w) 270 896) (by kernel_rfl) (bdiff_run (n5 (by decide) (by decide) (by decide) (by decide) (by decide)) le T Di k k2 l r m1 m2 h g)
  · exact fun k l m1 h=>calls_of (F:=runO (lv5 w) 270 896) (by kernel_rfl) (bdiff_vn (n5 (by decide) (by decide) (by decide) (by decide) (by decide)) le T Di k l m1 h)
  · exact calls_of (F:=runO (lv5 w) 270 896) (by kernel_rfl) (bdiff_nn (n5 (by decide) (by decide) (by decide) (by decide) (by decide)) le T)
  · exact fun k k2 l r m1 m2 h g=>calls_of (F:=runO (lv5 w) 270 903) (by kernel_rfl) (bequal_run (n5 (by decide) (by decide) (by decide) (by decide) (by decide)) le T Sa k k2 l r m1 m2 h g)
  · exact fun k l m1 h=>calls_of (F:=runO (lv5 w) 270 903) (by kernel_rfl) (bequal_vn (n5 (by decide) (by decide) (by decide) (by decide) (by decide)) le T Sa k l m1 h)
end
end Mine
end
section
open PySem PySem.W PySem.Calls PySem.SeqAt PyProof.Rows
namespace Mine
noncomputable abbrev bmX:List Value:=[.type "Exception",.type "BaseException",.type "object"]
noncomputable abbrev refC:Obj:=excClassObj "Refusal" "Refusal" 51 50 [.ref 31] (.ref 31 :: bmX) true [] [] false none none (some (.ref 35)) none (some (.str "Refusal" 216)) (some (.str "Refusal" 224)) (some (.bool true)) "Exception.__new__"
noncomputable abbrev covC:Obj:=⟨.type "type",none,.cls ⟨"CoveError",[.type "Exception"],.ref 31 :: bmX,30,"CoveError",true,[],[.ref 51],false,none,false⟩,#[some (.ref 22),none,some (.str "CoveError" 196),some (.str "CoveError" 204),some (.builtin "Exception.__new__"),some (.bool true)]⟩
theorem k51 (w:Params):(KP w).lookup 51 = some refC:=by kernel_rfl
theorem k31 (w:Params):(KP w).lookup 31 = some covC:=by kernel_rfl
theorem i51 (w:Params):findIn (KP w) (.ref 51) "__init__" = some (some (.ref 48)):=by kernel_rfl
theorem f48 (w:Params):typeIn (KP w) (.ref 48) = some (.type "function"):=by kernel_rfl
theorem f48at (w:Params):∃ o,(KP w).lookup 48 = some o ∧ o.cls = .type "function":=by
  have h:((KP w).lookup 48).map (·.cls) = some (.type "function"):=f48 w
  obtain ⟨o,h1,h2⟩:=Option.map_eq_some_iff.mp h
  exact ⟨o,h1,h2⟩
theorem n30 (w:Params):nsOkIn (KP w) 30 = true:=by kernel_rfl
theorem n30i (w:Params):nsIn (KP w) 30 "__init__" = some none:=by kernel_rfl
section
variable {prog:Program} {w:World} {A:Around} {E:Value → Shared → Prop} {s:Shared}
theorem ownTail {h:Heap} (X:(KP w.params).In h):OwnTail h bmX (.ref 31 :: bmX) :=
  .own (cd:=⟨"CoveError",[.type "Exception"],.ref 31 :: bmX,30,"CoveError",true,[],[.ref 51],false,none,false⟩) (X _ _ (k31 w.params)) (.of_isNs (isNs_of_in X (n30 w.params))) (nsMap_none_of_in X (n30 w.params) (n30i w.params)) .base
theorem type_call_ref {h:Heap} {g:Array GenState} {d:Drawn} {t:Nat} {os:OsState} {rest:List Value} {Q:Fin → Shared → Prop} (X:(KP w.params).In h) (hrest:rest.length ≤ sizeLine)
    (hq:∀ h' e,Heap.MadeExcOf h h' e (.ref 51) rest → wpAny (model prog w) A (call (.ref 48) (.ref e :: rest)) (fun r s'=>r = .none ∧ Q (.done (.ret (.ref e))) s') E ⟨h',g,d,t,os⟩) :
    wpAny (model prog w) A (Builtin.«type.__call__» ⟨.ref 51 :: rest,[]⟩) Q E ⟨h,g,d,t,os⟩:=by
  have hC:h.get? 51 = some refC:=X _ _ (k51 w.params)
  obtain ⟨oI,hf,hfc⟩:=f48at w.params
  have hfI:h.get? 48 = some oI:=X _ _ hf
  have T:=ownTail X
  have Fn:=PySem.F.excBase_Exception
  repeat (first | with_reducible refine wpAny_loadPart_at hC ?_ | with_reducible refine wpAny_madeBy_exc hC ?_ | wp_step)
  refine codeAny_call_builtin_code (Code.quiet_builtin _ Fn.quiet) (wpAny_check_new_subU Fn rfl T hC ?_)
  refine codeAny_exc_new_subU Fn rfl Fn T hC ?_ hrest
  show wpAny _ _ _ _ _ _
  have kk:∀ b o,h.get? b = some o → ((h.push { cls:=.type "tuple",data:=.seq rest.toArray }).push { cls:=.ref 51,data:=.fields #[.ref h.objs.size,.none,.none,.none,.bool false,.none] }).get? b = some o:=fun b o e=>Heap.get?_push_of_some _ (Heap.get?_push_of_some _ e)
  have hC₁:=kk _ _ hC
  have hfI₁:=kk _ _ hfI
  have X₁:(KP w.params).In ((h.push { cls:=.type "tuple",data:=.seq rest.toArray }).push { cls:=.ref 51,data:=.fields #[.ref h.objs.size,.none,.none,.none,.bool false,.none] }):=X.keeps kk
  have hget:((h.push { cls:=.type "tuple",data:=.seq rest.toArray }).push { cls:=.ref 51,data:=.fields #[.ref h.objs.size,.none,.none,.none,.bool false,.none] }).get? (h.objs.size + 1) = some { cls:=.ref 51,data:=.fields #[.ref h.objs.size,.none,.none,.none,.bool false,.none] }:=by heap_get
  have hcC:(Value.ref 51 :: (.ref 31 :: bmX)).contains (.ref 51) = true:=by simp
  unfold isInstance
  repeat (first | with_reducible refine wpAny_loadPart_at hget ?_ | (with_reducible refine wpAny_isSubtype_exc hC₁ ?_; rw [hcC]) | wp_step)
  show wpAny _ _ (typeLookup (.ref 51) _) _ _ _
  refine (looks_findIn X₁ (i51 w.params)).here ?_
  refine wpAny_holding (wpAny_bind ?_)
  unfold bindSpecial
  refine wpAny_bind (wpAny_typeOf (T:="function") ⟨_,hfI₁,hfc⟩ ?_)
  rw [if_pos (by decide)]
  refine wpAny_pure (wpAny_bind (wpAny_mono (hq _ (h.objs.size + 1) ⟨kk,Heap.get?_none_of_le (Nat.le_succ _),h.objs.size,hget,Heap.get?_none_of_le (Nat.le_refl _),?_⟩) (fun r s' hr=>?_) fun _ _ z=>z))
  · exact Heap.get?_push_of_some _ (Heap.get?_push_at rfl rfl)
  · obtain ⟨rfl,hQ⟩:=hr
    wp_walk
    exact hQ
theorem make_ref {rest:List Value} {Q:Value → Shared → Prop} (X:(KP w.params).In s.heap) (hrest:rest.length ≤ sizeLine)
    (hq:∀ h' e,Heap.MadeExcOf s.heap h' e (.ref 51) rest → wpAny (model prog w) (A.under (.builtin "type.__call__" ⟨.ref 51 :: rest,[]⟩)) (call (.ref 48) (.ref e :: rest)) (fun r s'=>r = .none ∧ Q (.ref e) s') E { s with heap:=h' }) :
    wpAny (model prog w) A (call (.ref 51) rest) Q E s:=by
  obtain ⟨h,g,d,t,os⟩:=s
  have hC:h.get? 51 = some refC:=X _ _ (k51 w.params)
  have f1:=tc_lookup
  have f2:=tc_bind (.ref 51)
  have hT:(⟨h,g,d,t,os⟩:Shared).TypeIs (.ref 51) "type":=⟨_,hC,rfl⟩
  refine wpAny_call (codeAny_of_tree ?_)
  show wpAny _ _ (callAny (.ref 51) _) _ _ _
  repeat (any_goals (first | assumption | with_reducible refine wpAny_loadPart_at hC ?_ | wp_step))
  refine ⟨rfl,?_⟩
  exact codeAny_call_builtin_at (Code.quiet_builtin _ (by decide +kernel)) entry_typeCall (wpAny_check_type_call_sub hC (type_call_ref X hrest fun h' e hm=>hq h' e hm))
end
end Mine
end
section
open PySem PySem.W PySem.Calls PySem.SeqAt PyProof.Rows
open Builtin Builtin.ObjectAttr
namespace Mine
theorem s51 (w:Params):findIn (KP w) (.ref 51) "__setattr__" = some (some (.builtin "object.__setattr__")):=by kernel_rfl
theorem g51 (w:Params):findIn (KP w) (.ref 51) "__getattribute__" = some (some (.builtin "BaseException.__getattribute__")):=by kernel_rfl
theorem ga51 (w:Params):findIn (KP w) (.ref 51) "__getattr__" = some none:=by kernel_rfl
theorem m51 (w:Params):findIn (KP w) (.ref 51) "message" = some none:=by kernel_rfl
section
variable {prog:Program} {w:World} {A:Around} {E:Value → Shared → Prop}
theorem set_entry {h:Heap} {g:Array GenState} {d:Drawn} {t:Nat} {os:OsState} {x:Addr} {tk:Tok} {v:Value} {o:Obj} {vs:Array Value} {Q:Fin → Shared → Prop} (X:(KP w.params).In h)
    (hx:h.get? x = some o) (hc:o.cls = .ref 51) (hdn:o.dict = none) (hdt:o.data = .fields vs)
    (hq:∀ h' tk',h'.get? x = some { cls:=o.cls,dict:=some h.objs.size,data:=o.data,slots:=o.slots } → h'.Ns1 h.objs.size (fun y=>if y = "message" then some v else none) → (∀ b ob,b ≠ x → h.get? b = some ob → h'.get? b = some ob) → Q (.done (.ret .none)) ⟨h',g,d,tk',os⟩) :
    wpAny (model prog w) A (Builtin.«object.__setattr__» ⟨[.ref x,.str "message" tk,v],[]⟩) Q E ⟨h,g,d,t,os⟩:=by
  have hC:h.get? 51 = some refC:=X _ _ (k51 w.params)
  have hpass:=PySem.F.store_Exception.passes (.ref x)
  have hnc:∀ c,o.data ≠ .cls c:=fun c e=>by rw [hdt] at e; cases e
  unfold Builtin.«object.__setattr__»
  repeat (first | rw [refuse_eq] | (rw [refuseLoop_ref,refuseLoop_ref,hpass]) | (with_reducible refine wpAny_loadPart_at hx ?_; rw [hc]) | with_reducible refine wpAny_mroOf_exc hC ?_ | (with_reducible refine (looks_findIn X (m51 w.params)).here ?_) | wp_step)
  rw [hdn,if_neg (by simp [typeHasDict])]
  split
  · rename_i hcd
    cases hcd
  split
  · rename_i c hcd
    exact absurd hcd (hnc c)
  · have hx₁:(h.push { cls:=.type "dict",data:=.dict #[] }).get? x = some o:=Heap.get?_push_of_some _ hx
    have hxs:x ≠ h.objs.size:=Nat.ne_of_lt (Heap.lt_size hx)
    refine wpAny_bind (wpAny_alloc' ?_)
    refine wpAny_bind (wpAny_update' hx₁ ?_)
    refine wpAny_pure ?_
    have hgd:((h.push { cls:=.type "dict",data:=.dict #[] }).update x fun o=>{ cls:=o.cls,dict:=some h.objs.size,data:=o.data,slots:=o.slots }).get? h.objs.size
        = some { cls:=.type "dict",data:=.dict #[] } :=
      (Heap.get?_update_ne _ _ _ _ hxs.symm).trans (Heap.get?_push_at rfl rfl)
    have hnd:((h.push { cls:=.type "dict",data:=.dict #[] }).update x fun o=>{ cls:=o.cls,dict:=some h.objs.size,data:=o.data,slots:=o.slots }).Ns h.objs.size (fun _=>none) :=
      ⟨_,#[],_,hgd,rfl,fun e he=>absurd he (by simp),fun _=>rfl⟩
    show wpAny _ _ (storeInDict h.objs.size (.str "message" tk) "message" v) _ _ _
    unfold storeInDict newKeyGuard
    refine wpAny_bind (wpAny_pure (wpAny_bind (wpAny_nsSet1 (Heap.Ns1.of_empty hnd) fun h' hn' hs=>?_)))
    obtain ⟨oD,esD,epD,hoD,hdD,hcD⟩:=hn'.count (Within.cons "message" v Within.nil)
    refine wpAny_bind (wpAny_lookBehind hoD (by rw [hdD]; exact pastItsLine_dict (Nat.le_trans hcD (by rw [List.length_cons,List.length_nil,sizeLine_eq]; omega))) ?_)
    wp_walk
    refine hq h' _ ?_ hn' fun b ob hbx hb=>(hs.2 b (Nat.ne_of_lt (Heap.lt_size hb))).trans ((Heap.get?_update_ne _ _ _ _ hbx).trans (Heap.get?_push_of_some _ hb))
    refine (hs.2 x hxs).trans (Heap.get?_update_self _ hx₁ ?_)
    have hfr:=(Heap.get?_some_iff.mp hx).2
    obtain ⟨oc,od,odt,osl⟩:=o
    cases odt <;> first | rfl | exact hfr
theorem set_message {s:Shared} {x:Addr} {v:Value} {o:Obj} {vs:Array Value} {Q:Unit → Shared → Prop} (X:(KP w.params).In s.heap)
    (hx:s.heap.get? x = some o) (hc:o.cls = .ref 51) (hdn:o.dict = none) (hdt:o.data = .fields vs)
    (hq:∀ h' tk',h'.get? x = some { cls:=o.cls,dict:=some s.heap.objs.size,data:=o.data,slots:=o.slots } → h'.Ns1 s.heap.objs.size (fun y=>if y = "message" then some v else none) → (∀ b ob,b ≠ x → s.heap.get? b = some ob → h'.get? b = some ob) → Q () { s with heap:=h',toks:=tk' }) :
    wpAny (model prog w) A (setAttr (.ref x) "message" v) Q E s:=by
  have I:InstAt s.heap x o 51 none:=⟨hx,hc,by unfold notCls; rw [hdt],by rw [hdn]; trivial⟩
  refine set_plain X I (s51 w.params) ?_
  have SF:=PySem.F.store_object
  have sub:Looks (model prog w) s.heap (isInstance (.ref x) (.type "object")) true:=I.type.andThen (looks_mroIn X (by kernel_rfl))
  refine codeAny_call_builtin SF.slot.plain SF.entry (@check_slot (model prog w) _ _ { s with toks:=s.toks + 1 } "object.__setattr__" "object" "__setattr__" (.ref x) [.str "message" s.toks,v] [] _ SF.kind SF.split sub (SF.args (.ref x) (.str "message" s.toks) v) ?_)
  obtain ⟨h,g,d,t,os⟩:=s
  exact set_entry X hx hc hdn hdt fun h' tk' h1 h2 h3=>hq h' tk' h1 h2 h3
end
end Mine
end
section
open PySem PySem.W PySem.Calls PySem.SeqAt PyProof.Rows
namespace Mine
section
variable {prog:Program} {w:World} {A:Around} {E:Value → Shared → Prop}
theorem check_get {M:Model} {h:Heap} {g:Array GenState} {d:Drawn} {t:Nat} {os:OsState} {x:Addr} {o:Obj} {nameV:Value} {Q:Unit → Shared → Prop} (X:(KP w.params).In h) (hx:h.get? x = some o) (hc:o.cls = .ref 51) (hq:Q () ⟨h,g,d,t,os⟩) :
    wpAny M A (checkBuiltinCall "BaseException.__getattribute__" ⟨[.ref x,nameV],[]⟩) Q E ⟨h,g,d,t,os⟩:=by
  have hC:h.get? 51 = some refC:=X _ _ (k51 w.params)
  have hk:builtinKind "BaseException.__getattribute__" = some .slot:=by decide +kernel
  have hsplit:splitId "BaseException.__getattribute__" = some ("BaseException","__getattribute__"):=by decide +kernel
  have hcB:(Value.ref 51 :: (.ref 31 :: bmX)).contains (.type "BaseException") = true:=by decide +kernel
  have ha:=PySem.F.args_bexc_ga (.ref x) nameV
  simp only [checkBuiltinCall,hk,hsplit]
  refine wpAny_bind ?_
  · unfold isInstance
    repeat (first | (with_reducible refine wpAny_loadPart_at hx ?_; rw [hc]) | (with_reducible refine wpAny_isSubtype_exc hC ?_; rw [hcB]) | wp_step)
    exact hq
theorem get_entry {h:Heap} {g:Array GenState} {d:Drawn} {t:Nat} {os:OsState} {x dx:Addr} {o:Obj} {vs:Array Value} {tk:Tok} {mA:Str → Option Value} {v:Value} {Q:Fin → Shared → Prop} (X:(KP w.params).In h) (hx:h.get? x = some o) (hc:o.cls = .ref 51) (hd:o.dict = some dx) (hdt:o.data = .fields vs) (hn:h.Ns1 dx mA) (hm:mA "message" = some v)
    (hq:Q (.done (.ret v)) ⟨h,g,d,t,os⟩):wpAny (model prog w) A (Builtin.«object.__getattribute__» ⟨[.ref x,.str "message" tk],[]⟩) Q E ⟨h,g,d,t,os⟩:=by
  have hC:h.get? 51 = some refC:=X _ _ (k51 w.params)
  repeat (any_goals (first | assumption | (with_reducible refine wpAny_loadPart_at hx ?_; rw [hc]) | (with_reducible refine (looks_findIn X (m51 w.params)).here ?_) | wp_step))
  rw [hdt]
  dsimp only
  unfold instanceDict
  repeat (any_goals (first | assumption | (with_reducible refine wpAny_loadPart_at hx ?_; rw [hc]) | (with_reducible refine wpAny_loadPart_at hC ?_) | wp_step))
  rw [hd]
  refine wpAny_pure ?_
  unfold Builtin.ObjectAttr.inDict
  refine wpAny_nsGet hn.ns ?_
  rw [hm]
  repeat (any_goals (first | assumption | wp_step))
theorem get_message {s:Shared} {x dx:Addr} {o:Obj} {vs:Array Value} {mA:Str → Option Value} {v:Value} {Q:Value → Shared → Prop} (X:(KP w.params).In s.heap) (hx:s.heap.get? x = some o) (hc:o.cls = .ref 51) (hd:o.dict = some dx) (hdt:o.data = .fields vs) (hn:s.heap.Ns1 dx mA) (hm:mA "message" = some v)
    (hh:handedIn v = true) (hq:Q v { s with toks:=s.toks + 1 }):wpAny (model prog w) A (getAttr (.ref x) "message" true) Q E s:=by
  obtain ⟨h,g,d,t,os⟩:=s
  have FB:=PySem.F.attrBase_Exception
  have f3:=FB.ga.bind (.ref x)
  have hx0:(true && onTheHeap (Value.builtin "BaseException.__getattribute__")) = false:=rfl
  have hx2:(Value.builtin "BaseException.__getattribute__" == Value.builtin "object.__getattribute__") = false:=by decide +kernel
  have hx1:(onTheHeap (Value.ref 51) && Value.builtin "BaseException.__getattribute__" == Value.builtin "object.__getattribute__") = false:=by rw [hx2]; rfl
  unfold getAttr
  refine wpAny_bind (wpAny_mkText ?_)
  show wpAny _ _ (getAttrBy (.ref x) (.str "message" t) true true) Q E ⟨h,g,d,t + 1,os⟩
  have hq:Q v ⟨h,g,d,t + 1,os⟩:=hq
  have X:(KP w.params).In h:=X
  have hx:h.get? x = some o:=hx
  have hn:h.Ns1 dx mA:=hn
  unfold getAttrBy
  repeat (any_goals (first | assumption | (with_reducible refine wpAny_loadPart_at hx ?_; rw [hc]) | (with_reducible refine (looks_findIn X (g51 w.params)).here ?_) | (with_reducible refine (looks_findIn X (ga51 w.params)).here ?_) | wp_step))
  refine codeAny_call_builtin FB.ga.plain PySem.F.entry_bexc_ga (check_get X hx hc (get_entry X hx hc hd hdt hn hm ?_))
  show wpAny _ _ (handedOut v) _ _ _
  rw [handedOut_of hh]
  exact wpAny_pure hq
end
end Mine
end
section
open PySem PySem.W PySem.Calls PySem.SeqAt PyProof.Rows
namespace Mine
section
variable {prog:Program} {w:World} {A:Around} {E:Value → Shared → Prop} {s:Shared} {env:Env}
theorem raise_made {x:Sem Value} {Q:Flow → Shared → Prop} (hh:A.handled = none)
    (h:wpAny (model prog w) A x (fun v s₁=>∃ e o vs,v = .ref e ∧ (KP w.params).In s₁.heap ∧ s₁.heap.get? e = some o ∧ o.cls = .ref 51 ∧ o.data = .fields vs ∧ vs[1]? = some .none ∧ E (.ref e) s₁) E s) :
    wpAny (model prog w) A (raiseStmt env (some x) none) Q E s:=by
  have hcB:(Value.ref 51 :: (.ref 31 :: bmX)).contains (.type "BaseException") = true:=by decide +kernel
  unfold raiseStmt
  refine wpAny_bind (wpAny_mono h (fun v s₁ h₁=>?_) fun _ _ x=>x)
  obtain ⟨e,o,vs,rfl,X,he,hc,hdt,h1,hE⟩:=h₁
  have hC:s₁.heap.get? 51 = some refC:=X _ _ (k51 w.params)
  obtain ⟨hp,g,d,tk,os⟩:=s₁
  have he:hp.get? e = some o:=he
  have hC:hp.get? 51 = some refC:=hC
  repeat (first | (with_reducible refine wpAny_loadPart_at he ?_; (try rw [hc]); (try rw [hdt])) | with_reducible refine wpAny_loadPart_at hC ?_ | (with_reducible refine wpAny_isSubtype_exc hC ?_; rw [hcB]) | with_reducible refine wpAny_field he hdt h1 ?_ | wp_step)
  exact wpAny_raiseNew_none hh hE
end
noncomputable def Tb (base h:Heap) (e:Addr) (vs:Array Value):Option Value → Prop
  | none=>vs[1]? = some .none
  | some fl=>∃ T oT ts,vs[1]? = some (.ref T) ∧ base.get? T = none ∧ T ≠ e ∧ h.get? T = some oT ∧ oT.data = .fields ts ∧ ts[3]? = some fl
structure XAt (base:Heap) (l:List Env) (m:S) (e:Addr) (fl:Option Value) (h:Heap):Prop where
  stays:base.StaysIn h
  new:base.get? e = none
  frames:h.FunFrames base l
  ex:∃ o d vs tk,h.get? e = some o ∧ o.cls = .ref 51 ∧ o.dict = some d ∧ o.data = .fields vs ∧ 1 < vs.size ∧ h.Ns1 d (fun y=>if y = "message" then some (.str m tk) else none) ∧ Tb base h e vs fl
theorem ns1_slots {h h':Heap} {d:Addr} {mA:Str → Option Value} (x:h.UpToSlots h') (hn:h.Ns1 d mA):h'.Ns1 d mA:=by
  obtain ⟨o,es,ep,ho,hd,r⟩:=hn
  obtain ⟨sl,hs⟩:=x d o ho fun vs q=>by rw [hd] at q; cases q
  exact ⟨_,es,ep,hs,hd,r⟩
section
variable {M:Model} {A:Around} {E:Value → Shared → Prop} {s:Shared} {base:Heap} {env:Env} {outer:List Env} {L e:Addr} {m:S}
theorem entry_X {oe:Obj} {vs:Array Value} {head:Value} {hadNext:Bool} {Q:Unit → Shared → Prop}
    (hfr:A.frames = some (env :: outer)) (hl:s.heap.FunFrames base (env :: outer)) (hf:env.frame = some L)
    (he:s.heap.get? e = some oe) (hkb:base.StaysIn s.heap) (hen:base.get? e = none) (hd:oe.data = .fields vs) (hsz:1 < vs.size)
    (h:∀ h' T oT ts,base.StaysIn h' → h'.FunFrames base (env :: outer) → h'.get? e = some (oe.mapFields (·.setIfInBounds 1 (.ref T))) → base.get? T = none → T ≠ e → h'.get? T = some oT → oT.data = .fields ts → ts[3]? = some (rawInt L) → s.heap.UpToSlots h' → Q () { s with heap:=h' }) :
    wpAny M A (do let a ← frameOf env; let pl ← entryPlaceOf L hadNext; let b ← EntryCells.newEntry head a .none (rawInt L) .none pl; setField (.ref e) 1 b) Q E s:=by
  have hene:e ∉ (env :: outer).filterMap (·.frame):=fun hm=>by
    obtain ⟨_,o,ho,hnf⟩:=hl.mem hm
    rw [he] at ho; injection ho with ho; subst ho; exact hnf vs hd
  refine wpAny_bind (wpAny_frameOf_fun hfr hl hf fun h₁ hs₁=>?_)
  refine wpAny_bind (wpAny_entryPlaceOf fun pl hpl=>?_)
  unfold EntryCells.newEntry newFields
  refine wpAny_bind (wpAny_newObj_type ?_ (hpl.sizeOk5 _ _ _ _ _))
  have he₁:h₁.get? e = some oe:=(hs₁.2.1 e hene).trans he
  have kb₁:base.StaysIn h₁:=fun b o hbo=>(hs₁.2.1 b fun hm=>by rw [(hl.mem hm).1] at hbo; cases hbo).trans (hkb b o hbo)
  generalize hob:({ cls:=.type "traceback",dict:=none,data:=.fields ([head,.ref L,.none,rawInt L,.none] ++ (if pl.isEmpty then List.replicate 6 Value.none else pl)).toArray }:Obj) = ob
  have hTe:h₁.objs.size ≠ e:=Nat.ne_of_gt (Heap.lt_size he₁)
  have he₂:=Heap.get?_push_of_some (h:=h₁) ob he₁
  have hT₂:(h₁.push ob).get? h₁.objs.size = some ob:=Heap.get?_push_size h₁ (by rw [← hob]; rfl)
  have hd₃:=Obj.data_mapFields hd (·.setIfInBounds 1 (Value.ref h₁.objs.size))
  have keep:∀ b o,b ≠ e → h₁.get? b = some o → ((h₁.push ob).update e (Obj.mapFields (·.setIfInBounds 1 (Value.ref h₁.objs.size)))).get? b = some o:=fun b o hbe hb=>by
    rw [Heap.get?_update_other _ _ (Ne.symm hbe)]
    exact Heap.get?_push_of_some _ hb
  have noRecord:∀ b o,s.heap.get? b = some o → (∀ vs,o.data ≠ .fields vs) → b ≠ e:=fun b o hb hnf q=>by
    rw [q,he] at hb; injection hb with hb; subst hb; exact hnf vs hd
  have up:s.heap.UpToSlots ((h₁.push ob).update e (Obj.mapFields (·.setIfInBounds 1 (Value.ref h₁.objs.size)))):=fun b o hb hnf=>by
    obtain ⟨sl,hs⟩:=hs₁.2.2 b o hb
    exact ⟨sl,keep b _ (noRecord b o hb hnf) hs⟩
  refine wpAny_setField he₂ hd hsz (h _ h₁.objs.size ob _ (fun b o hbo=>keep b o (fun q=>by rw [q,hen] at hbo; cases hbo) (kb₁ b o hbo)) (hl.of_keeps fun b o hb hnf=>?_) (Heap.get?_update_self _ he₂ (Obj.isFreed_of_fields hd₃)) kb₁.fresh hTe
    ((Heap.get?_update_other _ _ (Ne.symm hTe)).trans hT₂) (by rw [← hob]) ?_ up)
  · obtain ⟨sl,hs⟩:=up b o hb hnf
    exact ⟨_,hs,rfl⟩
  · first
      | (simp; done)
      | (rcases hpl with rfl | ⟨_,_,_,_,_,_,_,rfl⟩ <;> simp)
theorem note_X {fl:Option Value} {Q:Unit → Shared → Prop} (hfr:A.frames = some (env :: outer)) (hf:env.frame = some L) (x:XAt base (env :: outer) m e fl s.heap) (hfl:fl = none ∨ fl = some .none)
    (hQ:∀ h',XAt base (env :: outer) m e (some (rawInt L)) h' → s.heap.UpToSlots h' → Q () { s with heap:=h' }):wpAny M A (noteFrame (.ref e) env) Q E s:=by
  obtain ⟨st,nw,fr,o,d,vs,tk,ho,hc,hd,hdt,hsz,hn,tb⟩:=x
  have fin:∀ (s':Shared),s.heap.UpToSlots s'.heap → ∀ h' T oT ts,base.StaysIn h' → h'.FunFrames base (env :: outer) → h'.get? e = some (o.mapFields (·.setIfInBounds 1 (.ref T))) → base.get? T = none → T ≠ e → h'.get? T = some oT → oT.data = .fields ts → ts[3]? = some (rawInt L) → s'.heap.UpToSlots h' →
      XAt base (env :: outer) m e (some (rawInt L)) h' ∧ s.heap.UpToSlots h':=fun s' u h' T oT ts a1 a2 a3 a4 a5 a6 a7 a8 a9 =>
    ⟨⟨a1,nw,a2,_,d,_,tk,a3,by rw [Obj.cls_mapFields]; exact hc,by rw [← hd]; unfold Obj.mapFields; split <;> rfl,Obj.data_mapFields hdt _,by simpa using hsz,ns1_slots (u.trans a9) hn,T,oT,ts,by simp [hsz],a4,a5,a6,a7,a8⟩,u.trans a9⟩
  unfold noteFrame
  simp only [hf]
  rcases hfl with rfl | rfl
  · refine wpAny_bind (wpAny_field ho hdt tb ?_)
    rw [if_neg (by decide)]
    exact entry_X hfr fr hf ho st nw hdt hsz fun h' T oT ts a1 a2 a3 a4 a5 a6 a7 a8 a9=>let q:=fin s (.refl _) h' T oT ts a1 a2 a3 a4 a5 a6 a7 a8 a9; hQ h' q.1 q.2
  · obtain ⟨T,oT,ts,h1,hnT,hTe,hT,hdT,h3⟩:=tb
    refine wpAny_bind (wpAny_field ho hdt h1 ?_)
    rw [if_pos (show (Value.ref T != Value.none) = true from by simp)]
    refine wpAny_bind (wpAny_field hT hdT h3 ?_)
    rw [if_neg (show ¬ ((Value.none == rawInt L) = true) from by simp [rawInt])]
    refine wpAny_bind (wpAny_setField hT hdT (Array.getElem?_eq_some_iff.mp h3).1 ?_)
    have other:∀ b,b ≠ T → (s.heap.update T (Obj.mapFields (·.setIfInBounds 3 Value.none))).get? b = s.heap.get? b:=fun b hb=>Heap.get?_update_other _ _ (Ne.symm hb)
    have noRecord:∀ b o,s.heap.get? b = some o → (∀ vs,o.data ≠ .fields vs) → b ≠ T:=fun b o hb hnf q=>by
      rw [q,hT] at hb; injection hb with hb; subst hb; exact hnf ts hdT
    have u:s.heap.UpToSlots (s.heap.update T (Obj.mapFields (·.setIfInBounds 3 Value.none))):=fun b o hb hnf=>⟨o.slots,(other b (noRecord b o hb hnf)).trans hb⟩
    exact entry_X (s:={ s with heap:=s.heap.update T (Obj.mapFields (·.setIfInBounds 3 Value.none)) }) hfr (fr.of_keeps fun b o hb hnf=>⟨o,(other b (noRecord b o hb hnf)).trans hb,rfl⟩) hf ((other e (Ne.symm hTe)).trans ho)
      (fun b o hbo=>(other b fun q=>by rw [q,hnT] at hbo; cases hbo).trans (st b o hbo)) nw hdt hsz
      fun h' T' oT' ts' a1 a2 a3 a4 a5 a6 a7 a8 a9=>let q:=fin { s with heap:=s.heap.update T (Obj.mapFields (·.setIfInBounds 3 Value.none)) } u h' T' oT' ts' a1 a2 a3 a4 a5 a6 a7 a8 a9; hQ h' q.1 q.2
theorem flight_X {f:Value} {l:List Env} {Q:Unit → Shared → Prop} (x:XAt base l m e (some f) s.heap) (hQ:∀ h',XAt base l m e (some .none) h' → s.heap.UpToSlots h' → Q () { s with heap:=h' }):wpAny M A (setFlight (.ref e) none) Q E s:=by
  obtain ⟨st,nw,fr,o,d,vs,tk,ho,hc,hd,hdt,hsz,hn,T,oT,ts,h1,hnT,hTe,hT,hdT,h3⟩:=x
  have hsz3:3 < ts.size:=(Array.getElem?_eq_some_iff.mp h3).1
  have other:∀ b,b ≠ T → (s.heap.update T (Obj.mapFields (·.setIfInBounds 3 ((none:Option Addr).elim Value.none fun f=>rawInt f)))).get? b = s.heap.get? b:=fun b hb=>Heap.get?_update_other _ _ (Ne.symm hb)
  have noRecord:∀ b o,s.heap.get? b = some o → (∀ vs,o.data ≠ .fields vs) → b ≠ T:=fun b o hb hnf q=>by
    rw [q,hT] at hb; injection hb with hb; subst hb; exact hnf ts hdT
  have u:s.heap.UpToSlots (s.heap.update T (Obj.mapFields (·.setIfInBounds 3 ((none:Option Addr).elim Value.none fun f=>rawInt f)))):=fun b o hb hnf=>⟨o.slots,(other b (noRecord b o hb hnf)).trans hb⟩
  unfold setFlight
  refine wpAny_bind (wpAny_field ho hdt h1 ?_)
  rw [if_pos (show (Value.ref T != Value.none) = true from by simp)]
  refine wpAny_setField hT hdT hsz3 (hQ _ ⟨fun b o hbo=>(other b fun q=>by rw [q,hnT] at hbo; cases hbo).trans (st b o hbo),nw,fr.of_keeps fun b o hb hnf=>⟨o,(other b (noRecord b o hb hnf)).trans hb,rfl⟩,
    o,d,vs,tk,(other e (Ne.symm hTe)).trans ho,hc,hd,hdt,hsz,ns1_slots u hn,T,_,_,h1,hnT,hTe,Heap.get?_update_self _ hT (Obj.isFreed_of_fields (Obj.data_mapFields hdT _)),Obj.data_mapFields hdT _,by simp [hsz3]⟩ u)
theorem leave_X {fl:Option Value} {Q:Unit → Shared → Prop} (hfr:A.frames = some (env :: outer)) (hf:env.frame = some L) (x:XAt base (env :: outer) m e fl s.heap) (hfl:fl = none ∨ fl = some .none)
    (hQ:∀ h',XAt base outer m e (some .none) h' → s.heap.UpToSlots h' → Q () { s with heap:=h' }):wpAny M A (leaving env (.ref e)) Q E s:=by
  unfold leaving
  refine wpAny_bind (note_X hfr hf x hfl fun h' x1 u1=>flight_X (s:={ s with heap:=h' }) x1 fun h2 x2 u2=>?_)
  obtain ⟨st,nw,⟨_,_,fr⟩,r⟩:=x2
  exact hQ h2 ⟨st,nw,fr,r⟩ (u1.trans u2)
end
end Mine
end
section
open PySem PySem.W PySem.Calls PySem.SeqAt PyProof.Rows
namespace Mine
def XE (base:Heap) (l:List Env) (m:S) (s0:Shared) (v:Value) (s':Shared):Prop :=
  ∃ e fl,v = .ref e ∧ (fl = none ∨ fl = some .none) ∧ XAt base l m e fl s'.heap ∧ s0.heap.UpToSlots s'.heap ∧ ∃ h tk,s' = { s0 with heap:=h,toks:=tk }
structure FS (w:Params) (K:Frag) (prog:Program) (loose:List S) (mg mb:S → Option Value) (base:Heap) (l:List Env) (cenv:Env) (ks:Ks) (s0:Shared) (G:Gh) (ρ:Ro) (e:En) (z:Zo) (s:Shared):Prop where
  B:Base K prog loose mg mb G
  R:ZRel w G ρ z s.heap
  F:FRel w G ρ cenv ks e s.heap
  up:∀ b o,s0.heap.get? b = some o → s.heap.get? b = some o
  st:∃ h tk,s = { s0 with heap:=h,toks:=tk }
  hX:∀ b,XF cenv ks b → s0.heap.get? b = none
  hF:∀ b,Fp ρ b → s0.heap.get? b = none
  fr:cenv.frame = some cenv.locals
  hb:base.StaysIn s0.heap
  hf:s0.heap.FunFrames base l
section
variable {prog:Program} {w:World} {A:Around} {E:Value → Shared → Prop} {s s0 s':Shared} {G G':Gh} {ρ ρ':Ro} {z z':Zo} {K:Frag} {Pr:Prg} {loose:List S} {mg mb:S → Option Value}
variable {cenv:Env} {ks:Ks} {e e':En} {n:Nat} {base:Heap} {l:List Env} {m:S}
theorem up_of {h h':Heap} (k:∀ b o,h.get? b = some o → h'.get? b = some o):h.UpToSlots h':=fun b o hb _=>⟨o.slots,k b o hb⟩
theorem none_keeps {h h':Heap} (k:∀ b o,h.get? b = some o → h'.get? b = some o) {b:Addr} (e:h'.get? b = none):h.get? b = none:=by
  cases q:h.get? b with
  | none=>rfl
  | some o=>exact nomatch (k b o q).symm.trans e
theorem FS.step (f:FS w.params K prog loose mg mb base l cenv ks s0 G ρ e z s) (g:Grow (XF cenv ks) G ρ s G' ρ' s') (R:ZRel w.params G' ρ' z' s'.heap) (F:FRel w.params G' ρ' cenv ks e' s'.heap):FS w.params K prog loose mg mb base l cenv ks s0 G' ρ' e' z' s':=by
  refine ⟨f.B.mono g.g,R,F,fun b o h=>g.fr b o (f.up b o h) (fun q=>nomatch (f.hF b q).symm.trans h) (fun q=>nomatch (f.hX b q).symm.trans h),?_,f.hX,fun b h=>?_,f.fr,f.hb,f.hf⟩
  · obtain ⟨h1,t1,rfl⟩:=f.st; obtain ⟨h2,t2,rfl⟩:=g.st; exact ⟨_,_,rfl⟩
  · exact (g.rf b h).elim (f.hF b) fun h=>none_keeps f.up h
theorem FS.step0 (f:FS w.params K prog loose mg mb base l cenv ks s0 G ρ e z s) (g:Grow NoX G ρ s G' ρ' s') (R:ZRel w.params G' ρ' z' s'.heap):FS w.params K prog loose mg mb base l cenv ks s0 G' ρ' e z' s' :=
  f.step (g.weaken fun _ h=>h.elim) R (f.F.grow0 g)
theorem FS.stays (f:FS w.params K prog loose mg mb base l cenv ks s0 G ρ e z s):base.StaysIn s.heap:=fun b o h=>f.up b o (f.hb b o h)
theorem FS.frames (f:FS w.params K prog loose mg mb base l cenv ks s0 G ρ e z s):s.heap.FunFrames base (cenv :: l):=by
  obtain ⟨mm,⟨o,es,ep,ho,hd,r⟩,_⟩:=f.F.ns
  refine ⟨by rw [f.F.kind]; decide,⟨cenv.locals,o,f.fr,none_keeps f.hb (f.hX _ (.inl rfl)),ho,fun vs q=>nomatch hd.symm.trans q⟩,f.hf.of_keeps fun b o h _=>⟨o,f.up b o h,rfl⟩⟩
theorem FS.xe {v:Value} (f:FS w.params K prog loose mg mb base l cenv ks s0 G ρ e z s) (h:XE base (cenv :: l) m s v s'):XE base (cenv :: l) m s0 v s':=by
  obtain ⟨x,fl,a,b,c,d,st⟩:=h
  refine ⟨x,fl,a,b,c,(up_of f.up).trans d,?_⟩
  obtain ⟨h1,t1,rfl⟩:=f.st; obtain ⟨h2,t2,rfl⟩:=st; exact ⟨_,_,rfl⟩
def Raises (w:World) (K:Frag) (prog:Program) (loose:List S) (mg mb:S → Option Value) (n:Nat) (f:Value) (ts:List V) (m:S):Prop :=
  ∀ ys A s G l base,A.frames = some l → Room n A → Base K prog loose mg mb G → ZRel w.params G [] [] s.heap → RepL w.params G ys ts → base.StaysIn s.heap → s.heap.FunFrames base l →
    wpAny (model prog w) A (call f ys) (fun _ _=>False) (XE base l m s) s
theorem deeper_frames {A:Around} {env:Env}:(A.deeper env).frames = A.frames.map (env :: ·):=rfl
theorem enter (O:POk K Pr) (B:Base K prog loose mg mb G) (R:ZRel w.params G ρ z s.heap) (hroom:Room (n + 1) A) {a:Addr} {fd:FuncData} {b:List Stmt} {args:List V} {ys:List Value} {Q:Result → Shared → Prop}
    (hf:Pr.func a = some fd) (hbind:bindPars (fd.params.args.map (·.arg)) args (Pr.dfl a) = some e) (hb:fd.body = .stmts b) (ra:ROL w.params G ρ ys args)
    (k:∀ env s₁,env.frame = some env.locals → Room n (A.deeper env) → ZRel w.params G ρ z s₁.heap → FRel w.params G ρ env fd.scope.names e s₁.heap → (∀ b,XF env fd.scope.names b → s.heap.get? b = none) → (∀ b o,s.heap.get? b = some o → s₁.heap.get? b = some o) → (∃ h tk,s₁ = { s with heap:=h,toks:=tk }) →
      wpAny (model prog w) (A.deeper env) (execs b env) (fun f s'=>Q (.ok (.ret (match f with | .ret v=>v | _=>.none))) s') (fun e s'=>wpAny (model prog w) (A.deeper env) (leaving env e) (fun _ s''=>Q (.error e) s'') (fun e' s''=>Q (.error e') s'') s') s₁) :
    codeAny (model prog w) A (.call (.ref a) ⟨ys,[]⟩) Q s:=by
  have hF:=O.func a fd hf
  have X:=B.kin R
  obtain ⟨oc,od,sl,hat⟩:=hF.at_
  obtain ⟨binds,hbt,hlook,hbk⟩:=hF.bind ys args e ra.length hbind
  refine codeAny_call_function (by have:=hroom.dp; omega) (X _ _ hat) rfl hF.co hF.gen hb (codeRec_of X hF.code) (hbt s X _ _ _ _ ?_)
  rw [hF.clos]
  refine wpAny_newFunctionEnv_cells hF.kind (fun y hy=>(hbk y hy).imp id fun h=>⟨h,hF.cin _ _ h⟩) fun env he s₁ x=>?_
  obtain ⟨F,hX⟩:=entry_frame R hF (hlook w.params G ρ ra) he x
  exact ⟨(B.top R).nolimit.keeps x.toInCall.keep,codeAny_func (k env s₁ (he ▸ rfl) ⟨hroom.hd,(show A.depth + 1 + n < _ by have:=hroom.dp; omega),(show A.units + 3 + 20 * n + 50 < _ by have:=hroom.un; omega)⟩
    (R.keeps x.toInCall.keep) F hX x.toInCall.keep (by obtain ⟨h,tk,q⟩:=x.toInCall.same; exact ⟨h,tk,q⟩))⟩
theorem callF_raise (O:POk K Pr) {a:Addr} {fd:FuncData} {b:List Stmt} {ts:List V} (hf:Pr.func a = some fd) (hbind:bindPars (fd.params.args.map (·.arg)) ts (Pr.dfl a) = some e) (hb:fd.body = .stmts b)
    (hbody:∀ A s0 s G l base cenv,A.frames = some (cenv :: l) → Room n A → FS w.params K prog loose mg mb base l cenv fd.scope.names s0 G [] e [] s →
      wpAny (model prog w) A (execs b cenv) (fun _ _=>False) (XE base (cenv :: l) m s0) s):Raises w K prog loose mg mb (n + 1) (.ref a) ts m:=by
  intro ys A s G l base hfr hroom B R ra hst hfun
  refine wpAny_call (enter O B R hroom hf hbind hb (ROL.of_rep ra) fun env s₁ hc r' R₁ F hX kp st=>?_)
  have hfr':(A.deeper env).frames = some (env :: l):=by rw [deeper_frames,hfr]; rfl
  refine wpAny_mono (hbody _ s s₁ G l base env hfr' r' ⟨B,R₁,F,kp,st,hX,fun b h=>absurd h noFp,hc,hst,hfun⟩) (fun f s' h=>h.elim) fun v s' h=>?_
  obtain ⟨ex,fl,rfl,hfl,hx,hu,hs⟩:=h
  exact leave_X hfr' hc hx hfl fun h' x' u'=>⟨ex,some .none,rfl,.inr rfl,x',hu.trans u',by obtain ⟨h1,t1,rfl⟩:=hs; exact ⟨_,_,rfl⟩⟩
end
end Mine
end
section
open PySem PySem.W PySem.Calls PySem.SeqAt PyProof.Rows
namespace Mine
section
variable {prog:Program} {w:World} {A:Around} {E:Value → Shared → Prop} {s s0 s':Shared} {G G':Gh} {ρ ρ':Ro} {z z' z1:Zo} {K:Frag} {Pr:Prg} {loose:List S} {mg mb:S → Option Value}
variable {cenv:Env} {ks:Ks} {e e' e1:En} {n:Nat} {base:Heap} {l:List Env} {m:S}
theorem execs_pre {P:Flow → Shared → Prop} {rest:List Stmt} (n:Nat) (Q:∀ k,k ≤ n → AllOk prog w K Pr loose mg mb k) (pre:List Stmt) (e:En) (z:Zo) (s:Shared) (G:Gh) (ρ:Ro) (h:exs Pr n ks pre e z = some (.next,e1,z1)) (r:Room n A) (B:Base K prog loose mg mb G) (R:ZRel w.params G ρ z s.heap) (F:FRel w.params G ρ cenv ks e s.heap)
    (hk:∀ G' ρ' s',Grow (XF cenv ks) G ρ s G' ρ' s' → ZRel w.params G' ρ' z1 s'.heap → FRel w.params G' ρ' cenv ks e1 s'.heap → wpAny (model prog w) A (execs rest cenv) P E s'):wpAny (model prog w) A (execs (pre ++ rest) cenv) P E s:=by
  induction n generalizing pre e z s G ρ with
  | zero=>exact mt h
  | succ n ih =>
    induction pre using List.casesOn with
    | nil =>
      refine so3 (C:=fun _ e1 z1=>(∀ G' ρ' s',Grow (XF cenv ks) G ρ s G' ρ' s' → ZRel w.params G' ρ' z1 s'.heap → FRel w.params G' ρ' cenv ks e1 s'.heap → wpAny (model prog w) A (execs rest cenv) P E s') → wpAny (model prog w) A (execs ([] ++ rest) cenv) P E s) (show some (_,_,_) = some (_,_,_) from h) (fun hk=>hk G ρ s .refl R F) hk
    | cons t ts =>
      refine bd3 h fun fl1 e2 z2 h1 h2=>wpAny_execs_cons (wpAny_mono ((Q n (Nat.le_succ n)).ex _ _ _ _ _ _ _ h1 A E s G ρ cenv r.pred B R F) (fun f s1 hf=>?_) fun _ _ h=>h)
      obtain ⟨G1,ρ1,g1,R1,F1,hfl⟩:=hf
      clear h h1
      induction fl1 using Fl.casesOn with
      | next =>
        rw [show f = .next from hfl]
        exact ih (fun k hk=>Q k (Nat.le_succ_of_le hk)) ts e2 z2 s1 G1 ρ1 h2 r.pred (B.mono g1.g) R1 F1 fun G2 ρ2 s2 g2 R2 F2=>hk G2 ρ2 s2 (g1.trans g2) R2 F2
      | ret u=>exact nomatch (show some (Fl.ret u,e2,z2) = some (.next,e1,z1) from h2)
noncomputable def Fl.ends:Fl → Bool
  | .next=>false
  | .ret _=>true
theorem Fl.ends_of {f:Fl} (h:f.ends = false):f = .next:=by induction f using Fl.casesOn <;> first | rfl | exact ff h.symm
noncomputable def rzPre (P:Prg) (n i:Nat) (a:Addr) (ts:List V):Option (Ks × En × Zo × Stmt) :=
  (P.func a).bind fun fd=>(bindPars (fd.params.args.map (·.arg)) ts (P.dfl a)).bind fun e=>(bodyS fd.body).bind fun b=>(exs P n fd.scope.names (b.take i) e []).bind fun q=>if q.1.ends = true then none else (b[i]?).map fun st=>(fd.scope.names,q.2.1,q.2.2,st)
theorem split_at {b:List Stmt} {i:Nat} {st:Stmt} (h:b[i]? = some st):b = b.take i ++ (st :: b.drop (i + 1)):=by
  obtain ⟨hi,hg⟩:=List.getElem?_eq_some_iff.mp h
  rw [← hg,← List.drop_eq_getElem_cons hi,List.take_append_drop]
theorem pre_sound (O:POk K Pr) (Q:∀ k,k ≤ n → AllOk prog w K Pr loose mg mb k) {i:Nat} {a:Addr} {ts:List V} {p:Ks × En × Zo × Stmt} (h:rzPre Pr n i a ts = some p)
    (hst:∀ A s0 s G ρ l base cenv,A.frames = some (cenv :: l) → Room n A → FS w.params K prog loose mg mb base l cenv p.1 s0 G ρ p.2.1 p.2.2.1 s → wpAny (model prog w) A (exec p.2.2.2 cenv) (fun _ _=>False) (XE base (cenv :: l) m s0) s) :
    Raises w K prog loose mg mb (n + 1) (.ref a) ts m:=by
  refine bd1 h fun fd h1 h=>bd1 h fun e h2 h=>bd1 h fun b hb h=>bd1 h fun q h3 h=>ifbn h fun hq h=>mp1 h fun st' h4 h5=>?_
  subst h5
  refine callF_raise O h1 h2 (bodyS_of hb) fun A s0 s G l base cenv hfr r f=>?_
  rw [split_at h4]
  exact execs_pre n Q _ _ _ _ _ _ (h3.trans (congrArg (fun f=>some (f,q.2.1,q.2.2)) (Fl.ends_of hq))) r f.B f.R f.F fun G' ρ' s' g R F=>wpAny_execs_cons (wpAny_mono (hst A s0 s' G' ρ' l base cenv hfr r (f.step g R F)) (fun _ _ h=>h.elim) fun _ _ h=>h)
noncomputable def callXV {x:Expr} (v:EV x):Option (Expr × List Expr):=match v with
  | .const _ _ _=>none
  | .name _ _=>none
  | .tup _ _ _=>none
  | .list _ _=>none
  | .dict _ _ _=>none
  | .attr _ _ _=>none
  | .slice _ _ _ _ _ _=>none
  | .item _ _ _ _=>none
  | .meth _ _ _ _ _=>none
  | .call f args _ _=>some (f,args)
  | .bin _ _ _ _=>none
  | .cmp _ _ _ _=>none
  | .bool _ _ _=>none
  | .not _ _=>none
  | .neg _ _=>none
  | .ite _ _ _ _=>none
  | .comp _ _ _ _ _ _ _=>none
  | .bad _=>none
noncomputable def callX (x:Expr):Option (Expr × List Expr):=callXV (viewE x)
theorem callX_of {x:Expr} {i} (e:callX x = some i):isAttr i.1 = false ∧ ∃ p,x = .Call i.1 i.2 [] p:=Is.of (p:=fun i=>isAttr i.1 = false ∧ ∃ p,x = .Call i.1 i.2 [] p) (show Is (callXV (viewE x)) _ by
  clear e; generalize viewE x = v
  induction v using EV.casesOn with
  | call f a p h=>exact ⟨h,_,rfl⟩
  | _=>exact trivial) e
noncomputable def V.adr? (v:V):Option Addr:=v.fn?.bind rf?
theorem V.adr_of {v:V} {a:Addr} (h:v.adr? = some a):v = .fn (.ref a):=bd1 h fun f h1 h2=>(V.fn_of h1).trans (congrArg V.fn (rf_of h2))
noncomputable def rzCall (P:Prg) (n:Nat) (ks:Ks) (e:En) (z:Zo) (x:Expr):Option (Addr × List V) :=
  (callX x).bind fun c=>(ev P n ks c.1 e z).bind fun q=>q.1.adr?.bind fun a=>(evs P n ks c.2 e q.2).bind fun vs=>(frzs vs.1 vs.2).map fun ts=>(a,ts.1)
inductive CR (w:World) (K:Frag) (prog:Program) (loose:List S) (mg mb:S → Option Value) (base:Heap) (l:List Env) (m:S) (cenv:Env) (ks:Ks) (s0:Shared) (e:En) (G:Gh) (ρ:Ro) (s:Shared) (v:Value) (s':Shared):Prop
  | mk {G3 ρ3 z3 s3}:Grow NoX G ρ s G3 ρ3 s3 → FS w.params K prog loose mg mb base l cenv ks s0 G3 ρ3 e z3 s3 → XE base (cenv :: l) m s3 v s' → CR w K prog loose mg mb base l m cenv ks s0 e G ρ s v s'
theorem call_go (Q:AllOk prog w K Pr loose mg mb n) {P:Value → Shared → Prop} {x:Expr} {r:Addr × List V} (h:rzCall Pr n ks e z x = some r) (hk:keepIn K (.ref r.1) = true) (H:Raises w K prog loose mg mb n (.ref r.1) r.2 m)
    (hfr:A.frames = some (cenv :: l)) (rm:Room n A) (f:FS w.params K prog loose mg mb base l cenv ks s0 G ρ e z s):wpAny (model prog w) A (eval x cenv) P (CR w K prog loose mg mb base l m cenv ks s0 e G ρ s) s:=by
  refine bd1 h fun c hc h=>bd2 h fun fv z1 h1 h=>bd1 h fun a ha h=>bd2 h fun vs z2 h3 h=>mp2 h fun ts z3 h5 h=>?_
  subst h
  obtain ⟨hf,p,rfl⟩:=callX_of hc
  rw [call_eval hf]
  refine wpAny_bind (Q.ev.to h1 rm ⟨f.B,f.R,f.F⟩ fun y s1 G1 ρ1 g1 c1 r1=>r1.fnE (V.adr_of ha) (callWith_sound (evs_noStar h3) (keeps_K hk) (Q.evs.to h3 rm c1 fun ys s2 G2 ρ2 g2 c2 r2=>?_)))
  obtain ⟨G3,g3,R3,r3⟩:=frzs_ok (X:=NoX) h5 c2.R r2
  have g:=(g1.trans g2).trans g3
  have f3:=f.step0 g R3
  exact ⟨f3.B.kin R3,wpAny_mono (H _ A s2 G3 (cenv :: l) base hfr rm f3.B (zrel0 R3) r3 f3.stays f3.frames) (fun _ _ h=>h.elim) fun v s3 h3=>⟨g,f3,h3⟩⟩
theorem call_raise (Q:AllOk prog w K Pr loose mg mb n) {P:Value → Shared → Prop} {x:Expr} {r:Addr × List V} (h:rzCall Pr n ks e z x = some r) (hk:keepIn K (.ref r.1) = true) (H:Raises w K prog loose mg mb n (.ref r.1) r.2 m)
    (hfr:A.frames = some (cenv :: l)) (rm:Room n A) (f:FS w.params K prog loose mg mb base l cenv ks s0 G ρ e z s):wpAny (model prog w) A (eval x cenv) P (XE base (cenv :: l) m s0) s :=
  wpAny_mono (call_go Q h hk H hfr rm f) (fun _ _ h=>h) fun _ _ h=>let ⟨_,f,x⟩:=h; f.xe x
noncomputable def twoX:List Expr → Option (Expr × Expr)
  | []=>none
  | a :: r=>match r with
    | []=>none
    | b :: r=>if r.isEmpty then some (a,b) else none
theorem twoX_of {l:List Expr} {i} (e:twoX l = some i):l = [i.1,i.2]:=Is.of (p:=fun i=>l = [i.1,i.2]) (by clear e; induction l using List.casesOn with
  | nil=>exact trivial
  | cons b r=>induction r using List.casesOn with
    | nil=>exact trivial
    | cons c r=>induction r using List.casesOn <;> first | exact trivial | exact rfl) e
noncomputable def rzArg2 (P:Prg) (n:Nat) (ks:Ks) (e:En) (z:Zo) (x:Expr):Option (Addr × Addr × List V) :=
  (callX x).bind fun c=>(twoX c.2).bind fun t=>(ev P n ks c.1 e z).bind fun q=>q.1.adr?.bind fun a=>(ev P n ks t.1 e q.2).bind fun u=>(rzCall P n ks e u.2 t.2).map fun r=>(a,r)
theorem rzCall_noStar {x:Expr} {r:Addr × List V} (h:rzCall Pr n ks e z x = some r) {xs:List Expr}:starEach (x :: xs) cenv = (false,eval x cenv) :: starEach xs cenv :=
  bd1 h fun c hc _=>by
    obtain ⟨_,p,rfl⟩:=callX_of hc
    rfl
theorem arg_raise (Q:AllOk prog w K Pr loose mg mb n) {P:Value → Shared → Prop} {x:Expr} {r:Addr × Addr × List V} (h:rzArg2 Pr n ks e z x = some r) (hkb:keepIn K (.ref r.1) = true) (hk:keepIn K (.ref r.2.1) = true) (H:Raises w K prog loose mg mb n (.ref r.2.1) r.2.2 m)
    (hfr:A.frames = some (cenv :: l)) (rm:Room n A) (f:FS w.params K prog loose mg mb base l cenv ks s0 G ρ e z s):wpAny (model prog w) A (eval x cenv) P (XE base (cenv :: l) m s0) s:=by
  refine bd1 h fun c hc h=>bd1 h fun t ht h=>bd2 h fun fv z1 h1 h=>bd1 h fun a ha h=>bd2 h fun v z2 h3 h=>mp1 h fun r' h5 h=>?_
  subst h
  obtain ⟨hf,p,rfl⟩:=callX_of hc
  have es:starEach c.2 cenv = [(false,eval t.1 cenv),(false,eval t.2 cenv)]:=by rw [twoX_of ht,ev_noStar h3,rzCall_noStar h5]; rfl
  rw [call_eval hf]
  refine wpAny_bind (Q.ev.to h1 rm ⟨f.B,f.R,f.F⟩ fun y s1 G1 ρ1 g1 c1 r1=>r1.fnE (V.adr_of ha) (callWith_sound (by rw [es]; rfl) (keeps_K hkb) ?_))
  rw [es]
  exact spliced_cons (Q.ev.to h3 rm c1 fun u s2 G2 ρ2 g2 c2 r2=>spliced_cons (call_raise Q h5 hk H hfr rm (f.step0 (g1.trans g2) c2.R)))
noncomputable def asgXV {s:Stmt} (v:SV s):Option (Expr × Expr):=match v with
  | .expr _ _=>none
  | .retS _ _=>none
  | .ret _=>none
  | .asg t x _=>some (t,x)
  | .aug _ _ _ _=>none
  | .ite _ _ _ _=>none
  | .whl _ _ _=>none
  | .each _ _ _ _ _=>none
  | .bad _=>none
noncomputable def asgX (st:Stmt):Option (Expr × Expr):=asgXV (viewT st)
theorem asgX_of {x:Stmt} {i} (e:asgX x = some i):∃ p,x = .Assign [i.1] i.2 p:=Is.of (p:=fun i=>∃ p,x = .Assign [i.1] i.2 p) (show Is (asgXV (viewT x)) _ by
  clear e; generalize viewT x = v
  induction v using SV.casesOn <;> first | exact trivial | exact ⟨_,rfl⟩) e
noncomputable def plainT (x:Expr):Bool:=isTup x || x.ctorIdx == 23
noncomputable def rzAsg (st:Stmt):Option Expr:=(asgX st).bind fun q=>if plainT q.1 then some q.2 else none
theorem plain_stores {t:Expr} {c:Expr × List Expr} {p:Pos} (h:plainT t = true):swappedStores [t] (.Call c.1 c.2 [] p) cenv = pure none ∧ (assignEach [t] cenv).map (·.2) = [assign t cenv]:=by
  induction t using Expr.casesOn <;> first | exact ff h | exact ⟨rfl,rfl⟩
theorem rzAsg_raise {st:Stmt} {x:Expr} {c:Expr × List Expr} {P:Flow → Shared → Prop} (hst:rzAsg st = some x) (hc:callX x = some c) (h:wpAny (model prog w) A (eval x cenv) (fun _ _=>False) E s):wpAny (model prog w) A (exec st cenv) P E s:=by
  refine bd1 hst fun q hq hst=>ifb hst fun ht hst=>?_
  obtain rfl:=Option.some.inj hst
  obtain ⟨p,rfl⟩:=asgX_of hq
  obtain ⟨_,p',e⟩:=callX_of hc
  rw [e] at h ⊢
  exact assign_go rfl (plain_stores ht).1 (plain_stores (c:=c) (p:=p') ht).2 (wpAny_mono h (fun _ _ q=>q.elim) fun _ _ q=>q)
theorem fn_call (O:POk K Pr) (Q:∀ k,k ≤ n → AllOk prog w K Pr loose mg mb k) {i:Nat} {b:Addr} {ts:List V} {r:Addr × List V} (h:((rzPre Pr n i b ts).bind fun p=>(rzAsg p.2.2.2).bind fun x=>rzCall Pr n p.1 p.2.1 p.2.2.1 x) = some r) (hk:keepIn K (.ref r.1) = true)
    (H:Raises w K prog loose mg mb n (.ref r.1) r.2 m):Raises w K prog loose mg mb (n + 1) (.ref b) ts m :=
  bd1 h fun p h1 h2=>bd1 h2 fun x h3 h4=>pre_sound O Q h1 fun A s0 s G ρ l base cenv hfr rm f=>bd1 h4 fun c hc _=>rzAsg_raise h3 hc (call_raise (Q n (Nat.le_refl n)) h4 hk H hfr rm f)
theorem fn_arg (O:POk K Pr) (Q:∀ k,k ≤ n → AllOk prog w K Pr loose mg mb k) {i:Nat} {b:Addr} {ts:List V} {r:Addr × Addr × List V} (h:((rzPre Pr n i b ts).bind fun p=>(rzAsg p.2.2.2).bind fun x=>rzArg2 Pr n p.1 p.2.1 p.2.2.1 x) = some r) (hkc:keepIn K (.ref r.1) = true) (hk:keepIn K (.ref r.2.1) = true)
    (H:Raises w K prog loose mg mb n (.ref r.2.1) r.2.2 m):Raises w K prog loose mg mb (n + 1) (.ref b) ts m :=
  bd1 h fun p h1 h2=>bd1 h2 fun x h3 h4=>pre_sound O Q h1 fun A s0 s G ρ l base cenv hfr rm f=>bd1 h4 fun c hc _=>rzAsg_raise h3 hc (arg_raise (Q n (Nat.le_refl n)) h4 hkc hk H hfr rm f)
end
end Mine
end
section
open PySem PySem.W PySem.Calls PySem.SeqAt PyProof.Rows
namespace Mine
section
variable {prog:Program} {w:World} {A:Around} {E:Value → Shared → Prop} {s s0 s':Shared} {G G':Gh} {ρ ρ':Ro} {z z' z1:Zo} {K:Frag} {Pr:Prg} {loose:List S} {mg mb:S → Option Value}
variable {cenv:Env} {ks:Ks} {e e' e1:En} {n:Nat} {base:Heap} {l:List Env} {m:S}
inductive JF:Expr → Type
  | js (vs p):JF (.JoinedStr vs p)
  | fv (x c f p):JF (.FormattedValue x c f p)
  | bad (x):JF x
noncomputable def viewF:(x:Expr) → JF x
  | .JoinedStr vs p=>.js vs p
  | .FormattedValue x c f p=>.fv x c f p
  | x=>.bad x
noncomputable def JF.js? {x:Expr} (v:JF x):Option (List Expr):=match v with
  | .js vs _=>some vs
  | .fv _ _ _ _=>none
  | .bad _=>none
noncomputable def JF.fv? {x:Expr} (v:JF x):Option Expr:=match v with
  | .js _ _=>none
  | .fv x c f _=>if c = -1 ∧ f.isNone = true then some x else none
  | .bad _=>none
noncomputable def jsX (x:Expr):Option (Expr × Expr × Expr):=(viewF x).js?.bind fun vs=>match vs with
  | []=>none
  | a :: r=>(twoX r).bind fun t=>(viewF t.1).fv?.map fun y=>(a,y,t.2)
theorem js_of {x:Expr} {i} (e:(viewF x).js? = some i):∃ p,x = .JoinedStr i p:=Is.of (p:=fun i=>∃ p,x = .JoinedStr i p) (by
  clear e; generalize viewF x = v
  induction v using JF.casesOn <;> first | exact trivial | exact ⟨_,rfl⟩) e
theorem fv_of {x:Expr} {i} (e:(viewF x).fv? = some i):∃ p,x = .FormattedValue i (-1) none p:=by
  revert e
  generalize viewF x = v
  induction v using JF.casesOn with
  | fv y c f p =>
    refine fun e=>ifs e fun h e=>?_
    obtain rfl:=Option.some.inj e
    obtain ⟨rfl,h⟩:=h
    obtain rfl:=Option.isNone_iff_eq_none.mp h
    exact ⟨_,rfl⟩
  | _=>exact fun e=>mt e
theorem jsX_of {x:Expr} {i} (e:jsX x = some i):∃ p p',x = .JoinedStr [i.1,.FormattedValue i.2.1 (-1) none p',i.2.2] p:=by
  refine bd1 e fun vs h e=>?_
  obtain ⟨p,rfl⟩:=js_of h
  clear h
  induction vs using List.casesOn with
  | nil=>exact mt e
  | cons a r =>
    replace e:((twoX r).bind fun t=>(viewF t.1).fv?.map fun y=>(a,y,t.2)) = some i:=e
    refine bd1 e fun t ht e=>mp1 e fun y hy e=>?_
    subst e
    obtain ⟨p',h⟩:=fv_of hy
    exact ⟨p,p',by rw [twoX_of ht,h]⟩
noncomputable def rzTxt (P:Prg) (n:Nat) (ks:Ks) (e:En) (z:Zo) (x:Expr):Option S:=(jsX x).elim ((ev P n ks x e z).bind fun a=>a.1.str?) fun t =>
  (ev P n ks t.1 e z).bind fun a=>a.1.str?.bind fun a'=>(ev P n ks t.2.1 e a.2).bind fun b=>b.1.str?.bind fun b'=>(ev P n ks t.2.2 e b.2).bind fun c=>c.1.str?.bind fun c' =>
    if (Str.empty ++ a').length ≤ 1000 ∧ b'.length ≤ 1000 ∧ (Str.empty ++ a' ++ b').length ≤ 1000 ∧ (Str.empty ++ a' ++ b' ++ c').length ≤ 1000 then some (Str.empty ++ a' ++ b' ++ c') else none
theorem oe {α β:Type} {o:Option α} {f:α → Option β} {d:Option β} {r:β} {C:Prop} (h:o.elim d f = some r) (k1:∀ a,o = some a → f a = some r → C) (k2:d = some r → C):C:=by
  cases o with
  | none=>exact k2 h
  | some a=>exact k1 a rfl h
theorem rzTxt_noStar {x:Expr} {r:S} (h:rzTxt Pr n ks e z x = some r) {xs:List Expr}:starEach (x :: xs) cenv = (false,eval x cenv) :: starEach xs cenv :=
  oe h (fun t ht _=>by obtain ⟨p,p',rfl⟩:=jsX_of ht; rfl) fun h=>bd1 h fun _ h _=>ev_noStar h
theorem line1000 {k:Nat} (h:k ≤ 1000):k ≤ sizeLine:=Nat.le_trans h (by rw [sizeLine_eq]; omega)
inductive TXO (w:World) (K:Frag) (prog:Program) (loose:List S) (mg mb:S → Option Value) (base:Heap) (l:List Env) (m:S) (cenv:Env) (ks:Ks) (s0:Shared) (e:En) (v:Value) (s1:Shared):Prop
  | mk {tk G1 ρ1 z1}:v = .str m tk → FS w.params K prog loose mg mb base l cenv ks s0 G1 ρ1 e z1 s1 → TXO w K prog loose mg mb base l m cenv ks s0 e v s1
theorem txt_ok (Q:AllOk prog w K Pr loose mg mb n) {x:Expr} (h:rzTxt Pr n ks e z x = some m) (r:Room n A) (f:FS w.params K prog loose mg mb base l cenv ks s0 G ρ e z s) :
    wpAny (model prog w) A (eval x cenv) (TXO w K prog loose mg mb base l m cenv ks s0 e) E s:=by
  refine oe h (fun t ht h=>?_) fun h=>bd2 h fun a z1 h1 h=>Q.ev.to h1 r ⟨f.B,f.R,f.F⟩ fun u s1 G1 ρ1 g1 c1 r1=>r1.strE (V.str_of h) fun t1=>⟨rfl,f.step0 g1 c1.R⟩
  obtain ⟨p1,p,rfl⟩:=jsX_of ht
  refine bd2 h fun a z1 h1 h=>bd1 h fun a' ha h=>bd2 h fun b z2 h2 h=>bd1 h fun b' hb h=>bd2 h fun c z3 h3 h=>bd1 h fun c' hc h=>ifs h fun hl h=>?_
  obtain rfl:=Option.some.inj h
  clear h ht
  refine JoinedStr_many (joinParts_cons (Q.ev.to h1 r ⟨f.B,f.R,f.F⟩ fun u s1 G1 ρ1 g1 c1 r1=>r1.strE (V.str_of ha) fun t1=>⟨line1000 hl.1,joinParts_cons (FormattedValue_plain (Q.ev.to h2 r c1 fun u s2 G2 ρ2 g2 c2 r2=>r2.strE (V.str_of hb) fun t2=>formatField_str (fun t' tk=>⟨line1000 hl.2.2.1,joinParts_cons (Q.ev.to (s:={ s2 with toks:=tk }) h3 r ⟨c2.B,c2.R,c2.F⟩ fun u s4 G4 ρ4 g4 c4 r4=>r4.strE (V.str_of hc) fun t4=>⟨line1000 hl.2.2.2,joinParts_nil ?_ (line1000 hl.2.2.2)⟩)⟩) (line1000 hl.2.1)))⟩))
  exact ⟨rfl,f.step0 ((g1.trans g2).trans ((Grow.pure ⟨_,_,rfl⟩ fun _ _ e=>e).trans (g4.trans (Grow.pure ⟨_,_,rfl⟩ fun _ _ e=>e)))) c4.R⟩
end
noncomputable def st0 (l:List Stmt) (k:Nat):Stmt:=(l.drop k).headD (.Pass ⟨0,0,0,0⟩)
noncomputable def pz:Pos:=⟨0,0,0,0⟩
noncomputable def nmz:Expr:=.Name "" pz
noncomputable def exQ:Expr → Expr × Pos
  | .Name x p=>(.Name x p,p)
  | .Attribute o _ p=>(o,p)
  | x=>(x,pz)
noncomputable def stQ:Stmt → (Expr × Expr) × Pos × List Stmt × List ExceptHandler
  | .Assign ts x p=>((ts.headD nmz,x),p,[],[])
  | .Expr x p=>((x,x),p,[],[])
  | .Return x p=>((x.getD nmz,nmz),p,[],[])
  | .Try b h _ _ p=>((nmz,nmz),p,b,h)
  | _=>((nmz,nmz),pz,[],[])
noncomputable def nmP (x:Expr):Pos:=(exQ x).2
noncomputable def atO (x:Expr):Expr:=(exQ x).1
noncomputable def asT (s:Stmt):Expr:=(stQ s).1.1
noncomputable def asX (s:Stmt):Expr:=(stQ s).1.2
noncomputable def asP (s:Stmt):Pos:=(stQ s).2.1
noncomputable def bodyAt (P:Prg) (a:Addr):List Stmt:=((P.func a).bind fun fd=>bodyS fd.body).getD []
noncomputable abbrev Bd48 (p1 p2 p3 p4:Pos):List Stmt:=[.Assign [.Attribute (.Name "self" p1) "message" p2] (.Name "message" p3) p4]
noncomputable def d48 (P:Prg) (v:Value) (m:S):Option (Option V × Option V × Option NameKind × Option NameKind) :=
  (P.func 48).bind fun fd=>(bindPars (fd.params.args.map (·.arg)) [.fn v,.str m] (P.dfl 48)).map fun e=>(e.lookup ("self":S),e.lookup ("message":S),fd.scope.names.lookup ("self":S),fd.scope.names.lookup ("message":S))
structure D48 (P:Prg) (m:S):Prop where
  d:∀ v,d48 P v m = some (some (V.fn v),some (V.str m),some NameKind.local,some NameKind.local)
  b:∃ p1 p2 p3 p4,(P.func 48).map (·.body) = some (.stmts (Bd48 p1 p2 p3 p4))
theorem d48_eq (w:Params) (v:Value) (m:S) (orb:Addr → Option (O → List V → Option (V × O))) (need:Nat) (orc:Addr → Option (List V → Option V)):d48 (prL (KP w) need orc orb) v m = some (some (V.fn v),some (V.str m),some NameKind.local,some NameKind.local):=by kernel_rfl
noncomputable def a48 (P:Prg):Stmt:=st0 (bodyAt P 48) 0
theorem b48_eq (w:Params) (orb:Addr → Option (O → List V → Option (V × O))) (need:Nat) (orc:Addr → Option (List V → Option V)):((prL (KP w) need orc orb).func 48).map (·.body) = some (.stmts (Bd48 (nmP (atO (asT (a48 (prL (KP w) need orc orb))))) (nmP (asT (a48 (prL (KP w) need orc orb)))) (nmP (asX (a48 (prL (KP w) need orc orb)))) (asP (a48 (prL (KP w) need orc orb))))):=by kernel_rfl
theorem D48.of (w:Params) (m:S) (orb:Addr → Option (O → List V → Option (V × O))) (need:Nat) (orc:Addr → Option (List V → Option V)):D48 (prL (KP w) need orc orb) m:=⟨fun v=>d48_eq w v m orb need orc,_,_,_,_,b48_eq w orb need orc⟩
section
variable {prog:Program} {w:World} {A:Around} {E:Value → Shared → Prop} {s:Shared} {G:Gh} {Pr:Prg} {loose:List S} {mg mb:S → Option Value} {n:Nat} {m:S}
theorem nameV_l {P:Prg} {ks:Ks} {x:S} {e:En} {z:Zo} {v:V} (k:ks.lookup x = some .local) (h:e.lookup x = some v):nameV P ks x e z = some (v,z):=by
  unfold nameV
  rw [k]
  show (e.lookup x).map _ = _
  rw [h]
  rfl
theorem nameV_g {P:Prg} {ks:Ks} {x:S} {e:En} {z:Zo} {v:V} (k:ks.lookup x = some .globalImplicit) (h:P.glob x = some v):nameV P ks x e z = some (v,z):=by
  unfold nameV
  rw [k]
  show (P.glob x).map _ = _
  rw [h]
  rfl
theorem name_ev {P:Prg} {n:Nat} {ks:Ks} {x:S} {p:Pos} {e:En} {z:Zo} {v:V} (h:x ≠ "__debug__") (k:ks.lookup x = some .local) (h2:e.lookup x = some v):ev P (n + 1) ks (.Name x p) e z = some (v,z):=(if_neg h).trans (nameV_l k h2)
theorem release_ok {vs:List Value} {Q:Unit → Shared → Prop} (h:Q () s):wpAny (model prog w) A (release vs []) Q E s:=fun Γ p _=>by
  rw [Sem.wp_release]
  exact h
inductive Inited (m:S) (x:Addr) (o:Obj) (s:Shared) (r:Value) (s':Shared):Prop
  | mk {d tk'}:r = .none → s'.heap.get? x = some { cls:=o.cls,dict:=some d,data:=o.data,slots:=o.slots } → s'.heap.Ns1 d (fun y=>if y = "message" then some (.str m tk') else none) →
      (∀ b ob,b ≠ x → s.heap.get? b = some ob → s'.heap.get? b = some ob) → (∃ h t,s' = { s with heap:=h,toks:=t }) → Inited m x o s r s'
theorem init_call (O:POk (KP w.params) Pr) (Q:∀ k,k ≤ n + 2 → AllOk prog w (KP w.params) Pr loose mg mb k) {x:Addr} {tk:Tok} {o:Obj} {vs:Array Value} (hd:D48 Pr m) (r:Room (n + 3) A) (B:Base (KP w.params) prog loose mg mb G) (R:ZRel w.params G [] [] s.heap)
    (hx:s.heap.get? x = some o) (hc:o.cls = .ref 51) (hdn:o.dict = none) (hdt:o.data = .fields vs) :
    wpAny (model prog w) A (call (.ref 48) [.ref x,.str m tk]) (Inited m x o s) E s:=by
  obtain ⟨hd,p1,p2,p3,p4,hbd⟩:=hd
  refine bd1 (hd (.ref x)) fun fd hf hd=>mp1 hd fun e hbind hd=>?_
  obtain ⟨e1,hd⟩:=Prod.mk.inj hd
  obtain ⟨e2,hd⟩:=Prod.mk.inj hd
  obtain ⟨k1,k2⟩:=Prod.mk.inj hd
  rw [hf] at hbd
  have q:=Q (n + 2) (Nat.le_refl _)
  refine wpAny_call (enter O B R r hf hbind (Option.some.inj hbd) (.cons (Rep.fn (.ref x)) (.cons (Rep.str m tk) .nil)) fun env s₁ _ r' R₁ F hX kp st=>?_)
  refine wpAny_execs_cons (assign_go rfl rfl rfl (q.ev.to (name_ev (by decide) k2 e2) r' ⟨B,R₁,F⟩ fun u s2 G2 ρ2 g2 c2 r2=>r2.strE rfl fun tk2=>?_))
  show wpAny _ _ (do
      let ov ← holding [.str m tk2] (eval (.Name "self" p1) env)
      standAt p2.atName
      holding [.str m tk2,ov] (setAttr ov "message" (.str m tk2))
      release [.str m tk2,ov] []) _ _ _
  refine wpAny_bind (wpAny_holding (q.ev.to (name_ev (by decide) k1 e1) r' c2 fun y s3 G3 ρ3 g3 c3 r3=>r3.fnE rfl (wpAny_bind (wpAny_standAt (wpAny_bind (wpAny_holding ?_))))))
  have kp':∀ b ob,s.heap.get? b = some ob → s3.heap.get? b = some ob:=fun b ob h=>(g2.trans g3).fr b ob (kp b ob h) noFp id
  refine set_message (c3.B.kin c3.R) (kp' x o hx) hc hdn hdt fun h' tk' a1 a2 a3=>release_ok (wpAny_execs_nil (Inited.mk rfl a1 a2 (fun b ob hb hbs=>a3 b ob hb (kp' b ob hbs)) ?_))
  obtain ⟨h1,t1,rfl⟩:=st
  obtain ⟨h2,t2,rfl⟩:=(g2.trans g3).st
  exact ⟨_,_,rfl⟩
end
end Mine
end
section
open PySem PySem.W PySem.Calls PySem.SeqAt PyProof.Rows
namespace Mine
theorem keep51 (w:Params):keepIn (KP w) (.ref 51) = true:=by kernel_rfl
noncomputable def rsX:Stmt → Option Expr
  | .Raise x c _=>if c.isNone then x else none
  | _=>none
theorem rsX_of {s:Stmt} {i} (e:rsX s = some i):∃ p,s = .Raise (some i) none p:=by
  revert e
  induction s using Stmt.casesOn with
  | Raise x c p =>
    refine fun e=>ifb e fun h e=>?_
    rw [show x = some i from e,Option.isNone_iff_eq_none.mp h]
    exact ⟨_,rfl⟩
  | _=>exact fun e=>mt e
noncomputable def oneL {α:Type}:List α → Option α
  | []=>none
  | a :: r=>if r.isEmpty then some a else none
theorem oneL_of {α:Type} {l:List α} {i:α} (e:oneL l = some i):l = [i]:=Is.of (p:=fun i=>l = [i]) (by clear e; induction l using List.casesOn with
  | nil=>exact trivial
  | cons b r=>induction r using List.casesOn <;> first | exact trivial | exact rfl) e
noncomputable def ifXV {s:Stmt} (v:SV s):Option (Expr × List Stmt × List Stmt):=match v with
  | .expr _ _=>none
  | .retS _ _=>none
  | .ret _=>none
  | .asg _ _ _=>none
  | .aug _ _ _ _=>none
  | .ite t a b _=>some (t,a,b)
  | .whl _ _ _=>none
  | .each _ _ _ _ _=>none
  | .bad _=>none
noncomputable def ifX (st:Stmt):Option (Expr × List Stmt × List Stmt):=ifXV (viewT st)
theorem ifX_of {x:Stmt} {i} (e:ifX x = some i):∃ p,x = .If i.1 i.2.1 i.2.2 p:=Is.of (p:=fun i=>∃ p,x = .If i.1 i.2.1 i.2.2 p) (show Is (ifXV (viewT x)) _ by
  clear e; generalize viewT x = v
  induction v using SV.casesOn <;> first | exact trivial | exact ⟨_,rfl⟩) e
noncomputable def rzRaise (P:Prg) (n:Nat) (ks:Ks) (e:En) (z:Zo) (st:Stmt):Option S :=
  (rsX st).bind fun x=>(callX x).bind fun c=>(oneL c.2).bind fun t=>(ev P n ks c.1 e z).bind fun q=>q.1.adr?.bind fun a=>if a = 51 then rzTxt P n ks e q.2 t else none
section
variable {prog:Program} {w:World} {A:Around} {E:Value → Shared → Prop} {s s0 s':Shared} {G G':Gh} {ρ ρ':Ro} {z z' z1:Zo} {Pr:Prg} {loose:List S} {mg mb:S → Option Value}
variable {cenv:Env} {ks:Ks} {e e' e1:En} {n:Nat} {base:Heap} {l:List Env} {m:S}
theorem under_room {tk:Tok} (r:Room (n + 1) A):Room n (A.under (.builtin "type.__call__" ⟨.ref 51 :: [.str m tk],[]⟩)):=⟨r.hd,by
  show A.depth + 1 + n < _; have:=r.dp; omega,by
  show A.units + Code.cUnits (.builtin "type.__call__" ⟨.ref 51 :: [.str m tk],[]⟩) + 20 * n + 50 < _
  have h1:=r.un
  have h2:Code.cUnits (.builtin "type.__call__" ⟨.ref 51 :: [.str m tk],[]⟩) ≤ 10:=by
    have e:Code.frames (.builtin "type.__call__" ⟨.ref 51 :: [.str m tk],[]⟩) = 0:=rfl
    show 1 + 3 * Code.frames (.builtin "type.__call__" ⟨.ref 51 :: [.str m tk],[]⟩) ≤ 10
    rw [e]; decide
  omega⟩
theorem made_ok (O:POk (KP w.params) Pr) (Q:∀ k,k ≤ n + 4 → AllOk prog w (KP w.params) Pr loose mg mb k) (hd:D48 Pr m) {tk:Tok} (r:Room (n + 4) A) (f2:FS w.params (KP w.params) prog loose mg mb base l cenv ks s0 G ρ e z s) :
    wpAny (model prog w) A (call (.ref 51) [.str m tk]) (fun v s₁=>∃ e o vs,v = .ref e ∧ (KP w.params).In s₁.heap ∧ s₁.heap.get? e = some o ∧ o.cls = .ref 51 ∧ o.data = .fields vs ∧ vs[1]? = some .none ∧ XE base (cenv :: l) m s0 (.ref e) s₁) E s:=by
  refine make_ref (f2.B.kin f2.R) (by rw [sizeLine_eq]; show 1 ≤ _; omega) fun h' x hm=>?_
  obtain ⟨t,hx,hnt,ht⟩:=hm.there
  refine wpAny_mono (init_call (s:={ s with heap:=h' }) O (fun k hk=>Q k (Nat.le_trans hk (Nat.le_add_right _ 2))) hd (under_room r) f2.B ((zrel0 f2.R).keeps hm.keeps) hx rfl rfl rfl) (fun u s3 hu=>?_) fun _ _ h=>h
  obtain ⟨rfl,a1,a2,a3,a4⟩:=hu
  have kp:∀ b o,s.heap.get? b = some o → s3.heap.get? b = some o:=fun b o hb=>a3 b o (fun q=>nomatch hm.new.symm.trans ((congrArg s.heap.get? q).symm.trans hb)) (hm.keeps b o hb)
  refine ⟨rfl,x,_,_,rfl,(f2.B.kin f2.R).keeps kp,a1,rfl,rfl,rfl,x,none,rfl,.inl rfl,⟨fun b o hb=>kp b o (f2.stays b o hb),none_keeps f2.stays hm.new,f2.frames.of_keeps fun b o hb _=>⟨o,kp b o hb,rfl⟩,_,_,_,_,a1,rfl,rfl,rfl,Nat.lt_of_sub_eq_succ (n:=1) (m:=6) (l:=4) rfl,a2,rfl⟩,(up_of f2.up).trans (up_of kp),?_⟩
  obtain ⟨h1,t1,rfl⟩:=f2.st; obtain ⟨h2,t2,rfl⟩:=a4; exact ⟨_,_,rfl⟩
theorem raise_ok (O:POk (KP w.params) Pr) (Q:∀ k,k ≤ n + 4 → AllOk prog w (KP w.params) Pr loose mg mb k) (hd:D48 Pr m) {st:Stmt} {P:Flow → Shared → Prop} (h:rzRaise Pr (n + 4) ks e z st = some m) (r:Room (n + 4) A)
    (f:FS w.params (KP w.params) prog loose mg mb base l cenv ks s0 G ρ e z s):wpAny (model prog w) A (exec st cenv) P (XE base (cenv :: l) m s0) s:=by
  have q:=Q (n + 4) (Nat.le_refl _)
  refine bd1 h fun x hx h=>bd1 h fun c hc h=>bd1 h fun t ht h=>bd2 h fun fv z1 h1 h=>bd1 h fun a ha h=>ifs h fun h51 h2=>?_
  subst h51
  obtain ⟨pos',rfl⟩:=rsX_of hx
  obtain ⟨hf,pos,rfl⟩:=callX_of hc
  have es:starEach c.2 cenv = [(false,eval t cenv)]:=by rw [oneL_of ht,rzTxt_noStar h2]; rfl
  rw [arm_exec_Raise]
  refine wpAny_bind (wpAny_standAt ?_)
  show wpAny _ _ (raiseStmt cenv (some (do let v ← eval (.Call c.1 c.2 [] pos) cenv; standAt pos'; pure v)) none) _ _ _
  refine raise_made r.hd ?_
  rw [call_eval hf]
  refine wpAny_bind (wpAny_bind (q.ev.to h1 r ⟨f.B,f.R,f.F⟩ fun y s1 G1 ρ1 g1 c1 r1=>r1.fnE (V.adr_of ha) (callWith_sound (K:=KP w.params) (by rw [es]; rfl) (keeps_K (keep51 w.params)) ?_)))
  rw [es]
  refine spliced_cons (wpAny_mono (txt_ok q h2 r (f.step0 g1 c1.R)) (fun u s2 hu=>?_) fun _ _ h=>h)
  obtain ⟨rfl,f2⟩:=hu
  exact spliced_nil ⟨f2.B.kin f2.R,wpAny_mono (made_ok O Q hd r f2) (fun v s3 h=>wpAny_bind (wpAny_standAt (wpAny_pure h))) fun _ _ h=>h⟩
noncomputable def rzIf (P:Prg) (n:Nat) (ks:Ks) (e:En) (z:Zo) (st:Stmt):Option S :=
  (ifX st).bind fun q=>(oneL q.2.1).bind fun b=>(tst P n ks q.1 e z).bind fun c=>if c.1 = true then rzRaise P n ks e c.2 b else none
theorem if_raise (O:POk (KP w.params) Pr) (Q:∀ k,k ≤ n + 4 → AllOk prog w (KP w.params) Pr loose mg mb k) (hd:D48 Pr m) {st:Stmt} {P:Flow → Shared → Prop} (h:rzIf Pr (n + 4) ks e z st = some m) (r:Room (n + 4) A)
    (f:FS w.params (KP w.params) prog loose mg mb base l cenv ks s0 G ρ e z s):wpAny (model prog w) A (exec st cenv) P (XE base (cenv :: l) m s0) s:=by
  refine bd1 h fun q hq h=>bd1 h fun b hb h=>bd2 h fun c z1 h1 h=>ifb h fun hc h=>?_
  obtain ⟨p,rfl⟩:=ifX_of hq
  obtain rfl:c = true:=hc
  refine wpAny_If ((Q _ (Nat.le_refl _)).tst.to h1 r ⟨f.B,f.R,f.F⟩ fun s1 G1 ρ1 g1 c1=>?_)
  rw [if_pos rfl,oneL_of hb]
  exact wpAny_execs_cons (wpAny_mono (raise_ok O Q hd (P:=fun _ _=>False) h r (f.step0 g1 c1.R)) (fun _ _ h=>h.elim) fun _ _ h=>h)
theorem fn_if (O:POk (KP w.params) Pr) (Q:∀ k,k ≤ n + 4 → AllOk prog w (KP w.params) Pr loose mg mb k) (hd:D48 Pr m) {i:Nat} {a:Addr} {ts:List V} (h:((rzPre Pr (n + 4) i a ts).bind fun p=>rzIf Pr (n + 4) p.1 p.2.1 p.2.2.1 p.2.2.2) = some m) :
    Raises w (KP w.params) prog loose mg mb (n + 5) (.ref a) ts m :=
  bd1 h fun p h1 h2=>pre_sound O Q h1 fun A s0 s G ρ l base cenv _ r f=>if_raise O Q hd h2 r f
end
end Mine
end
section
open PySem PySem.W PySem.Calls PySem.SeqAt PyProof.Rows
namespace Mine
noncomputable abbrev one1:V:=vec0 .integer [some 1]
theorem z837 (w:Params):((rzPre (lv0 w) 200 2 837 [.none,.list [.tup [.none,symV]],.none]).bind fun p=>rzIf (lv0 w) 200 p.1 p.2.1 p.2.2.1 p.2.2.2) = some "unique() applies only to vectors":=by kernel_rfl
theorem z844 (w:Params):((rzPre (lv0 w) 200 3 844 [.none,.list [.tup [.none,symV]],.none]).bind fun p=>rzIf (lv0 w) 200 p.1 p.2.1 p.2.2.1 p.2.2.2) = some "duplicated() applies only to vectors":=by kernel_rfl
theorem z768 (w:Params):((rzPre (lv0 w) 200 1 768 [symV]).bind fun p=>rzIf (lv0 w) 200 p.1 p.2.1 p.2.2.1 p.2.2.2) = some "'match' requires vector arguments":=by kernel_rfl
theorem z775 (w:Params):((rzPre (lv0 w) 201 0 775 [symV,one1]).bind fun p=>(rzAsg p.2.2.2).bind fun x=>rzCall (lv0 w) 201 p.1 p.2.1 p.2.2.1 x) = some (768,[symV]):=by kernel_rfl
theorem z780 (w:Params):((rzPre (lv0 w) 202 0 780 [symV,one1]).bind fun p=>(rzAsg p.2.2.2).bind fun x=>rzCall (lv0 w) 202 p.1 p.2.1 p.2.2.1 x) = some (775,[symV,one1]):=by kernel_rfl
theorem z856 (w:Params):((rzPre (lv0 w) 203 3 856 [.none,.list [.tup [.none,symV],.tup [.none,one1]],.none]).bind fun p=>(rzAsg p.2.2.2).bind fun x=>rzCall (lv0 w) 203 p.1 p.2.1 p.2.2.1 x) = some (780,[symV,one1]):=by kernel_rfl
theorem z816 (w:Params):((rzPre (lv0 w) 200 0 816 [.none,.str "table"]).bind fun p=>rzIf (lv0 w) 200 p.1 p.2.1 p.2.2.1 p.2.2.2) = some "argument \"table\" is missing, with no default":=by kernel_rfl
theorem z861 (w:Params):((rzPre (lv0 w) 201 1 861 [.none,.list [.tup [.none,one1]],.none]).bind fun p=>(rzAsg p.2.2.2).bind fun x=>rzArg2 (lv0 w) 201 p.1 p.2.1 p.2.2.1 x) = some (780,816,[.none,.str "table"]):=by kernel_rfl
theorem kk (w:Params):([768,775,780,816,837,844,856,861].all fun a=>keepIn (KP w) (.ref a)) = true:=by kernel_rfl
theorem Raises.mono {w:World} {K:Frag} {prog:Program} {loose:List S} {mg mb:S → Option Value} {n k:Nat} {f:Value} {ts:List V} {m:S} (H:Raises w K prog loose mg mb n f ts m) (h:n ≤ k):Raises w K prog loose mg mb k f ts m :=
  fun ys A s G l base a r B R c d e=>H ys A s G l base a (r.less h) B R c d e
section
variable {prog:Program} {w:World} {loose:List S} {mg mb:S → Option Value}
theorem lv0_ok (n:Nat):∀ k,k ≤ n → AllOk prog w (KP w.params) (lv0 w.params) loose mg mb k :=
  all_ok (pok w.params 0 (fun _=>none) (fun _=>none) fun a h=>by rcases h with h | h <;> cases h) (fun a F h=>by cases h) (fun a F h=>by cases h) n
theorem pok0 (w:Params):POk (KP w) (lv0 w):=pok w 0 (fun _=>none) (fun _=>none) fun a h=>by rcases h with h | h <;> cases h
theorem d48_0 (m:S):D48 (lv0 w.params) m:=.of w.params m _ _ _
theorem keepA {a:Addr} (h:a ∈ [768,775,780,816,837,844,856,861]):keepIn (KP w.params) (.ref a) = true:=List.all_eq_true.mp (kk w.params) a h
theorem ra768:Raises w (KP w.params) prog loose mg mb 201 (.ref 768) [symV] "'match' requires vector arguments":=fn_if (pok0 _) (lv0_ok _) (d48_0 _) (z768 w.params)
theorem ra775:Raises w (KP w.params) prog loose mg mb 202 (.ref 775) [symV,one1] "'match' requires vector arguments":=fn_call (pok0 _) (lv0_ok _) (z775 w.params) (keepA (by decide)) ra768
theorem ra780:Raises w (KP w.params) prog loose mg mb 203 (.ref 780) [symV,one1] "'match' requires vector arguments":=fn_call (pok0 _) (lv0_ok _) (z780 w.params) (keepA (by decide)) ra775
theorem ra856:Raises w (KP w.params) prog loose mg mb 204 (.ref 856) [.none,.list [.tup [.none,symV],.tup [.none,one1]],.none] "'match' requires vector arguments":=fn_call (pok0 _) (lv0_ok _) (z856 w.params) (keepA (by decide)) ra780
theorem ra816:Raises w (KP w.params) prog loose mg mb 201 (.ref 816) [.none,.str "table"] "argument \"table\" is missing, with no default":=fn_if (pok0 _) (lv0_ok _) (d48_0 _) (z816 w.params)
theorem ra861:Raises w (KP w.params) prog loose mg mb 202 (.ref 861) [.none,.list [.tup [.none,one1]],.none] "argument \"table\" is missing, with no default":=fn_arg (pok0 _) (lv0_ok _) (z861 w.params) (keepA (by decide)) (keepA (by decide)) ra816
theorem ra837:Raises w (KP w.params) prog loose mg mb 201 (.ref 837) [.none,.list [.tup [.none,symV]],.none] "unique() applies only to vectors":=fn_if (pok0 _) (lv0_ok _) (d48_0 _) (z837 w.params)
theorem ra844:Raises w (KP w.params) prog loose mg mb 201 (.ref 844) [.none,.list [.tup [.none,symV]],.none] "duplicated() applies only to vectors":=fn_if (pok0 _) (lv0_ok _) (d48_0 _) (z844 w.params)
end
end Mine
end
section
open PySem PySem.W PySem.Calls PySem.SeqAt PyProof.Rows
namespace Mine
section
variable {prog:Program} {w:World} {A:Around} {E:Value → Shared → Prop} {s s0 s':Shared} {G G':Gh} {ρ ρ':Ro} {z z' z1:Zo} {K:Frag} {Pr:Prg} {loose:List S} {mg mb:S → Option Value}
variable {cenv:Env} {ks:Ks} {e e' e1:En} {n:Nat} {base:Heap} {l:List Env} {m:S}
theorem call_raise0 (Q:AllOk prog w K Pr loose mg mb n) {P:Value → Shared → Prop} {x:Expr} {r:Addr × List V} (h:rzCall Pr n ks e [] x = some r) (hk:keepIn K (.ref r.1) = true) (H:Raises w K prog loose mg mb n (.ref r.1) r.2 m)
    (hfr:A.frames = some (cenv :: l)) (rm:Room n A) (f:FS w.params K prog loose mg mb base l cenv ks s0 G [] e [] s):wpAny (model prog w) A (eval x cenv) P (XE base (cenv :: l) m s) s:=by
  refine wpAny_mono (call_go Q h hk H hfr rm f) (fun _ _ h=>h) fun v s3 h3=>?_
  obtain ⟨g,_,x,fl,a,b,c,d,st⟩:=h3
  refine ⟨x,fl,a,b,c,(up_of fun b o hb=>g.fr b o hb noFp id).trans d,?_⟩
  obtain ⟨h1,t1,rfl⟩:=g.st; obtain ⟨h2,t2,rfl⟩:=st; exact ⟨_,_,rfl⟩
theorem XAt.keeps {fl:Option Value} {x:Addr} {h h':Heap} (X:XAt base l m x fl h) (k:∀ b o,h.get? b = some o → h'.get? b = some o):XAt base l m x fl h':=by
  obtain ⟨st,nw,fr,o,d,vs,tk,ho,hc,hd,hdt,hsz,hn,tb⟩:=X
  refine ⟨fun b o hb=>k b o (st b o hb),nw,fr.of_keeps fun b o hb _=>⟨o,k b o hb,rfl⟩,o,d,vs,tk,k _ _ ho,hc,hd,hdt,hsz,hn.at fun o h=>k _ o h,?_⟩
  clear hdt hsz hn ho hc hd st nw fr
  induction fl using Option.casesOn with
  | none=>exact tb
  | some f =>
    obtain ⟨T,oT,ts,h1,h2,h3,h4,h5,h6⟩:=tb
    exact ⟨T,oT,ts,h1,h2,h3,k _ _ h4,h5,h6⟩
theorem ns_slots {h h':Heap} {d:Addr} {mA:Str → Option Value} (x:h.UpToSlots h') (hn:h.Ns d mA):h'.Ns d mA:=by
  obtain ⟨o,es,ep,ho,hd,r⟩:=hn
  obtain ⟨sl,hs⟩:=x d o ho fun vs q=>nomatch hd.symm.trans q
  exact ⟨_,es,ep,hs,hd,r⟩
theorem cell_slots {h h':Heap} {d:Addr} {v:Option Value} (x:h.UpToSlots h') (hn:h.IsCell d v):h'.IsCell d v:=by
  obtain ⟨o,ho,hd⟩:=hn
  obtain ⟨sl,hs⟩:=x d o ho fun vs q=>nomatch hd.symm.trans q
  exact ⟨_,hs,hd⟩
theorem FRel.slots {w:Params} {h h':Heap} (F:FRel w G ρ cenv ks e h) (x:h.UpToSlots h'):FRel w G ρ cenv ks e h':=by
  obtain ⟨mm,hn,hm⟩:=F.ns
  exact ⟨F.kind,F.names,F.glob,F.bui,F.lG,F.lF,⟨mm,ns_slots x hn,hm⟩,fun y hy=>by
    obtain ⟨c,ov,a1,a2,a3,a4,a5,a6⟩:=F.cell y hy
    exact ⟨c,ov,a1,cell_slots x a2,a3,a4,a5,a6⟩,F.cinj⟩
theorem ns_one {h:Heap} {a:Addr} {m1 m2:Str → Option Value} (x:h.Ns a m1) (y:h.Ns a m2) (k:Str):m1 k = m2 k:=by
  obtain ⟨o,es,ep,ho,hd,_,r⟩:=x
  obtain ⟨o',es',ep',ho',hd',_,r'⟩:=y
  rw [ho] at ho'; cases ho'
  rw [hd] at hd'; cases hd'
  rw [← r,← r']
end
end Mine
end
section
open PySem PySem.W PySem.Calls PySem.SeqAt PyProof.Rows
namespace Mine
noncomputable def tryB (s:Stmt):List Stmt:=(stQ s).2.2.1
noncomputable def tryH (s:Stmt):List ExceptHandler:=(stQ s).2.2.2
noncomputable def tryP (s:Stmt):Pos:=(stQ s).2.1
noncomputable def exX (s:Stmt):Expr:=(stQ s).1.1
noncomputable def exP (s:Stmt):Pos:=(stQ s).2.1
noncomputable def hdQ:ExceptHandler → Expr × List Stmt × Pos
  | .ExceptHandler t _ b p=>(t.getD nmz,b,p)
noncomputable def hdB (h:ExceptHandler):List Stmt:=(hdQ h).2.1
noncomputable def hdP (h:ExceptHandler):Pos:=(hdQ h).2.2
noncomputable def hdT (h:ExceptHandler):Expr:=(hdQ h).1
noncomputable abbrev Bd958 (x:Expr) (p1 p2 p3 p4 p5 p6 p7:Pos) (r:Stmt):List Stmt:=[.Try [.Expr x p1] [.ExceptHandler (some (.Name "Refusal" p2)) (some "refusal") [.Return (some (.Attribute (.Name "refusal" p3) "message" p4)) p5] p6] [] [] p7,r]
noncomputable def t958 (P:Prg):Stmt:=st0 (bodyAt P 958) 0
noncomputable def h958 (P:Prg):ExceptHandler:=(tryH (t958 P)).headD (.ExceptHandler none none [] ⟨0,0,0,0⟩)
noncomputable def x958 (P:Prg):Expr:=exX (st0 (tryB (t958 P)) 0)
noncomputable def a958 (P:Prg):Expr:=exX (st0 (hdB (h958 P)) 0)
theorem body958 (w:Params):((lv0 w).func 958).map (·.body) = some (.stmts (Bd958 (x958 (lv0 w)) (exP (st0 (tryB (t958 (lv0 w))) 0)) (nmP (hdT (h958 (lv0 w)))) (nmP (atO (a958 (lv0 w)))) (nmP (a958 (lv0 w))) (exP (st0 (hdB (h958 (lv0 w))) 0)) (hdP (h958 (lv0 w))) (tryP (t958 (lv0 w))) (st0 (bodyAt (lv0 w) 958) 1))):=by kernel_rfl
noncomputable def rz958 (P:Prg) (n:Nat) (x:Expr) (ts:List V):Option ((Addr × List V) × Option NameKind × Option NameKind × Option V × Option NameKind × Bool × Bool) :=
  (P.func 958).bind fun fd=>(bindPars (fd.params.args.map (·.arg)) ts (P.dfl 958)).bind fun e=>(rzCall P n fd.scope.names e [] x).map fun r =>
    (r,fd.scope.names.lookup ("refusal":S),fd.scope.names.lookup ("Refusal":S),P.glob ("Refusal":S),fd.scope.names.lookup ("deed":S),(e.lookup ("deed":S)).isSome,fd.scope.names.all fun p=>p.2 != .cell)
noncomputable abbrev Sh958 (r:Addr × List V):Option ((Addr × List V) × Option NameKind × Option NameKind × Option V × Option NameKind × Bool × Bool) :=
  some (r,some NameKind.local,some NameKind.globalImplicit,some (V.fn (.ref 51)),some NameKind.local,true,true)
theorem y837 (w:Params):rz958 (lv0 w) 210 (x958 (lv0 w)) [.fn (.ref 837),.list [.tup [.none,symV]]] = Sh958 (837,[.none,.list [.tup [.none,symV]],.none]):=by kernel_rfl
theorem y844 (w:Params):rz958 (lv0 w) 210 (x958 (lv0 w)) [.fn (.ref 844),.list [.tup [.none,symV]]] = Sh958 (844,[.none,.list [.tup [.none,symV]],.none]):=by kernel_rfl
theorem y856 (w:Params):rz958 (lv0 w) 210 (x958 (lv0 w)) [.fn (.ref 856),.list [.tup [.none,symV],.tup [.none,one1]]] = Sh958 (856,[.none,.list [.tup [.none,symV],.tup [.none,one1]],.none]):=by kernel_rfl
theorem y861 (w:Params):rz958 (lv0 w) 210 (x958 (lv0 w)) [.fn (.ref 861),.list [.tup [.none,one1]]] = Sh958 (861,[.none,.list [.tup [.none,one1]],.none]):=by kernel_rfl
section
variable {prog:Program} {w:World} {A:Around} {E:Value → Shared → Prop} {s s0 s':Shared} {G G':Gh} {ρ ρ':Ro} {z z' z1:Zo} {Pr:Prg} {loose:List S} {mg mb:S → Option Value}
variable {cenv:Env} {ks:Ks} {e e' e1:En} {n:Nat} {base:Heap} {l:List Env} {m:S}
def Refused (w:World) (prog:Program) (loose:List S) (mg mb:S → Option Value) (n:Nat) (ts:List V) (m:S):Prop :=
  ∀ ys A s G l base E,A.frames = some l → Room n A → Base (KP w.params) prog loose mg mb G → ZRel w.params G [] [] s.heap → RepL w.params G ys ts → base.StaysIn s.heap → s.heap.FunFrames base l → (∀ a o,G a = some o → base.get? a = some o) →
    wpAny (model prog w) A (call (.ref 958) ys) (fun x s'=>(∃ tk,x = .str m tk) ∧ base.StaysIn s'.heap ∧ s.heap.UpToSlots s'.heap ∧ ∃ h tk,s' = { s with heap:=h,toks:=tk }) E s
theorem catch_ok (O:POk (KP w.params) Pr) {p2 p3 p4 p5 p6:Pos} {hs:List ExceptHandler} {x:Addr} {Q:Flow → Shared → Prop} (f:FS w.params (KP w.params) prog loose mg mb base l cenv ks s0 G [] e [] s) (hG:∀ a o,G a = some o → base.get? a = some o)
    (k1:ks.lookup ("refusal":S) = some .local) (k2:ks.lookup ("Refusal":S) = some .globalImplicit) (k3:Pr.glob ("Refusal":S) = some (.fn (.ref 51))) (k4:ks.lookup ("deed":S) = some .local) (k5:(e.lookup ("deed":S)).isSome = true) (k6:(ks.all fun p=>p.2 != .cell) = true)
    (hx:XAt base (cenv :: l) m x (some .none) s'.heap) (hu:s.heap.UpToSlots s'.heap) (hs':∃ h tk,s' = { s with heap:=h,toks:=tk })
    (hq:∀ tk s'',base.StaysIn s''.heap → s0.heap.UpToSlots s''.heap → (∃ h tk,s'' = { s0 with heap:=h,toks:=tk }) → Q (.ret (.str m tk)) s'') :
    wpAny (model prog w) A (handleBy (.ref x) cenv (.ExceptHandler (some (.Name "Refusal" p2)) (some "refusal") [.Return (some (.Attribute (.Name "refusal" p3) "message" p4)) p5] p6 :: hs)) Q E s':=by
  have nocell:∀ y,ks.lookup y ≠ some .cell:=fun y hy=>by
    have:=List.all_eq_true.mp k6 _ (mem_of_lookup hy)
    simp at this
  have F1:FRel w.params G [] cenv ks e s'.heap:=f.F.slots hu
  have R1:ZRel w.params G [] [] s'.heap:=⟨rfl,fun a o h=>hx.stays a o (hG a o h),fun k p o h=>by simp at h,fun k p o h=>by simp at h,fun i j p q oi oj _ h=>by simp at h,fun a h=>absurd h noFp⟩
  refine wpAny_handleBy_cons (codeAny_handlers_test (wpAny_mono (name_sound O f.B R1 F1 (v:=.fn (.ref 51)) (z':=[]) (by decide) (nameV_g k2 k3)) (fun c s1 hc=>?_) fun _ _ y=>y)) (by intro q; cases q)
  obtain ⟨G2,ρ2,g2,R2,r2⟩:=hc
  cases r2.fn_inv
  have kp2:∀ b o,s'.heap.get? b = some o → s1.heap.get? b = some o:=fun b o hb=>g2.fr b o hb noFp id
  have x2:=hx.keeps kp2
  have hC:s1.heap.get? 51 = some refC:=(f.B.mono g2.g).kin R2 _ _ (k51 w.params)
  obtain ⟨oe,d,vs,tkm,he,hcls,hd,hdt,hsz,hn,tb⟩:=x2.ex
  have exm:∀ (t:Shared) (Q':Bool → Shared → Prop) (E') (A':Around),t.heap.get? 51 = some refC → t.heap.get? x = some oe → Q' true t → wpAny (model prog w) A' (excMatches (.ref x) (.ref 51)) Q' E' t:=fun t Q' E' A' a b c=>by
    obtain ⟨hh,g,dd,tk,os⟩:=t
    exact wpAny_excMatches_sub_self a b hcls (by decide) c
  refine exm s1 _ _ _ hC he ?_
  show codeAny _ _ _ _ _
  refine codeAny_handlers_suite_as (flight_X x2 fun h3 x3 u3=>?_)
  have u13:s.heap.UpToSlots h3:=(hu.trans (up_of kp2)).trans u3
  have F3:FRel w.params G [] cenv ks e h3:=f.F.slots u13
  have R3:ZRel w.params G [] [] h3:=⟨rfl,fun a o h=>x3.stays a o (hG a o h),fun k p o h=>by simp at h,fun k p o h=>by simp at h,fun i j p q oi oj _ h=>by simp at h,fun a h=>absurd h noFp⟩
  refine wpAny_mono (store_sound (s:={ s1 with heap:=h3 }) (v:=.fn (.ref x)) R3 F3 (.inl k1) (Rep.fn (.ref x))) (fun _ s4 h4=>?_) fun _ _ y=>y
  obtain ⟨g4,R4,F4⟩:=h4
  have noX:∀ b o,h3.get? b = some o → b ≠ cenv.locals → s4.heap.get? b = some o:=fun b o hb hne=>g4.fr b o hb noFp fun q=>by
    rcases q with q | ⟨y,hy,_⟩
    · exact hne q
    · exact nocell y hy
  obtain ⟨oe,d,vs,tkm,he,hcls,hd,hdt,hsz,hn,tb⟩:=x3.ex
  obtain ⟨mL,nL,hL⟩:=F3.ns
  have xne:x ≠ cenv.locals:=fun q=>by
    obtain ⟨o,es,ep,ho,hd',_⟩:=nL
    rw [← q,he] at ho; cases ho; rw [hdt] at hd'; cases hd'
  have dne:d ≠ cenv.locals:=fun q=>by
    obtain ⟨V,hV⟩:=Option.isSome_iff_exists.mp k5
    obtain ⟨v,hv,_⟩:=hL _ V k4 hV
    have:=ns_one nL (q ▸ hn.ns) "deed"
    rw [hv] at this
    have hne:¬ (("deed":S) = "message"):=by decide
    rw [if_neg hne] at this
    cases this
  refine wpAny_execs_cons (wpAny_Return_some (attr_eval rfl (wpAny_mono (name_sound O f.B R4 F4 (x:="refusal") (v:=.fn (.ref x)) (z':=[]) (by decide) (nameV_l k1 (by rw [setE_lookup,if_pos rfl]))) (fun v s5 h5=>?_) fun _ _ y=>y)))
  obtain ⟨G5,ρ5,g5,R5,r5⟩:=h5
  cases r5.fn_inv
  have kp5:∀ b o,s4.heap.get? b = some o → s5.heap.get? b = some o:=fun b o hb=>g5.fr b o hb noFp id
  refine get_message ((f.B.mono g5.g).kin R5) (kp5 _ _ (noX _ _ he xne)) hcls hd hdt ((hn.at fun o ho=>noX _ _ ho dne).at fun o ho=>kp5 _ _ ho) (v:=.str m tkm) (by simp) rfl ?_
  have F5:=F4.grow0 g5
  obtain ⟨m5,n5,_⟩:=F5.ns
  show wpAny _ A (do bindName cenv "refusal" .none; unbindBehindTheSuite cenv "refusal" p6) _ E { s5 with toks:=s5.toks + 1 }
  refine wpAny_nameGoes (s:={ s5 with toks:=s5.toks + 1 }) (m:=m5) (by unfold Env.kindOf; rw [F5.names]; exact k1) n5 (by rw [F5.kind]; rfl) fun h6 m6 n6 sb6=>hq tkm _ ?_ ?_ ?_
  · intro b o hb
    have hne:b ≠ cenv.locals:=fun q=>by
      have:=f.hb b o hb
      rw [f.hX b (.inl q)] at this; cases this
    exact (sb6.2 b hne).trans (kp5 _ _ (noX _ _ (x3.stays b o hb) hne))
  · intro b o hb hnf
    have hne:b ≠ cenv.locals:=fun q=>by rw [f.hX b (.inl q)] at hb; cases hb
    obtain ⟨sl,hsl⟩:=u13 b o (f.up b o hb) hnf
    exact ⟨sl,(sb6.2 b hne).trans (kp5 _ _ (noX _ _ hsl hne))⟩
  · obtain ⟨h1,t1,rfl⟩:=f.st; obtain ⟨h2,t2,rfl⟩:=hs'; obtain ⟨h3,t3,rfl⟩:=g2.st; obtain ⟨h4,t4,rfl⟩:=g4.st; obtain ⟨h5,t5,rfl⟩:=g5.st; exact ⟨_,_,rfl⟩
theorem refused (O:POk (KP w.params) Pr) (Q:∀ k,k ≤ n → AllOk prog w (KP w.params) Pr loose mg mb k) {a:Addr} {ts ts':List V} {x:Expr} {p1 p2 p3 p4 p5 p6 p7:Pos} {rr:Stmt} (hbd:(Pr.func 958).map (·.body) = some (.stmts (Bd958 x p1 p2 p3 p4 p5 p6 p7 rr))) (h:rz958 Pr n x ts = Sh958 (a,ts')) (hk:keepIn (KP w.params) (.ref a) = true)
    (H:Raises w (KP w.params) prog loose mg mb n (.ref a) ts' m):Refused w prog loose mg mb (n + 1) ts m:=by
  intro ys A s G l base E hfr hroom B R ra hst hfun hG
  refine bd1 h fun fd hf h=>bd1 h fun e hbind h=>mp1 h fun r0 h3 h=>?_
  obtain ⟨e0,h⟩:=Prod.mk.inj h
  obtain ⟨k1,h⟩:=Prod.mk.inj h
  obtain ⟨k2,h⟩:=Prod.mk.inj h
  obtain ⟨k3,h⟩:=Prod.mk.inj h
  obtain ⟨k4,h⟩:=Prod.mk.inj h
  obtain ⟨k5,k6⟩:=Prod.mk.inj h
  subst e0
  rw [hf] at hbd
  have hc:isComp x = false:=bd1 h3 fun c hc _=>(callX_of hc).2.elim fun _ q=>q ▸ rfl
  refine wpAny_call (enter O B R hroom hf hbind (Option.some.inj hbd) (ROL.of_rep ra) fun env s₁ hcf r' R₁ F hX kp st=>?_)
  have hfr':(A.deeper env).frames = some (env :: l):=by rw [deeper_frames,hfr]; rfl
  have fs:FS w.params (KP w.params) prog loose mg mb base l env fd.scope.names s G [] e [] s₁:=⟨B,R₁,F,kp,st,hX,fun b h=>absurd h noFp,hcf,hst,hfun⟩
  clear hX kp st
  refine wpAny_execs_cons (wpAny_Try_except (wpAny_execs_cons ?_))
  rw [exec_Expr env x p1 (by unfold interactive; rw [F.kind]; rfl) (swaps_none hc)]
  refine wpAny_bind (wpAny_standAt (wpAny_bind (wpAny_mono (call_raise0 (Q n (Nat.le_refl n)) (P:=fun _ _=>False) h3 hk H hfr' r' fs) (fun _ _ q=>q.elim) fun v s2 hv=>?_)))
  obtain ⟨ex,fl,rfl,hfl,hx,hu,hs⟩:=hv
  refine note_X hfr' fs.fr hx hfl fun h3 x3 u3=>flight_X (s:={ s2 with heap:=h3 }) x3 fun h4 x4 u4=>?_
  refine catch_ok O fs hG k1 k2 k3 k4 k5 k6 (s':={ s2 with heap:=h4 }) x4 ((hu.trans u3).trans u4) ?_ fun tk s'' b1 b2 b3=>⟨⟨tk,rfl⟩,b1,b2,b3⟩
  obtain ⟨h1,t1,rfl⟩:=hs; exact ⟨_,_,rfl⟩
theorem rf837:Refused w prog loose mg mb 211 [.fn (.ref 837),.list [.tup [.none,symV]]] "unique() applies only to vectors":=refused (pok0 _) (lv0_ok _) (body958 w.params) (y837 w.params) (keepA (by decide)) (ra837.mono (by omega))
theorem rf844:Refused w prog loose mg mb 211 [.fn (.ref 844),.list [.tup [.none,symV]]] "duplicated() applies only to vectors":=refused (pok0 _) (lv0_ok _) (body958 w.params) (y844 w.params) (keepA (by decide)) (ra844.mono (by omega))
theorem rf856:Refused w prog loose mg mb 211 [.fn (.ref 856),.list [.tup [.none,symV],.tup [.none,one1]]] "'match' requires vector arguments":=refused (pok0 _) (lv0_ok _) (body958 w.params) (y856 w.params) (keepA (by decide)) (ra856.mono (by omega))
theorem rf861:Refused w prog loose mg mb 211 [.fn (.ref 861),.list [.tup [.none,one1]]] "argument \"table\" is missing, with no default":=refused (pok0 _) (lv0_ok _) (body958 w.params) (y861 w.params) (keepA (by decide)) (ra861.mono (by omega))
end
end Mine
end
section
open PySem PySem.W PySem.Calls PySem.SeqAt PyProof.Rows
namespace Mine
theorem keep958 (w:Params):keepIn (KP w) (.ref 958) = true:=by kernel_rfl
noncomputable def freeAt (h:Heap) (a:Addr):Heap:=h.update a fun _=>⟨.none,none,.freed,#[]⟩
theorem freeAt_self (h:Heap) (a:Addr):(freeAt h a).get? a = none:=by
  cases h with
  | mk objs l =>
    simp only [freeAt,Heap.update,Heap.get?,Array.getElem?_modify,if_true]
    cases objs[a]? <;> rfl
theorem freeAt_other {h:Heap} {a b:Addr} (hn:b ≠ a):(freeAt h a).get? b = h.get? b:=Heap.get?_update_other h _ (Ne.symm hn)
noncomputable def cmpXV {x:Expr} (v:EV x):Option (Expr × CmpOp × Expr):=match v with
  | .const _ _ _=>none
  | .name _ _=>none
  | .tup _ _ _=>none
  | .list _ _=>none
  | .dict _ _ _=>none
  | .attr _ _ _=>none
  | .slice _ _ _ _ _ _=>none
  | .item _ _ _ _=>none
  | .meth _ _ _ _ _=>none
  | .call _ _ _ _=>none
  | .bin _ _ _ _=>none
  | .cmp l op r _=>some (l,op,r)
  | .bool _ _ _=>none
  | .not _ _=>none
  | .neg _ _=>none
  | .ite _ _ _ _=>none
  | .comp _ _ _ _ _ _ _=>none
  | .bad _=>none
noncomputable def cmpX (x:Expr):Option (Expr × CmpOp × Expr):=cmpXV (viewE x)
theorem cmpX_of {x:Expr} {i} (e:cmpX x = some i):∃ p,x = .Compare i.1 [i.2.1] [i.2.2] p:=Is.of (p:=fun i=>∃ p,x = .Compare i.1 [i.2.1] [i.2.2] p) (show Is (cmpXV (viewE x)) _ by
  clear e; generalize viewE x = v
  induction v using EV.casesOn <;> first | exact trivial | exact ⟨_,rfl⟩) e
noncomputable def rzNe (P:Prg) (n:Nat) (ks:Ks) (e:En) (z:Zo) (st:Stmt):Option (List V × S × Zo) :=
  (ifX st).bind fun q=>(cmpX q.1).bind fun c=>if q.2.2.isEmpty = true then if isSet c.2.2 = true then none else (callX c.1).bind fun d=>(ev P n ks d.1 e z).bind fun fv=>fv.1.adr?.bind fun a=>if a = 958 then (evs P n ks d.2 e fv.2).bind fun vs=>(frzs vs.1 vs.2).bind fun ts =>
    (ev P n ks c.2.2 e ts.2).bind fun v=>v.1.str?.bind fun m=>if cmpV v.2 c.2.1 (.str m) (.str m) = some false then some (ts.1,m,v.2) else none else none else none
section
variable {prog:Program} {w:World} {A:Around} {E:Value → Shared → Prop} {s s0 s':Shared} {G G':Gh} {ρ ρ':Ro} {z z' z1:Zo} {Pr:Prg} {loose:List S} {mg mb:S → Option Value}
variable {cenv:Env} {ks:Ks} {e e' e1:En} {n:Nat} {base:Heap} {l:List Env} {m:S}
theorem Grow.wk (g:Grow NoX G ρ s G' ρ' s'):Grow (XF cenv ks) G ρ s G' ρ' s':=g.weaken fun _ h=>h.elim
theorem refused_call {k:Nat} {ts:List V} {ys:List Value} (H:Refused w prog loose mg mb k ts m) (hfr:A.frames = some [cenv]) (hcf:cenv.frame = some cenv.locals) (rk:Room k A) (c:Cx prog w (KP w.params) loose mg mb cenv ks e G ρ z s) (ra:RepL w.params G ys ts) {Q:Value → Shared → Prop}
    (hq:∀ tk s',Grow (XF cenv ks) G ρ s G ρ s' → Cx prog w (KP w.params) loose mg mb cenv ks e G ρ z s' → Q (.str m tk) s'):wpAny (model prog w) A (call (.ref 958) ys) Q E s:=by
  obtain ⟨B,R,F⟩:=c
  obtain ⟨mL,⟨oL,es,ep,hoL,hdL,_⟩,_⟩:=F.ns
  have hbs:(freeAt s.heap cenv.locals).StaysIn s.heap:=fun b o hb=>by
    by_cases q:b = cenv.locals
    · exact nomatch (freeAt_self s.heap cenv.locals).symm.trans ((congrArg (freeAt s.heap cenv.locals).get? q).symm.trans hb)
    · exact (freeAt_other q).symm.trans hb
  have hne:∀ {a o},G a = some o → a ≠ cenv.locals:=fun ha q=>nomatch F.lG.symm.trans ((congrArg G q).symm.trans ha)
  refine wpAny_mono (H _ A s G [cenv] (freeAt s.heap cenv.locals) E hfr rk B (zrel0 R) ra hbs ⟨by rw [F.kind]; decide,⟨cenv.locals,oL,hcf,freeAt_self _ _,hoL,fun vs q=>nomatch hdL.symm.trans q⟩,trivial⟩ fun a o ha=>(freeAt_other (hne ha)).trans (R.keep a o ha)) (fun x s3 h3=>?_) fun _ _ h=>h
  obtain ⟨⟨tk,rfl⟩,hst,hup,hsame⟩:=h3
  have kp:∀ b o,b ≠ cenv.locals → s.heap.get? b = some o → s3.heap.get? b = some o:=fun b o hb ho=>hst b o ((freeAt_other hb).trans ho)
  have g4:Grow (XF cenv ks) G ρ s G ρ s3:=⟨fun _ _ h=>h,⟨[],(List.append_nil ρ).symm⟩,fun _ _ h=>.inl h,fun _ h=>.inl h,fun b o ho _ hx=>kp b o (fun q=>hx (.inl q)) ho,fun b hb=>by
    obtain ⟨o,ho⟩:=Option.isSome_iff_exists.mp hb
    by_cases q:b = cenv.locals
    · subst q
      obtain ⟨sl,hsl⟩:=hup _ _ hoL fun vs q=>nomatch hdL.symm.trans q
      rw [hsl]; rfl
    · rw [kp b o q ho]; rfl,hsame⟩
  refine hq tk s3 g4 ⟨B,⟨R.len,fun a o ha=>kp a o (hne ha) (R.keep a o ha),fun k p o hp ho=>(R.obj k p o hp ho).mono (fun _ _ h=>h) ⟨[],(List.append_nil ρ).symm⟩ fun hm=>?_,R.new,R.inj,fun a ha=>g4.al a (R.live a ha)⟩,F.slots hup⟩
  obtain ⟨o1,e1⟩:=Option.isSome_iff_exists.mp (R.live _ (Fp.of hp).1)
  obtain ⟨o2,e2⟩:=Option.isSome_iff_exists.mp (R.live _ (Fp.of hp).2)
  exact ⟨(kp _ _ (fun q=>F.lF (q ▸ (Fp.of hp).1)) e1).trans e1.symm,(kp _ _ (fun q=>F.lF (q ▸ (Fp.of hp).2)) e2).trans e2.symm⟩
theorem ne_ok {k:Nat} (Q:AllOk prog w (KP w.params) Pr loose mg mb n) {st:Stmt} {p:List V × S × Zo} (h:rzNe Pr n ks e z st = some p) (H:Refused w prog loose mg mb k p.1 p.2.1) (hfr:A.frames = some [cenv]) (hcf:cenv.frame = some cenv.locals) (r:Room n A) (rk:Room k A)
    (c:Cx prog w (KP w.params) loose mg mb cenv ks e G ρ z s):wpAny (model prog w) A (exec st cenv) (PoS w.params cenv ks G ρ s .next e p.2.2) E s:=by
  refine bd1 h fun q hq h=>bd1 h fun d hd h=>ifb h fun hemp h=>ifbn h fun hset h=>bd1 h fun f hf h=>bd2 h fun fv z1 h1 h=>bd1 h fun a ha h=>ifs h fun h958 h=>bd2 h fun vs z2 h2 h=>bd2 h fun ts z3 h3 h=>bd2 h fun v z4 h4 h=>bd1 h fun m hm h=>ifs h fun hcmp h=>?_
  obtain rfl:=Option.some.inj h
  subst h958
  clear h
  obtain ⟨p1,rfl⟩:=ifX_of hq
  obtain ⟨p2,hd⟩:=cmpX_of hd
  obtain ⟨hat,p3,hf⟩:=callX_of hf
  rw [hd,hf,List.isEmpty_iff.mp hemp]
  clear hq hemp
  refine wpAny_If (wpAny_isTrue_Compare1 ?_ (notMarks hset))
  rw [call_eval hat]
  refine wpAny_bind (Q.ev.to h1 r c fun y s1 G1 ρ1 g1 c1 r1=>r1.fnE (V.adr_of ha) (callWith_sound (evs_noStar h2) (keeps_K (keep958 w.params)) (Q.evs.to h2 r c1 fun ys s2 G2 ρ2 g2 c2 r2=>?_)))
  obtain ⟨G3,g3,R3,r3⟩:=frzs_ok (X:=NoX) h3 c2.R r2
  have c3:=c2.grow g3 R3
  refine ⟨c3.B.kin R3,refused_call H hfr hcf rk c3 r3 fun tk s4 g4 c4=>Q.ev.to h4 r c4 fun y s5 G5 ρ5 g5 c5 r5=>?_⟩
  obtain rfl:=V.str_of hm
  refine wpAny_mono (cmp_sound c5.R r.u hcmp (RepO.str m tk) r5) (fun q s6 h6=>?_) fun _ _ h=>h
  obtain ⟨rfl,G6,ρ6,g6,R6,_⟩:=h6
  exact wpAny_truthy_bool (wpAny_execs_nil ⟨G6,ρ6,((((g1.trans g2).trans g3).wk.trans g4).trans g5.wk).trans g6.wk,R6,c5.F.grow0 g6,rfl⟩)
end
end Mine
end
section
open PySem PySem.W PySem.Calls PySem.SeqAt PyProof.Rows
namespace Mine
noncomputable def neW (P:Prg) (n:Nat) (ks:Ks) (e:En) (z:Zo) (st:Option Stmt) (ts:List V) (m:S) (k:Zo → Prop):Prop:=opt st fun st=>opt (rzNe P n ks e z st) fun q=>q.1 = ts ∧ q.2.1 = m ∧ k q.2.2
theorem bdi {α β:Type} {o:Option α} {f:α → Option β} {a:α} {r:Option β} (h:o = some a) (k:f a = r):o.bind f = r:=by subst h; exact k
noncomputable abbrev tsU:List V:=[.fn (.ref 837),.list [.tup [.none,symV]]]
noncomputable abbrev tsD:List V:=[.fn (.ref 844),.list [.tup [.none,symV]]]
noncomputable abbrev tsM:List V:=[.fn (.ref 856),.list [.tup [.none,symV],.tup [.none,one1]]]
noncomputable abbrev tsI:List V:=[.fn (.ref 861),.list [.tup [.none,one1]]]
noncomputable def lawW (P P0:Prg) (T:Addr → Bool) (n:Nat) (ks:Ks) (b:List Stmt) (e:En) (as:As):Prop :=
  exsW P T n ks (b.take 2) e [] as fun fl e1 z1 as1=>match fl with
    | .next=>neW P0 210 ks e1 z1 b[2]? tsU "unique() applies only to vectors" fun z2=>neW P0 210 ks e1 z2 b[3]? tsD "duplicated() applies only to vectors" fun z3 =>
        neW P0 210 ks e1 z3 b[4]? tsM "'match' requires vector arguments" fun z4=>neW P0 210 ks e1 z4 b[5]? tsI "argument \"table\" is missing, with no default" fun z5 =>
        exsW P T n ks (b.drop 6) e1 z5 as1 fun fl _ _ _=>fl = .ret (.bool true)
    | .ret _=>False
noncomputable def lawF (P P0:Prg) (T:Addr → Bool) (n:Nat) (ts:List V) (as:As):Prop:=opt (P.func 965) fun fd=>opt (bindPars (fd.params.args.map (·.arg)) ts (P.dfl 965)) fun e=>opt (bodyS fd.body) fun b=>lawW P P0 T n fd.scope.names b e as
structure HTop' (P:Prg):Prop where
  mat:∀ k l n1 b,RowOk l → ArgOk b → Calls P 856 [.none,arg2 (vN k l n1) (argV b),.none] (vec0 .integer ((matchR l (argR b)).map (upR none)))
  alone:∀ k row nm,LRow row → Calls P 939 [vN k row nm,LV .integer row] (.bool true)
  both:∀ k k2 l r n1 n2,LRow l → LRow r → Calls P 944 [vN k l n1,LV .integer l,vN k2 r n2,LV .integer r] (.bool true)
  nothing:∀ k l n1,LRow l → Calls P 951 [vN k l n1,LV .integer l] (.bool true)
  vec:∀ cs s,cs ≠ [] → cs.length ≤ 1000 → s.1 ≤ 500 → ∃ k row nm s',LRow row ∧ s'.1 ≤ s.1 + 20 ∧ CallsO P 320 915 (sO cs s) [] (.tup [vN k row nm,LV .integer row]) (sO cs s')
section
variable {w:Params} {need:Nat} {orc:Orc} {orb:Orb}
theorem law_walk (_:∀ a ∈ [965,382,428,442,403],orc a = none ∧ orb a = none) (hn:need ≤ 320) (H:HTop' (prB w need orc orb)) (sc:List Int) (hs:sc.length ≤ 63):∃ as,Wk (lawF (prB w need orc orb) (lv0 w) (T0 [965,382,428,442,403]) 398 [.list (sc.map .int)] as):=by
  have hP:(prB w need orc orb).need ≤ 320:=hn
  obtain ⟨cs,hcs⟩:∃ cs,cs = (sc ++ [0]).take 40:=⟨_,rfl⟩
  have c0:cs ≠ []:=by rw [hcs]; cases sc <;> simp
  have c1:cs.length ≤ 1000:=by rw [hcs]; simp; omega
  obtain ⟨k,l,n1,s1,lu,e1,v1⟩:=H.vec cs (0,0) c0 c1 (by simp)
  obtain ⟨k2,r,n2,s2,lv,e2,v2⟩:=H.vec cs s1 c0 c1 (by simp at e1; omega)
  have io:∀ l:List Int,∀ v ∈ l.map V.int,v.isOwn = false:=fun l v hv=>by obtain ⟨i,_,rfl⟩:=List.mem_map.mp hv; rfl
  have t0:binV [.list [.int 0]] .Add (.list (sc.map .int)) (.own 0) = some (.list ((sc ++ [0]).map .int),[.list [.int 0]]):=by
    have f1:frzs (sc.map V.int) [.list [.int 0]] = some (sc.map .int,[.list [.int 0]]):=frzL_id (io sc)
    have f2:frzs [V.int 0] [.list [.int 0]] = some ([V.int 0],[.list [.int 0]]):=rfl
    have f3:(sc.map V.int).length + [V.int 0].length ≤ lineMax:=by simp; unfold lineMax; omega
    exact bdi f1 (bdi f2 ((if_pos f3).trans (congrArg (fun l=>some (V.list l,[O.list [V.int 0]])) (List.map_append (f:=V.int) (l₁:=sc) (l₂:=[0])).symm)))
  have t1:∀ z0,sliceV (.list ((sc ++ [0]).map .int)) .none (.int 40) .none z0 = some (.list (cs.map .int),z0):=fun z0=>by
    have a1:asList z0 (.list ((sc ++ [0]).map .int)) = some ((sc ++ [0]).map .int):=rfl
    have a2:cutV ((sc ++ [0]).map V.int) .none (.int 40) .none = some (cs.map .int):=by
      have:cutV ((sc ++ [0]).map V.int) .none (.int 40) .none = some (((sc ++ [0]).map V.int).take 40):=rfl
      rw [this,hcs,List.map_take]
    have f1:frzs (cs.map V.int) z0 = some (cs.map .int,z0):=frzL_id (io cs)
    exact bdi a1 (bdi a2 (by rw [f1]; rfl))
  have t2:CallsB (prB w need orc orb) 320 856 [.none,arg2 (vec0 .integer [some 1]) (vec0 .integer [some 1,some 2,some 1]),.none] (vec0 .integer [some 1]):=by
    have ok1:RowOk [some 1]:=⟨fun o ho i e=>by simp at ho; rw [ho] at e; cases e; omega,by simp⟩
    have ok2:RowOk [some 1,some 2,some 1]:=⟨fun o ho i e=>by subst e; simp at ho; omega,by simp⟩
    exact cb hP (H.mat .integer [some 1] none (.vec .integer [some 1,some 2,some 1] none) ok1 ok2)
  have a1:=cb hP (H.alone k l n1 lu)
  have b1:=cb hP (H.both k k2 l r n1 n2 lu lv)
  have b2:=cb hP (H.both k2 k r l n2 n1 lv lu)
  have nn:=cb hP (H.nothing k l n1 lu)
  have q {α:Type} (x:α):x = x:=rfl
  have t:=And.intro t0 (And.intro t1 (And.intro t2 (And.intro (q tsU) (And.intro (q ("unique() applies only to vectors":S)) (And.intro (q tsD) (And.intro (q ("duplicated() applies only to vectors":S)) (And.intro (q tsM) (And.intro (q ("'match' requires vector arguments":S)) (And.intro (q tsI) (And.intro (q ("argument \"table\" is missing, with no default":S)) (And.intro v1 (And.intro v2 (And.intro a1 (And.intro b1 (And.intro b2 (And.intro nn (q (Fl.ret (V.bool true)))))))))))))))))))
  exact ⟨[.bin (.list ((sc ++ [0]).map .int)) [.list [.int 0]],.prA (.list (cs.map .int)),.call 320 (vec0 .integer [some 1]),
    .orb 320 (.tup [vN k l n1,LV .integer l]) (sO cs s1),.orb 320 (.tup [vN k2 r n2,LV .integer r]) (sO cs s2),.call 320 (.bool true),.call 320 (.bool true),.call 320 (.bool true),.call 320 (.bool true)],Wk.of t (by kernel_rfl)⟩
end
end Mine
end
section
open PySem PySem.W PySem.Calls PyProof.Rows
namespace Mine
noncomputable def lvT (w:Params):Prg:=prB w 320 (orc7 w) (orb8 w)
theorem ext_dom {l t:List Addr} {F:Addr → List V → Option V} {prev:Orc} (h:∀ a,(prev a).isSome = true → a ∈ t) (hl:(l.all fun a=>t.contains a) = true):∀ a,(ext l F prev a).isSome = true → a ∈ t:=fun a ha=>by
  unfold ext at ha
  split at ha
  · rename_i hc
    exact List.contains_iff_mem.mp (List.all_eq_true.mp hl a (List.contains_iff_mem.mp hc))
  · exact h a ha
section
variable {w:Params}
theorem dm0:∀ a,((fun _=>none:Orc) a).isSome = true → a ∈ fnsAll:=fun _ h=>by cases h
theorem dm1:∀ a,(orc1 w a).isSome = true → a ∈ fnsAll:=ext_dom dm0 (by decide)
theorem dm2:∀ a,(orc2 w a).isSome = true → a ∈ fnsAll:=ext_dom dm1 (by decide)
theorem dm3:∀ a,(orc3 w a).isSome = true → a ∈ fnsAll:=ext_dom dm2 (by decide)
theorem dm4:∀ a,(orc4 w a).isSome = true → a ∈ fnsAll:=ext_dom dm3 (by decide)
theorem dm5:∀ a,(orc5 w a).isSome = true → a ∈ fnsAll:=ext_dom dm4 (by decide)
theorem dm6:∀ a,(orc6 w a).isSome = true → a ∈ fnsAll:=ext_dom dm5 (by decide)
theorem dm7:∀ a,(orc7 w a).isSome = true → a ∈ fnsAll:=ext_dom dm6 (by decide)
theorem dmV:∀ a,(orbV w a).isSome = true → a ∈ fnsAll:=fun a h=>by
  unfold orbV at h
  split at h
  · rename_i e; subst e; decide
  · cases h
theorem dm8:∀ a,(orb8 w a).isSome = true → a ∈ fnsAll:=fun a h=>by
  unfold orb8 at h
  split at h
  · rename_i e; subst e; decide
  · cases h
end
section
variable (prog:Program) (w:World) (loose:List S) (mg mb:S → Option Value)
def OkO (n:Nat) (orc:Orc):Prop:=∀ a F,orc a = some F → ∀ ts v,F ts = some v → ∀ ys A E s G ρ z,Room n A → Base (KP w.params) prog loose mg mb G → ZRel w.params G ρ z s.heap → RepL w.params G ys ts →
  wpAny (model prog w) A (call (.ref a) ys) (fun r s'=>∃ G',Grow NoX G ρ s G' ρ s' ∧ ZRel w.params G' ρ z s'.heap ∧ Rep w.params G' r v) E s
abbrev Lv (P:Prg):Prop:=∀ n,AllOk prog w (KP w.params) P loose mg mb n
end
section
variable {prog:Program} {w:World} {loose:List S} {mg mb:S → Option Value}
theorem OkO.mono {n m:Nat} {orc:Orc} (H:OkO prog w loose mg mb n orc) (h:n ≤ m):OkO prog w loose mg mb m orc:=fun a F e ts v hv ys A E s G ρ z r=>H a F e ts v hv ys A E s G ρ z (r.less h)
theorem OkO.ext {n m:Nat} {l:List Addr} {P:Prg} {prev:Orc} (H:OkO prog w loose mg mb n prev) (h:n ≤ m) (L:Lv prog w loose mg mb P):OkO prog w loose mg mb m (Mine.ext l (fun a=>runO P m a) prev):=fun a F e ts v hv ys A E s G ρ z r B R rl=>by
  unfold Mine.ext at e
  split at e
  · cases e
    exact runO_ok (L m) hv r B R rl
  · exact H.mono h a F e ts v hv ys A E s G ρ z r B R rl
theorem lv_of {need:Nat} {orc:Orc} (d:∀ a,(orc a).isSome = true → a ∈ fnsAll) (H:OkO prog w loose mg mb need orc):Lv prog w loose mg mb (prO w.params need orc):=fun n =>
  all_ok (Pr:=prO w.params need orc) (pok w.params need orc _ fun a h=>by rcases h with h | h; exact d a h; cases h) H (fun _ _ h=>by cases h) n n (Nat.le_refl n)
theorem ok0:OkO prog w loose mg mb 0 (fun _=>none):=fun _ _ h=>by cases h
theorem L0:Lv prog w loose mg mb (lv0 w.params):=lv_of dm0 ok0
theorem ok1:OkO prog w loose mg mb 60 (orc1 w.params):=ok0.ext (by omega) L0
theorem L1:Lv prog w loose mg mb (lv1 w.params):=lv_of dm1 ok1
theorem ok2:OkO prog w loose mg mb 100 (orc2 w.params):=ok1.ext (by omega) L1
theorem L2:Lv prog w loose mg mb (lv2 w.params):=lv_of dm2 ok2
theorem ok3:OkO prog w loose mg mb 140 (orc3 w.params):=ok2.ext (by omega) L2
theorem L3:Lv prog w loose mg mb (lv3 w.params):=lv_of dm3 ok3
theorem ok4:OkO prog w loose mg mb 180 (orc4 w.params):=ok3.ext (by omega) L3
theorem L4:Lv prog w loose mg mb (lv4 w.params):=lv_of dm4 ok4
theorem ok5:OkO prog w loose mg mb 220 (orc5 w.params):=ok4.ext (by omega) L4
theorem L5:Lv prog w loose mg mb (lv5 w.params):=lv_of dm5 ok5
theorem ok6:OkO prog w loose mg mb 270 (orc6 w.params):=ok5.ext (by omega) L5
theorem L6:Lv prog w loose mg mb (lv6 w.params):=lv_of dm6 ok6
theorem ok7:OkO prog w loose mg mb 320 (orc7 w.params):=ok6.ext (by omega) L6
theorem okbV:OrbOk prog w (KP w.params) (lvV w.params) loose mg mb:=fun a F e o ts r o' hF hp k p ys A E s G ρ z rm B R hk hz rl=>by
  have e:orbV w.params a = some F:=e
  unfold orbV at e
  split at e
  · rename_i q; subst q; cases e
    exact runB_ok (L0 60) hF hp rm B R hk hz rl
  · cases e
theorem LV_:Lv prog w loose mg mb (lvV w.params):=fun n =>
  all_ok (Pr:=lvV w.params) (pok w.params 60 _ _ fun a h=>by rcases h with h | h; cases h; exact dmV a h) (fun _ _ h=>by cases h) okbV n n (Nat.le_refl n)
theorem okb8:OrbOk prog w (KP w.params) (lvT w.params) loose mg mb:=fun a F e o ts r o' hF hp k p ys A E s G ρ z rm B R hk hz rl=>by
  have e:orb8 w.params a = some F:=e
  unfold orb8 at e
  split at e
  · rename_i q; subst q; cases e
    exact runB_ok (LV_ 120) hF hp (rm.less (by show 120 ≤ 320; omega)) B R hk hz rl
  · cases e
theorem LT:Lv prog w loose mg mb (lvT w.params):=fun n =>
  all_ok (Pr:=lvT w.params) (pok w.params 320 _ _ fun a h=>by rcases h with h | h; exact dm7 a h; exact dm8 a h) ok7 okb8 n n (Nat.le_refl n)
end
end Mine
end
section
open PySem PySem.W PySem.Calls PyProof.Rows
namespace Mine
section
variable {w:Params}
theorem hreel {cs:List Int} (c0:cs ≠ []) (c1:cs.length ≤ 1000):HReel (lvV w) cs:=fun s m hs hm hm2 =>
  callsO_of (P:=lvV w) (F:=runB (lv0 w) 60 910) (Nat.le_refl 60) rfl rfl rfl (reel_run (w:=w) (need:=0) (orc:=fun _=>none) (fun _ _=>rfl) cs s.1 m s.2 c0 c1 hs hm hm2)
theorem htop:HTop' (lvT w):=by
  have W:HWide (lv6 w):=hwide (w:=w) (by kernel_rfl)
  refine ⟨?_,?_,?_,?_,?_⟩
  · intro k l n1 b h g
    have T:HTake (prO w 220 (orc5 w)):=htake (w:=w) (by kernel_rfl)
    have M:HMatch (prO w 220 (orc5 w)):=hmatch (w:=w) (by kernel_rfl)
    exact calls_of (F:=runO (lv5 w) 270 856) (by kernel_rfl) (bmatch2_run (n5 (by decide) (by decide) (by decide) (by decide) (by decide)) (Nat.le_refl _) T M k l _ n1 b h g rfl)
  · exact fun k row nm h=>calls_of (F:=runO (lv6 w) 320 939) (by kernel_rfl) (alone_run (n6 (by decide) (by decide) (by decide) (by decide) (by decide) (by decide)) (Nat.le_refl _) hlaw k row nm h)
  · exact fun k k2 l r m1 m2 h g=>calls_of (F:=runO (lv6 w) 320 944) (by kernel_rfl) (both_run (n6 (by decide) (by decide) (by decide) (by decide) (by decide) (by decide)) (Nat.le_refl _) hlaw W k k2 l r m1 m2 h g)
  · exact fun k l m1 h=>calls_of (F:=runO (lv6 w) 320 951) (by kernel_rfl) (nothing_run (n6 (by decide) (by decide) (by decide) (by decide) (by decide) (by decide)) (Nat.le_refl _) hlaw k l m1 h)
  · intro cs s c0 c1 hs
    obtain ⟨k,row,nm,s',h1,h2,h3⟩:=vector_run (w:=w) (need:=60) (orc:=fun _=>none) (orb:=orbV w) (fun a ha=>⟨rfl,by
      unfold orbV
      rw [if_neg]
      rintro rfl
      revert ha; decide⟩) (Nat.le_refl _) cs s hs (hreel c0 c1)
    exact ⟨k,row,nm,s',h1,h2,callsO_of (P:=lvT w) (F:=runB (lvV w) 120 915) (Nat.le_refl 320) (by kernel_rfl) rfl rfl h3⟩
theorem lawful (sc:List Int) (hs:sc.length ≤ 63):∃ as,Wk (lawF (lvT w) (lv0 w) (T0 [965,382,428,442,403]) 398 [.list (sc.map .int)] as) :=
  law_walk (w:=w) (need:=320) (orc:=orc7 w) (orb:=orb8 w) (fun a ha=>⟨ext_none (n6 (t:=[965,382,428,442,403]) (by decide) (by decide) (by decide) (by decide) (by decide) (by decide)) (by decide) a ha,by
    unfold orb8
    rw [if_neg]
    rintro rfl
    revert ha; decide⟩) (Nat.le_refl _) htop sc hs
end
end Mine
end
section
open PySem PySem.W PySem.Calls PySem.SeqAt PyProof.Rows
namespace Mine
section
variable {prog:Program} {w:World} {A:Around} {E:Value → Shared → Prop} {s s0 s':Shared} {G G':Gh} {ρ ρ':Ro} {z z' z1:Zo} {loose:List S} {mg mb:S → Option Value} {cenv:Env} {ks:Ks} {e:En} {n:Nat} {m:S}
theorem neW_of {P:Prg} {st:Option Stmt} {ts:List V} {k:Zo → Prop} (h:neW P n ks e z st ts m k):∃ st' z',st = some st' ∧ rzNe P n ks e z st' = some (ts,m,z') ∧ k z':=by
  obtain ⟨st',h1,h⟩:=opt_ex h
  obtain ⟨q,h2,h3,h4,h5⟩:=opt_ex h
  subst h3 h4
  exact ⟨st',q.2.2,h1,h2,h5⟩
theorem ne_step {Pr:Prg} {k:Nat} (Q:AllOk prog w (KP w.params) Pr loose mg mb n) {st:Stmt} {ts:List V} (h:rzNe Pr n ks e z st = some (ts,m,z')) (H:Refused w prog loose mg mb k ts m) (hfr:A.frames = some [cenv]) (hcf:cenv.frame = some cenv.locals) (r:Room n A) (rk:Room k A)
    (c:Cx prog w (KP w.params) loose mg mb cenv ks e G ρ z s) {rest:List Stmt} {P:Flow → Shared → Prop} (q:∀ G' ρ' s',Grow (XF cenv ks) G ρ s G' ρ' s' → Cx prog w (KP w.params) loose mg mb cenv ks e G' ρ' z' s' → wpAny (model prog w) A (execs rest cenv) P E s'):wpAny (model prog w) A (execs (st :: rest) cenv) P E s :=
  wpAny_execs_cons (wpAny_mono (ne_ok Q h H hfr hcf r rk c) (fun f t2 h=>by
    obtain ⟨G2,ρ2,g2,R2,F2,hf2⟩:=h
    rw [show f = .next from hf2]
    exact q G2 ρ2 t2 g2 ⟨c.B.mono g2.g,R2,F2⟩) fun _ _ h=>h)
theorem law_split {b:List Stmt} {s2 s3 s4 s5:Stmt} (h2:b[2]? = some s2) (h3:b[3]? = some s3) (h4:b[4]? = some s4) (h5:b[5]? = some s5):b = b.take 2 ++ (s2 :: s3 :: s4 :: s5 :: b.drop 6):=by
  have e (i:Nat) {st} (h:b[i]? = some st):b.drop i = st :: b.drop (i + 1):=by
    obtain ⟨hi,hg⟩:=List.getElem?_eq_some_iff.mp h
    rw [← hg,← List.drop_eq_getElem_cons hi]
  rw [← e 5 h5,← e 4 h4,← e 3 h3,← e 2 h2,List.take_append_drop]
theorem hTT:∀ a,T0 [965,382,428,442,403] a = true → (lvT w.params).orc a = none ∧ (lvT w.params).orb a = none:=hTB (fun a ha=>⟨ext_none (n6 (t:=[965,382,428,442,403]) (by decide) (by decide) (by decide) (by decide) (by decide) (by decide)) (by decide) a ha,by
  unfold orb8
  rw [if_neg]
  rintro rfl
  revert ha; decide⟩)
theorem POk.top:POk (KP w.params) (lvT w.params):=pok w.params 320 _ _ fun a h=>h.elim (dm7 a) (dm8 a)
theorem law_call {sc:List Int} (hs:sc.length ≤ 63) {ys:List Value} (hfr:A.frames = some []) (hroom:Room 400 A) (B:Base (KP w.params) prog loose mg mb G) (R:ZRel w.params G [] [] s.heap) (ra:RepL w.params G ys [.list (sc.map .int)]) :
    wpAny (model prog w) A (call (.ref 965) ys) (fun x s'=>x = .bool true ∧ (∀ b o,s.heap.get? b = some o → s'.heap.get? b = some o) ∧ ∃ h tk,s' = { s with heap:=h,toks:=tk }) E s:=by
  obtain ⟨as,⟨h⟩⟩:=lawful (w:=w.params) sc hs
  obtain ⟨fd,hf,h⟩:=opt_ex h
  obtain ⟨e,hbind,h⟩:=opt_ex h
  obtain ⟨b,hb,h⟩:=opt_ex h
  obtain ⟨fl,e1,z1,as1,h1,h⟩:=(sw hTT 398).exs h
  induction fl using Fl.casesOn with
  | ret v=>exact h.elim
  | next =>
    obtain ⟨s2,z2,b2,q2,h⟩:=neW_of h
    obtain ⟨s3,z3,b3,q3,h⟩:=neW_of h
    obtain ⟨s4,z4,b4,q4,h⟩:=neW_of h
    obtain ⟨s5,z5,b5,q5,h⟩:=neW_of h
    obtain ⟨fl,e6,z6,as6,h6,h⟩:=(sw hTT 398).exs h
    subst h
    refine wpAny_call (enter (n:=399) POk.top B R hroom hf hbind (bodyS_of hb) (ROL.of_rep ra) fun env s₁ hcf r R₁ F hX kp st=>?_)
    clear hroom ra hbind
    have hfr':(A.deeper env).frames = some [env]:=by rw [deeper_frames,hfr]; rfl
    have r398:=r.less (show 398 ≤ 399 by decide)
    have r210:=r.less (show 210 ≤ 399 by decide)
    have r211:=r.less (show 211 ≤ 399 by decide)
    rw [law_split b2 b3 b4 b5]
    refine execs_pre 398 (fun k _=>LT k) _ _ _ _ _ _ h1 r398 B R₁ F fun G1 ρ1 t1 g1 R1 F1=>ne_step (L0 210) q2 rf837 hfr' hcf r210 r211 ⟨B.mono g1.g,R1,F1⟩ fun G2 ρ2 t2 g2 c2=>ne_step (L0 210) q3 rf844 hfr' hcf r210 r211 c2 fun G3 ρ3 t3 g3 c3 =>
      ne_step (L0 210) q4 rf856 hfr' hcf r210 r211 c3 fun G4 ρ4 t4 g4 c4=>ne_step (L0 210) q5 rf861 hfr' hcf r210 r211 c4 fun G5 ρ5 t5 g5 c5=>wpAny_mono ((LT 398).exs _ _ _ _ _ _ _ h6 _ _ t5 G5 ρ5 env r398 c5.B c5.R c5.F) (fun f t6 h6=>?_) fun _ _ h=>h
    obtain ⟨G6,ρ6,g6,R6,F6,x,rfl,rx⟩:=h6
    have g':Grow NoX G [] s G6 ρ6 t6:=(((((g1.trans g2).trans g3).trans g4).trans g5).trans g6).hide kp st hX
    exact ⟨rx.bool_inv,fun b o hb=>g'.fr b o hb noFp id,g'.st⟩
end
end Mine
end
section
open PySem PySem.W PySem.Calls PySem.SeqAt PyProof.Rows
namespace Mine
theorem law_at:(fun P:Params=>nsIn (KP P) mainGlobals dLaw.name) = fun _=>some (some (.ref 965)):=by kernel_rfl
theorem scan_ints {R:WRecords}:∀ {xs:List WData},WShape.hasItems R xs .int = true → ∃ sc:List Int,xs = sc.map .int
  | [],_=>⟨[],rfl⟩
  | x :: xs,h=>by
    simp only [WShape.hasItems,Bool.and_eq_true] at h
    obtain ⟨i,rfl⟩:=hasW_int h.1
    obtain ⟨sc,rfl⟩:=scan_ints h.2
    exact ⟨i :: sc,rfl⟩
theorem well_ints {P:Params} {h:Heap} {G:Gh} (sc:List Int):∀ {vs:List Value},WellAll P h vs (sc.map .int) → RepL P G vs (sc.map .int):=by
  induction sc with
  | nil=>intro vs x; cases x; exact .nil
  | cons i sc ih =>
    intro vs x
    cases x with
    | cons a r =>
      cases a with
      | int _ t=>exact .cons (.int i t) (ih r)
theorem pre_args {args:List WData} (h:rL.toRowW.claim.pre args = true):∃ sc:List Int,args = [.list (sc.map .int)] ∧ sc.length ≤ 63:=by
  obtain ⟨h1,h2⟩:=pre_splitW h
  have h1:WShape.hasAll rL.toRowW.records args [.list .int] = true:=h1
  obtain ⟨d,r,rfl,hd,hr⟩:=hasAllW_cons h1
  obtain rfl:=hasAllW_nil hr
  obtain ⟨xs,rfl,hx⟩:=hasW_list hd
  obtain ⟨sc,rfl⟩:=scan_ints hx
  refine ⟨sc,rfl,?_⟩
  have h2:WTm.holds rL.toRowW.records (.and (.not (.lt (.lit (.int (63:Nat))) (.len (.arg 0)))) (.lit (.bool true))) { args:=[.list (sc.map .int)] } = true:=h2
  by_cases hc:sc.length ≤ 63
  · exact hc
  · exfalso
    have hlt:(63:Int) < (sc.length:Int):=by omega
    have hl:Num.less? (WData.int 63) (WData.int (sc.length:Int)) = some true:=by simp [Num.less?,hlt]
    simp [WTm.holds,WTm.value,less?,hl] at h2
noncomputable def loose':List S:=looseW qv loose ++ (recsOf qv).map (·.name) ++ (litsOf qv).map (·.1) ++ (clssOf qv (looseW qv loose)).map (·.name)
theorem topRead_as {p q:Program} {lo:List S} {mg mb:S → Option Value} {h:Heap} (T:TopRead q lo mg mb h):TopRead p (lo ++ (recsOf q).map (·.name) ++ (litsOf q).map (·.1) ++ (clssOf q lo).map (·.name)) mg mb h :=
  ⟨T.g,T.b,T.nolimit,T.builtins,fun x h1 h2 _ _ _=>by
    simp only [List.mem_append,not_or] at h2
    exact T.free x h1 h2.1.1.1 h2.1.1.2 h2.1.2 h2.2⟩
theorem post_true {args ds:List WData}:rL.toRowW.claim.post args (.bool true) ds = true:=by
  show (WShape.has rL.toRowW.records (.bool true) .bool && WTm.holds rL.toRowW.records (.eq .res (.lit (.bool true))) { args:=args,res:=some (.bool true),after:=ds }) = true
  have h1:WShape.has rL.toRowW.records (.bool true) .bool = true:=by simp [WShape.has,WShape.arms]
  rw [h1]
  have h2:same (.bool true) (.bool true) = true:=by decide +kernel
  simp [WTm.holds,WTm.value,h2]
theorem walk:WalkO qv loose (XL qv []) KH.says rL.toRowW dLaw [] fun f vs=>PySem.call f vs:=by
  intro w s₀ s₁ mg mb Gd Y a o pm cd doc dV kV ho hdata hcode hdfl hmg hgens args vals as hpre hlay hrd hwell hsys
  have X:(KP w.params).In s₁.heap:=kIn_of Y
  have T:TopRead rL.toRowW.prog loose' mg mb s₁.heap:=topRead_as (topRead_of Gd.T)
  have ha:a = 965:=by
    have:=mg_of X T.g (congrFun law_at w.params)
    rw [hmg] at this
    cases this; rfl
  subst ha
  obtain ⟨sc,rfl,hs⟩:=pre_args hpre
  cases hwell with
  | cons hw1 hw2 =>
    cases hw2
    cases hw1 with
    | list hx hxs =>
      rename_i x vs
      have rep:RepL w.params (fun b=>s₁.heap.get? b) [.ref x] [.list (sc.map .int)]:=.cons (.list hx rfl rfl rfl (by simp; unfold lineMax; omega) (by simpa using well_ints sc hxs)) .nil
      have R:ZRel w.params (fun b=>s₁.heap.get? b) [] [] s₁.heap:=⟨rfl,fun a o h=>h,fun k p o h=>by simp at h,fun k p o h=>by simp at h,fun i j p q oi oj _ h=>by simp at h,fun a h=>absurd h noFp⟩
      have B:Base (KP w.params) rL.toRowW.prog loose' mg mb (fun b=>s₁.heap.get? b):=⟨s₁.heap,fun a o h=>h,X,T⟩
      have r:Room 400 callerA:=⟨rfl,by decide,by decide⟩
      refine wpAny_mono (law_call (G:=fun b=>s₁.heap.get? b) hs rfl r B R rep) (fun v s' h=>?_) fun _ _ h=>h
      obtain ⟨rfl,hk,hst⟩:=h
      refine GoodW.toG ⟨.inl ⟨.bool true,.bool true,[],rfl,fun cls=>rfl,.bool true,post_true,fun _=>⟨.nil,fun a h=>by cases h⟩⟩,hk,?_,?_⟩
      · obtain ⟨h',tk,rfl⟩:=hst; rfl
      · obtain ⟨h',tk,rfl⟩:=hst; exact hgens
theorem all:PySem.Challenge.rw_pq1345_01.Holds:=head walk
end Mine
end
theorem PySem.Challenge.cw_pq1345_01_holds : PySem.Challenge.rw_pq1345_01.Holds := by
  exact Mine.all
