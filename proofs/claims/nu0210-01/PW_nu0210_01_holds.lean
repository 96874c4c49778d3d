import PyProof.Rows.All
import Wide.All
import OpenK.AllK
import Wide.FinOn
import KE.KRevIter
import PySem.Challenge.RW_nu0210_01
set_option maxHeartbeats 0
set_option maxRecDepth 100000
set_option Elab.async false
set_option tactic.hygienic false
set_option linter.all false
set_option bootstrap.genMatcherCode false
set_option genSizeOf false
set_option genSizeOfSpec false
open Option.some renaming inj→ab,injEq→gV
open PySem.Str renaming ofString→ag,ofString_eq_toList→Az
open Nat renaming le_trans→ah,lt_of_lt_of_le→av,le_of_ble_eq_true→aA,not_lt→aC,lt_of_le_of_lt→aL,ne_of_lt→aS,le_refl→aY,ne_of_gt→cj,lt_trans→ck,le_succ→cN,le_of_lt→dO,lt_succ_self→d4,add_le_add_left→eS,le_of_eq→ff,not_lt_zero→fS,le_antisymm→fT,le_of_lt_succ→fX,beq→fY,lt_irrefl→gp,succ_le_succ→gB,testBit_succ→jx,le_add_right→jy,zero_le→jM,min_eq_left→j7,testBit_two_pow→ka,beq_refl→kg,lt_of_lt_of_eq→kN,lt_succ_of_lt→li,le_succ_of_le→lj,testBit_zero→l8,zero_add→mP,min_le_left→nE,eq_of_beq_eq_true→nJ,add_le_add_right→oH,add_right_comm→qB,sub_self→rn,add_comm→ro,min_eq_right→tL,not_le→wU,sub_zero→AA,sub_le_iff_le_add→BO,pos_iff_ne_zero→DR,lt_or_gt_of_ne→Hh,lt_of_le_of_ne→Hi,lt_trichotomy→Ht,lt_of_succ_lt→Hu,blt→Hv,succ_ne_self→Lj,min_le_right→Lk
open List renaming getElem?_eq_some_iff→ai,length_map→aj,mem_of_getElem?→ak,getElem?_eq_getElem→an,getElem?_map→aq,mem_singleton→ax,map_append→aB,range→aE,mem_cons→aF,mem_append→aH,getElem?_append_left→aI,length_append→aJ,take_add_one→aO,size_toArray→aP,mem_map→aU,length_range→aW,getElem?_append_right→aX,take_length→aZ,map_map→bc,all_eq_true→bd,getElem?_mapIdx→bh,map_cons→bj,append_nil→bk,mem_cons_of_mem→br,mem_filter→bt,lookup_cons→bv,pairwise_cons→bz,length_filter_le→bB,filter_cons_of_pos→bG,filter_cons_of_neg→bH,foldl_cons→bI,ext_getElem?→bK,map_congr_left→bL,not_mem_nil→bR,getElem?_of_mem→bW,pairwise_singleton→bX,mem_range→cg,getElem?_concat_length→cC,getElem?_eq_none→cF,contains_iff_mem→cG,getElem?_range→cH,length_take→cK,nodup_cons→cL,getElem?_set_ne→cT,getD_eq_getElem?_getD→cU,filter_append→cV,range_succ→cX,isEmpty_iff→cZ,getElem?_set_self→db,nodup_nil→dp,any_cons→dr,length_eq_zero_iff→dA,nodup_append→dL,append_assoc→dM,pairwise_iff_getElem→dQ,zip_cons_cons→dS,length_mapIdx→dT,length_cons→dU,any_eq_true→dW,getElem?_take_of_lt→fZ,replicate→gx,getElem_mem→gy,getElem?_drop→gM,take_append_drop→gW,mem_append_right→gX,foldl_append→hJ,pairwise_append→ic,mem_of_getLast?→ie,lookup→ig,getElem?_eq_none_iff→iu,length_reverse→iz,length_nil→iK,take_of_length_le→jb,filter_eq_nil_iff→jc,getElem?_toArray→ju,mem_map_of_mem→j8,drop_eq_getElem_cons→kQ,getElem?_cons_zero→l4,map_const'→mQ,length_set→mR,forIn_cons→mS,mem_append_left→nV,drop_drop→nW,mem_cons_self→pQ,getElem?_inj→qY,mem_reverse→rH,mem_flatMap→rI,length_drop→rJ,cons_append→rK,any_append→tN,map→vB,getElem?_cons_succ→y6,drop→y7,append_cancel_left→za,set_set→ze,map_nil→zf,find?_cons_of_neg→zg,drop_of_length_le→zh,drop_eq_nil_of_le→zi,getElem?_reverse→AB,length→BP,isEmpty_toArray→BQ,getElem_toArray→BR,filter→BS,flatMap_append→DN,contains_cons→DS,reverse_cons→Hj,take→Hw,nodup_range→Hx,map_reverse→Hy,nil_append→Ll,filter_map→Lm,foldl_nil→L8
open Option renaming map_eq_some_iff→az,map→dg,isSome_iff_exists→dk,some_ne_none→io,map_some→jE,isNone_iff_eq_none→kE,isSome→vA
open Bool renaming and_eq_true→bf,or_eq_false_iff→b9,not_eq_true→ca,or_eq_true→cb,not_eq_true'→dN,and_false→d7,and_eq_true_iff→d8,eq_iff_iff→fP,or_false→f0,or_true→gN,false_and→ij,false_or→iI,false_eq_true→iL,true_and→jz,not_true→jA,eq_false_iff→lh,eq_false_or_eq_true→lm,and_true→lp,and_assoc→nX,false_ne_true→DU,not_false→Mb
open PySem.Builtin renaming bitOr→bg,bitAnd→bZ,bitNot→cQ
open PySem.Heap renaming get?_push_size→bi,lt_size→ci,size_push→vC,get?_push_of_some→zj,SameBut→zk
open Ne renaming symm→bS
open Int renaming natCast_nonneg→bY,ofNat_lt→dd,not_lt→fu,toNat_natCast→hO,le_trans→kh,eq_ofNat_of_zero_le→l9,ofNat_le→mT,le_antisymm→uf,max_eq_right→Ln,natCast_mul→Ma
open PySem renaming KeyKind→cS,merged→y5,call→DM,IsL→Hf,plainIs→L0
open PySem.W.Fast renaming te14364793385576792824→eU,te10110043849684766642→eV,te8326940854005059898→fh,te13343964577679436407→iD,te17119622794617984870→oJ
open List.Pairwise renaming filter→fU,imp→Hk
open PySem.Builtin.Slice renaming slicePlaces→ii,sliceAdjust→ki
open PySem.Builtin.Int renaming intBits→im
open PySem.Builtin.Tuple renaming tupleExact→iw
open List.Perm renaming refl→jd,swap→L9
open PySem.W renaming getL→j6,piecesOf→lW
open PyProof.Rows renaming assign_Name→kM,ne_int→zd
open PySem.Value renaming isInt_shape→kO,type→l7,isInt→Ay,ref→He
open PySem.IsL renaming update→rl,isList→rm
open PySem.Builtin.Range renaming rangeFitsLong→rM,small→zl
open PySem.Heap.DictOf renaming new→tO
open PySem.Builtin.Dict renaming addKeywords→ug
open List.cons renaming inj→wY
open Array renaming getElem?_toList→zm,toArray_toList→AC,length_toList→BU,toList_inj→Hl
open Prod.mk renaming inj→BL
open Prod renaming fst→BM,ext→BN
open PySem.Heap.SameBut renaming update→DO
open PySem.Heap.IsSliceOf renaming new→DT
open PySem.Obj renaming mapSeq→Hg
open And renaming intro→Lo
open PySem PySem.W PyProof.Rows PySem.Challenge PySem.Calls
noncomputable section
local macro_rules
|`(tactic|erw[$e:term])=>`(tactic|refine Eq.symm $e ▸ ?_)
|`(tactic|erw[←$e:term])=>`(tactic|refine $e ▸ ?_)
|`(tactic|erw[$r:rwRule,$rs,*])=>`(tactic|(erw[$r];erw[$rs,*]))
namespace Mh
set_option backward.match.sparseCases true
noncomputable def body:List Stmt:=pw_nu0210_01.main.body
noncomputable def OL(i:Nat):Stmt:=(body[i]?).getD (.Pass ⟨0,0,0,0⟩)
noncomputable def fk:Scope:=pw_nu0210_01.main.scope
noncomputable def l5:Env:={scope:=fk,locals:=mainNs,globals:=mainNs,cells:=[],code:=.ref 13,frame:=some 14}
noncomputable def tM:Code:=.body body l5
noncomputable def Qi:List Frame:=[topFrame ⟨0,0,0,0⟩]
noncomputable abbrev vn:Value:=.none
noncomputable abbrev vo(b:Bool):Value:=.bool b
noncomputable abbrev vi(i:Int)(t:Nat):Value:=.int i t
noncomputable abbrev vs(s:String)(t:Nat):Value:=.str (ag s) t
noncomputable abbrev vt(s:String):Value:=.type s
noncomputable abbrev vb(s:String):Value:=.builtin s
noncomputable abbrev vr(a:Nat):Value:=.ref a
noncomputable abbrev en(P:Params)(s:String)(t:Nat)(v:Value):DictEntry:=⟨PyData.keyHash P (ag s),.str (ag s) t,v⟩
noncomputable abbrev tup(l:List Value):Obj:=⟨.type "tuple",none,.seq l.toArray 0,#[]⟩
noncomputable abbrev fld(l:List Value):Obj:=⟨.none,none,.fields l.toArray,#[]⟩
noncomputable abbrev wW(t:String)(l:List Value):Obj:=⟨.type t,none,.fields l.toArray,#[]⟩
noncomputable abbrev OE(l:List Value):Obj:=⟨.type "code",none,.fields l.toArray,#[]⟩
noncomputable abbrev Pt(l:List (Option Value)):Obj:=⟨.type "frame",none,.plain,l.toArray⟩
noncomputable abbrev cel(v:Option Value):Obj:=⟨.type "cell",none,.cell v,#[]⟩
noncomputable abbrev DQ(l:List DictEntry)(n:Nat):Obj:=⟨.type "dict",none,.dict l.toArray n,#[]⟩
noncomputable abbrev KG(l:List DictEntry)(n:Nat):Obj:=⟨.none,none,.dict l.toArray n,#[]⟩
noncomputable abbrev cls(nm:String)(bases mro:List Value)(ns:Nat)(sub:List Value)(sl:List (Option Value)):Obj:=
 ⟨.type "type",none,.cls {name:=ag nm,bases:=bases,mro:=mro,ns:=ns,qualname:=ag nm,subclasses:=sub},sl.toArray⟩
noncomputable def eT(o:Obj):List Obj:=[o]
noncomputable def Bu:Stmt→Arguments×List Stmt×Scope
 | .FunctionDef _ a b _ _ _ sc _ _ _=>(a,b,sc)
 |_=>default
noncomputable def sd(k:Nat):Arguments×List Stmt×Scope:=Bu (OL k)
noncomputable def md(k j:Nat):Arguments×List Stmt×Scope:=match OL k with
 | .ClassDef _ _ _ b _ _ _ _ _ _ _=>Bu ((b[j]?).getD (.Pass ⟨0,0,0,0⟩))
 |_=>default
noncomputable def vM:Nat→List String→List Value
 |_,[]=>[]
 |t,s::r=>vs s t::vM (t+1) r
noncomputable def Ra(nm qn:String)(f:Arguments×List Stmt×Scope):Obj:=
 ⟨.none,none,.func {name:=ag nm,qualname:=ag qn,params:=f.1,body:=.stmts f.2.1,scope:=f.2.2,globals:=0,closure:=[],defaults:=.none,kwdefaults:=.none},#[]⟩
noncomputable def RH(nm qn:String)(f:Arguments×List Stmt×Scope)(mod dflt cd:Value)(clo:List (String×Nat))(ct:Value):Obj:=
 ⟨.type "function",none,.func {name:=ag nm,qualname:=ag qn,params:=f.1,body:=.stmts f.2.1,scope:=f.2.2,globals:=3,closure:=clo.map fun c=>(ag c.1,c.2),defaults:=dflt,kwdefaults:=.none,pyModule:=mod,code:=cd,closureTuple:=ct,builtins:=0},#[]⟩
noncomputable def LJ(a t:Nat)(nm qn:String)(line nargs:Int)(free:List String)(vars:Option (List String))(mod dflt:Value)(f:Arguments×List Stmt×Scope)(clo:List (String×Nat))(ct:Value):List Obj:=
 let t1:=t+3+free.length
 let t2:=t1+(match vars with|some l=>l.length|none=>0)
 let raw:=match vars with|some _=>a+4|none=>a+2
 [tup (vM (t+3) free),fld []]++(match vars with|some l=>[tup (vM t1 l),tup []]|none=>[])++
 [Ra nm qn f,
  OE [vs nm t,vs qn (t+1),vs "/claim/cut.py" (t+2),vi line 0,vi nargs 0,vi 0 0,vi 0 0,vi 3 0,vr a,vo true,vi 181 0,vr (a+1),vn,
   (match vars with|some _=>vr (a+2)|none=>vn),(match vars with|some _=>vr (a+3)|none=>vn),vr raw,vi t2 0,vi line 0,vs "/claim/cut.py" (t2+1)],
  RH nm qn f mod dflt (vr (raw+1)) clo ct]
noncomputable def fM(a t:Nat)(nm:String)(line nargs:Int)(vars:Option (List String))(mod:String)(mt k:Nat):List Obj:=LJ a t nm nm line nargs [] vars (vs mod mt) vn (sd k) [] vn
noncomputable def fK(a t:Nat)(nm qn:String)(line nargs:Int)(vars:Option (List String))(mod:String)(mt:Nat)(df:Value)(k j:Nat):List Obj:=LJ a t nm qn line nargs [] vars (vs mod mt) df (md k j) [] vn
noncomputable abbrev Ms:=List (String×Nat×Nat×Int)
noncomputable def Sh(P:Params)(ms:Ms):List DictEntry:=ms.map fun m=>en P m.1 m.2.1 (vr m.2.2.1)
noncomputable def kC(P:Params)(X u:Nat)(nm:String)(line:Int)(mod:String)(mt:Nat)(ms:Ms)(st sa C:Nat)(stat:List String)(mid:List (List Obj)):List Obj:=
 [tup [],wW "builtin_function_or_method" [vb "type.__prepare__",vt "type"],
  DQ ([en P "__module__" (u+5) (vs mod mt),en P "__qualname__" (u+7) (vs nm (u+6)),en P "__firstlineno__" (u+9) (vi line (u+8))]++Sh P ms++[en P "__static_attributes__" st (vr sa)]) (ms.length+4),
  tup [],fld (ms.flatMap fun m=>[vi m.2.2.2 0,vi 4 0,vr (m.2.2.1 - 1)]),
  OE [vs nm u,vs nm (u+1),vs "/claim/cut.py" (u+2),vi line 0,vi 0 0,vi 0 0,vi 0 0,vi 0 0,vr (X+1),vo false,vi 181 0,vr (X+2),vn,vn,vn,vn,vi (u+3:Nat) 0,vi line 0,vs "/claim/cut.py" (u+4)],
  Pt [some (vr (X+3)),some (vr 3),some (vr X),none,some (vs mod mt),none,some (vr 0)]]++mid.flatten++
 [tup (vM (st - stat.length) stat),
  DQ ([en P "__module__" (u+5) (vs mod mt),en P "__firstlineno__" (u+9) (vi line (u+8))]++Sh P ms++[en P "__static_attributes__" st (vr sa),en P "__dict__" (st+2) (vr (C+1)),en P "__weakref__" (st+4) (vr (C+2)),en P "__doc__" (st+5) vn]) 4,
  cls nm [vt "object"] [vr C,vt "object"] (C - 1) [] [none,none,some (vs nm (u - 2)),some (vs nm (u+6)),some (vb "object.__new__"),some (vo true)],
  wW "getset_descriptor" [vs "__dict__" (st+1),vr C,vb "function.__dict__",vb "function.__dict__#set"],
  wW "getset_descriptor" [vs "__weakref__" (st+3),vr C,vb "ExceptionGroup.__weakref__",vn],
  wW "super" [vr C,vr C,vr C],wW "builtin_function_or_method" [vb "object.__init_subclass__",vr C]]
noncomputable def tr(l:List (Int×Nat)):List Value:=l.flatMap fun p=>[vi p.1 0,vi 0 0,vr p.2]
noncomputable def eR(P:Params)(l:List (String×Nat×Nat)):List DictEntry:=l.map fun x=>en P x.1 x.2.1 (vr x.2.2)
noncomputable def SK:Obj:=OE [vs "<module>" 182,vs "<module>" 183,vs "/claim/cut.py" 184,vi 1 0,vi 0 0,vi 0 0,vi 0 0,vi 0 0,vr 11,vo false,vi 181 0,vr 12,vn,vn,vn,vn,vi 185 0,vi 1 0,vs "/claim/cut.py" 186]
noncomputable def SJ:Obj:=Pt [some (vr 13),some (vr 3),some (vr 3),none,some (vs "__main__" 164),none,some (vr 0)]
noncomputable def n1(P:Params):List (List Obj):=[
fM 15 187 "_wall" 1 1 (some ["k"]) "__main__" 164 0,
kC P 24 198 "Info" 5 "joinedhand.buffer" 194 [("__init__",217,35,7),("copied",225,42,24),("told",232,49,40)] 248 50 52 ["bond","cluster","code","glyph","is_unsafe","kind","lig_count","lig_id","lig_part","mask","parent","x_advance","x_offset","y_advance","y_offset"] ([fK 29 208 "__init__" "Info.__init__" 7 4 (some ["self","code","glyph","cluster"]) "joinedhand.buffer" 194 vn 2 0,fK 36 218 "copied" "Info.copied" 24 1 (some ["self","found"]) "joinedhand.buffer" 194 vn 2 1,fK 43 226 "told" "Info.told" 40 1 (some ["self"]) "joinedhand.buffer" 194 vn 2 2]),
kC P 59 258 "Buffer" 42 "joinedhand.buffer" 194 [("__init__",276,71,44),("glyphs",282,76,49),("clusters",288,81,52),("told",294,86,55),("next_lig",301,93,58)] 305 94 96 ["is_backward","last_lig","row"] ([eT (tup [vo false]),fK 65 268 "__init__" "Buffer.__init__" 44 3 (some ["self","infos","is_backward"]) "joinedhand.buffer" 194 (vr 64) 3 0,fK 72 277 "glyphs" "Buffer.glyphs" 49 1 none "joinedhand.buffer" 194 vn 3 1,fK 77 283 "clusters" "Buffer.clusters" 52 1 none "joinedhand.buffer" 194 vn 3 2,fK 82 289 "told" "Buffer.told" 55 1 none "joinedhand.buffer" 194 vn 3 3,fK 87 295 "next_lig" "Buffer.next_lig" 58 1 (some ["self"]) "joinedhand.buffer" 194 vn 3 4]),
eT (tup [vo false]),
LJ 102 313 "buffer_of" "buffer_of" 61 2 [] none (vs "joinedhand.buffer" 194) (vr 101) (sd 4) [] vn,
fM 107 319 "group_ends" 63 1 none "joinedhand.buffer" 194 5,
fM 112 325 "set_cluster" 66 2 (some ["info","cluster"]) "joinedhand.buffer" 194 6,
fM 119 333 "widened" 70 3 (some ["row","begin","end","first","behind"]) "joinedhand.buffer" 194 7,
fM 126 344 "merge" 78 3 none "joinedhand.buffer" 194 8,
fM 131 350 "hang" 85 3 none "joinedhand.buffer" 194 9,
fM 136 356 "drop_cluster" 93 2 none "joinedhand.buffer" 194 10,
fM 141 362 "put" 107 4 (some ["buffer","at","count","glyphs","first","found","glyph","info"]) "joinedhand.buffer" 194 11,
fM 148 376 "turn_row" 121 1 (some ["buffer","info"]) "joinedhand.buffer" 194 12,
fM 155 384 "spread_unsafe" 125 1 none "joinedhand.buffer" 194 13,
kC P 162 404 "Lookup" 139 "joinedhand.flags" 390 [("__init__",424,173,141),("told",430,178,147)] 435 179 181 ["flag","kind","mark_set","tables"] ([fK 167 414 "__init__" "Lookup.__init__" 141 5 (some ["self","kind","flag","mark_set","tables"]) "joinedhand.flags" 390 vn 20 0,fK 174 425 "told" "Lookup.told" 147 1 none "joinedhand.flags" 390 vn 20 1]),
kC P 188 445 "Scene" 150 "joinedhand.flags" 390 [("__init__",468,200,152)] 475 201 203 ["buffer","depth","gdef","lookup","lookups","mask"] ([eT (tup [vi 0 455]),fK 194 456 "__init__" "Scene.__init__" 152 7 (some ["self","buffer","gdef","lookups","lookup","mask","depth"]) "joinedhand.flags" 390 (vr 193) 21 0]),
fM 208 483 "attach_wanted" 159 1 (some ["flag"]) "joinedhand.flags" 390 22,
fM 215 490 "class_bit" 161 1 (some ["number"]) "joinedhand.flags" 390 23,
fM 222 497 "is_ignored" 163 3 (some ["gdef","lookup","glyph","number","wanted"]) "joinedhand.flags" 390 24,
fM 229 508 "passes" 173 2 (some ["scene","at"]) "joinedhand.flags" 390 25,
fM 236 516 "takes" 175 2 (some ["scene","at"]) "joinedhand.flags" 390 26,
fM 243 524 "nested_scene" 177 2 (some ["scene","number"]) "joinedhand.flags" 390 27,
eT (tup [vs "zwj" 534,vs "hidden" 535]),
eT (tup [vs "zwj" 537,vs "zwnj" 538,vs "hidden" 539]),
fM 252 541 "glyph_tests" 184 1 none "joinedhand.matching" 532 31,
fM 257 547 "cover_tests" 186 1 none "joinedhand.matching" 532 32,
fM 262 553 "fits" 188 2 (some ["test","glyph"]) "joinedhand.matching" 532 33,
fM 269 561 "neighbour" 194 3 (some ["scene","at","step","here"]) "joinedhand.matching" 532 34,
fM 276 571 "next_at" 201 2 (some ["scene","at"]) "joinedhand.matching" 532 35,
fM 283 579 "before_at" 203 2 (some ["scene","at"]) "joinedhand.matching" 532 36,
fM 290 587 "is_borne" 205 2 (some ["scene","info"]) "joinedhand.matching" 532 37,
fM 297 595 "found_at" 207 6 (some ["scene","at","step","test","kinds","is_input","here","info"]) "joinedhand.matching" 532 38,
fM 304 609 "input_at" 218 3 (some ["scene","at","tests","found","test","here"]) "joinedhand.matching" 532 39,
fM 311 621 "last_at" 228 4 (some ["scene","at","step","tests","here","test"]) "joinedhand.matching" 532 40,
fM 318 633 "ahead_at" 235 3 (some ["scene","at","tests"]) "joinedhand.matching" 532 41,
fM 325 642 "back_at" 237 3 (some ["scene","at","tests"]) "joinedhand.matching" 532 42,
fM 332 651 "is_piece" 239 1 (some ["info"]) "joinedhand.matching" 532 43,
fM 339 658 "hold_together" 241 2 (some ["row","positions","first","at","other"]) "joinedhand.matching" 532 44,
fM 346 673 "join_forward" 253 4 (some ["first","second","leave","enter","gap"]) "joinedhand.cursive" 669 47,
fM 353 684 "join_backward" 258 4 (some ["first","second","leave","enter","gap"]) "joinedhand.cursive" 669 48,
fM 360 695 "loosen" 263 1 (some ["info"]) "joinedhand.cursive" 669 49,
fM 367 702 "turn_chain" 266 3 (some ["row","child","parent","links","here","step","place","offset"]) "joinedhand.cursive" 669 50,
fM 374 716 "break_ring" 280 3 (some ["row","child","parent","here"]) "joinedhand.cursive" 669 51,
fM 381 726 "tie" 287 4 (some ["row","child","parent","offset"]) "joinedhand.cursive" 669 52,
fM 388 737 "apply_cursive" 294 3 (some ["scene","table","at","row","enter","before","leave"]) "joinedhand.cursive" 669 54,
fM 395 752 "difference" 314 2 (some ["one","other"]) "joinedhand.anchors" 750 56,
fM 402 764 "scene_with" 318 3 (some ["scene","flag","mark_set","lookup"]) "joinedhand.marks" 760 59,
fM 409 774 "is_mark_at" 321 2 (some ["scene","at"]) "joinedhand.marks" 760 60,
fM 416 782 "is_later_part" 323 2 (some ["scene","at","info","ahead"]) "joinedhand.marks" 760 61,
fM 423 792 "base_ahead" 329 2 (some ["scene","at","looking","here"]) "joinedhand.marks" 760 62,
fM 430 802 "set_on" 335 5 (some ["scene","marks","row","at","place","info","number","own","anchor"]) "joinedhand.marks" 760 63,
fM 437 817 "apply_base" 346 3 (some ["scene","table","at","place"]) "joinedhand.marks" 760 64,
fM 444 827 "component_of" 353 3 (some ["mark","ligature","count"]) "joinedhand.marks" 760 65,
fM 451 836 "apply_component" 357 3 (some ["scene","table","at","row","place","parts"]) "joinedhand.marks" 760 66,
fM 458 848 "are_of_one" 368 2 (some ["mark","other"]) "joinedhand.marks" 760 67,
fM 465 856 "apply_mark" 372 3 (some ["scene","table","at","row","passed","place"]) "joinedhand.marks" 760 68,
fM 472 868 "chain_from" 383 2 (some ["row","at","line","here"]) "joinedhand.marks" 760 69,
fM 479 878 "add_place" 390 2 (some ["info","other"]) "joinedhand.marks" 760 70,
fM 486 886 "take_advances" 394 3 (some ["info","between","sign","one"]) "joinedhand.marks" 760 71,
fM 493 896 "settle_one" 398 2 (some ["buffer","at","row","info","place"]) "joinedhand.marks" 760 72,
fM 500 907 "settle" 409 1 (some ["buffer","at","place","info"]) "joinedhand.marks" 760 73,
fM 507 923 "tests_of" 418 3 none "joinedhand.contexts" 917 77,
fM 512 929 "rule_tests" 422 2 (some ["table","rule","word","back","inside","ahead"]) "joinedhand.contexts" 917 78,
fM 519 941 "rules_at" 426 2 none "joinedhand.contexts" 917 79]
noncomputable def Sg:List Value:=tr [(1,20),(5,27),(42,62),(61,105),(63,110),(66,117),(70,124),(78,129),(85,134),(93,139),(107,146),(121,153),(125,158),(139,165),(150,191),(159,213),(161,220),(163,227),(173,234),(175,241),(177,248),(184,255),(186,260),(188,267),(194,274),(201,281),(203,288),(205,295),(207,302),(218,309),(228,316),(235,323),(237,330),(239,337),(241,344),(253,351),(258,358),(263,365),(266,372),(280,379),(287,386),(294,393),(314,400),(318,407),(321,414),(323,421),(329,428),(335,435),(346,442),(353,449),(357,456),(368,463),(372,470),(383,477),(390,484),(394,491),(398,498),(409,505),(418,510),(422,517),(426,522)]
noncomputable def r1:Obj:=fld Sg
noncomputable def e1(P:Params):List DictEntry:=[en P "__doc__" 166 vn,en P "__package__" 167 vn,en P "__loader__" 168 (vb "__main__.__loader__#opaque"),en P "__spec__" 169 vn]++eR P [("__annotations__",170,6),("__builtins__",171,4)]++[en P "__file__" 173 (vs "/claim/cut.py" 172),en P "__cached__" 174 vn]++eR P [("_wall",193,21),("Info",255,52),("Buffer",312,96),("buffer_of",318,106),("group_ends",324,111),("set_cluster",332,118),("widened",343,125),("merge",349,130),("hang",355,135),("drop_cluster",361,140),("put",375,147),("turn_row",383,154),("spread_unsafe",389,159)]++[en P "RIGHT_TO_LEFT" 393 (vi 1 392),en P "IGNORE_BASES" 395 (vi 2 394),en P "IGNORE_LIGATURES" 397 (vi 4 396),en P "IGNORE_MARKS" 399 (vi 8 398),en P "USE_SET" 401 (vi 16 400)]++eR P [("Lookup",442,181),("Scene",482,203),("attach_wanted",489,214),("class_bit",496,221),("is_ignored",507,228),("passes",515,235),("takes",523,242),("nested_scene",531,249),("KINDS_IN_INPUT",536,250),("KINDS_AROUND",540,251),("glyph_tests",546,256),("cover_tests",552,261),("fits",560,268),("neighbour",570,275),("next_at",578,282),("before_at",586,289),("is_borne",594,296),("found_at",608,303),("input_at",620,310),("last_at",632,317),("ahead_at",641,324),("back_at",650,331),("is_piece",657,338),("hold_together",668,345)]++[en P "BOND" 672 (vs "cursive" 671)]++eR P [("join_forward",683,352),("join_backward",694,359),("loosen",701,366),("turn_chain",715,373),("break_ring",725,380)]
noncomputable def RL(P:Params):List DictEntry:=eR P [("tie",735,727)]
noncomputable def Qk(P:Params):List DictEntry:=eR P [("tie_cursive",736,387),("apply_cursive",749,394),("difference",759,401)]++[en P "MARK_GLYPH" 763 (vi 3 762)]++eR P [("scene_with",773,408),("is_mark_at",781,415),("is_later_part",791,422),("base_ahead",801,429),("set_on",816,436),("apply_base",826,443),("component_of",835,450),("apply_component",847,457),("are_of_one",855,464),("apply_mark",867,471),("chain_from",877,478),("add_place",885,485),("take_advances",895,492),("settle_one",906,499),("settle",916,506)]++[en P "BY_GLYPHS" 920 (vi 1 919),en P "BY_CLASSES" 922 (vi 2 921)]++eR P [("tests_of",928,511),("rule_tests",940,518),("rules_at",946,523)]
noncomputable def RK(P:Params):List DictEntry:=[en P "MOST_DEPTH" 950 (vi 6 949),en P "MOST_PLACES" 952 (vi 64 951)]++eR P [("Places",983,540),("match_rule",999,551),("inner_scene",1007,558),("grow",1013,563),("shrink",1019,568),("move",1028,575),("do_action",1043,582),("do_actions",1054,589),("apply_context",1066,596),("add_value",1077,603),("apply_adjust",1088,610),("pair_told",1097,617),("moves_second",1103,622),("PairClasses",1151,650),("has_second",1158,661),("apply_pair",1170,668),("apply_position",1182,675),("position_at",1192,682),("beginnings_of_context",1201,689),("beginnings_of_pair",1207,694),("beginnings",1216,701),("run_position",1235,708)]++[en P "BASE_ligature" 1239 (vi 1 1238),en P "MARK_ligature" 1241 (vi 3 1240)]++eR P [("part_count",1248,715),("way_of",1254,720),("tie_ligature",1266,727),("tie_behind",1279,734),("tie_all",1295,741)]
noncomputable def Py(P:Params):List DictEntry:=eR P [("join",1301,999)]
noncomputable def Oc(P:Params):List DictEntry:=eR P [("join_ligature",1302,746),("apply_ligature",1316,753),("apply_reverse",1330,760),("Single",1367,782),("apply_single",1377,793),("apply_multiple",1390,800),("choice_of",1399,807),("apply_alternate",1411,814),("apply_table",1423,821),("substitute_at",1433,828),("run_forward",1443,835),("run_backward",1452,842),("run_substitution",1464,849)]++[en P "ZWNJ_hidden" 1468 (vi 8204 1467),en P "ZWJ_hidden" 1470 (vi 8205 1469)]++eR P [("hidden_spans",1476,856),("is_hidden_code",1485,863),("is_selector",1492,870),("kind_of_code",1499,877),("mark_kinds",1507,884),("selected",1518,891),("take_selectors",1528,898),("is_to_hide",1535,905),("made_blank",1543,912),("hide",1553,919),("FORMS_joining",1560,920),("JOINED_SCRIPTS",1562,921)]++[en P "ZWJ_joining" 1564 (vi 8205 1563),en P "TATWEEL" 1566 (vi 1600 1565)]++eR P [("in_ranges",1576,928),("right_ranges",1582,935),("dual_ranges",1588,942),("passed_ranges",1594,949),("joining_type",1601,956),("types_of",1607,961),("joins_on",1614,968),("joins_back",1621,975)]
noncomputable def Px(P:Params):List DictEntry:=eR P [("joined_pairs",1631,982),("form_of",1639,989),("forms_of",1645,994),("join_joining",1652,999),("is_joined_script",1659,1006)]++[en P "MARK_kern" 1663 (vi 3 1662)]++eR P [("next_kerned",1673,1013),("put_distance",1684,1020),("kern_row",1698,1027),("apply_kern",1708,1034),("Metrics",1761,1065),("advance",1769,1076),("BACKWARD_SCRIPTS",1777,1077),("lone_pairs",1783,1084),("side_rows",1789,1091),("mirror_pairs",1795,1096),("mirror_table",1804,1103),("is_backward_script",1811,1110),("mirror_row",1824,1118)]++[en P "HANGUL" 1828 (vi 44032 1827),en P "LEADS" 1830 (vi 4352 1829),en P "VOWELS_normal" 1832 (vi 4449 1831),en P "TAILS" 1834 (vi 4519 1833),en P "VOWEL_COUNT" 1836 (vi 21 1835),en P "TAIL_COUNT" 1838 (vi 28 1837),en P "LEAD_COUNT" 1840 (vi 19 1839),en P "MOST_STEPS" 1842 (vi 8 1841)]++eR P [("hangul_parts",1851,1125),("hangul_whole",1863,1132),("parts_of",1871,1139),("whole_of",1881,1146),("split_once",1890,1153),("splits",1900,1160),("had_parts",1906,1165),("mark_runs",1917,1172),("ordered_places",1923,1177),("is_blocked",1931,1184),("class_here",1939,1191),("take_apart",1953,1198),("order_row",1959,1203),("whole_here",1973,1210),("put_together",1988,1217),("normalise",1997,1224),("ShapeError",2041,1251),("PlanFault",2057,1264),("FALLBACKS",2063,1267)]++[en P "ALL_INFOS" 2065 (vi 1 2064)]++eR P [("second_tags",2071,1274),("script_tags",2079,1281),("choose_script",2088,1288),("choose_langsys",2096,1295),("feature_at",2104,1302),("required_feature",2112,1309),("feature_indexes",2124,1316),("add_lookups",2135,1323),("gather",2141,1329)]++[en P "MOST_BITS" 2145 (vi 31 2144),en P "MOST_VALUE" 2147 (vi 255 2146)]++eR P [("COMMON",2162,1330),("FORWARD",2165,1331),("BACKWARD",2167,1332),("JOINED_STAGES",2179,1339),("Wish",2225,1364),("Plan",2275,1391),("check_wish",2282,1402),("Want",2316,1420),("first_wants",2326,1431),("all_wants",2338,1438),("shared_out",2353,1445),("mask_at",2363,1452),("language_of",2372,1459),("has_feature",2381,1466)]
noncomputable def RM(P:Params):List DictEntry:=eR P [("gathered",2394,1473),("stage_tags",2400,1478),("required_stage",2406,1483),("make_plan",2412,1488),("set_masks",2426,1495),("CONSONANTS",2433,1498),("VOWELS_syllables",2438,1501),("MATRAS",2445,1505),("SIGNS",2450,1508)]++[en P "VIRAMA" 2452 (vi 2381 2451),en P "NUKTA" 2454 (vi 2364 2453),en P "MATRA_I" 2456 (vi 2367 2455),en P "ZWNJ_syllables" 2458 (vi 8204 2457),en P "ZWJ_syllables" 2460 (vi 8205 2459),en P "DOTTED_CIRCLE" 2462 (vi 9676 2461)]++eR P [("is_within",2472,1515),("kinds_of",2481,1522),("kind_at",2489,1529),("past",2498,1536),("past_viramas",2507,1543),("syllable_end",2518,1550),("syllables",2524,1555),("is_broken",2532,1562),("matra_goal",2543,1569),("move_matras",2549,1574),("put_circle",2558,1581),("reorder",2564,1587)]++[en P "MARK_shaper" 2568 (vi 3 2567),en P "SPACE" 2570 (vi 32 2569)]++eR P [("FORMS_shaper",2575,1588),("Shaped",2613,1612),("feature_mask",2623,1623),("read_letters",2632,1630),("shape_letters",2638,1635),("map_glyphs",2647,1642),("substitute",2659,1649),("set_advances",2668,1656),("place_glyphs",2679,1663),("shaped_rows",2685,1668),("shape_by",2697,1675),("shape_codes",2714,1684),("find",2726,1691),("CharMap",2780,1726),("Font",2835,1760),("layout_told",2842,1771),("ClassDef",2904,1814)]++[en P "NO_CLASS" 2908 (vi 0 2907),en P "BASE_gdef" 2910 (vi 1 2909),en P "COMPONENT" 2912 (vi 4 2911)]++eR P [("Gdef",2981,1862),("no_gdef",2987,1873),("LangSys",3027,1897),("Script",3066,1923),("Feature",3104,1951),("Layout",3143,1977),("_law_codes",3160,1989),("_law_tags",3171,1990),("_law_stage",3177,1997),("_law_box",3183,2002),("_law_draw",3193,2009),("_law_forms",3199,2014),("_law_counts",3211,2021),("_law_glyph",3231,2028),("law",3237,2033)]
noncomputable def m1(P:Params):Obj:=DQ ([en P "__name__" 165 (vs "joinedhand.contexts" 917)]++e1 P++(eR P [("tie",735,387)])++Qk P) 82
noncomputable def c1(P:Params):Obj:=KG [] 0
noncomputable def n2(P:Params):List (List Obj):=[
kC P 526 955 "Places" 437 "joinedhand.nested" 947 [("__init__",973,537,439)] 976 538 540 ["end","row"] ([fK 531 965 "__init__" "Places.__init__" 439 3 (some ["self","row","end"]) "joinedhand.nested" 947 vn 83 0]),
fM 545 984 "match_rule" 442 3 (some ["scene","at","tests","back","inside","ahead","actions","places","begin","end"]) "joinedhand.nested" 947 84,
fM 552 1000 "inner_scene" 452 2 (some ["scene","number"]) "joinedhand.nested" 947 85,
fM 559 1008 "grow" 454 3 none "joinedhand.nested" 947 86,
fM 564 1014 "shrink" 457 3 none "joinedhand.nested" 947 87,
fM 569 1020 "move" 460 3 (some ["places","index","change"]) "joinedhand.nested" 947 88,
fM 576 1029 "do_action" 469 4 (some ["scene","places","action","apply_at","index","number","inner","size","change"]) "joinedhand.nested" 947 89,
fM 583 1044 "do_actions" 486 4 (some ["scene","places","actions","apply_at","action"]) "joinedhand.nested" 947 90,
fM 590 1055 "apply_context" 491 4 (some ["scene","table","at","apply_at","tests","found"]) "joinedhand.nested" 947 91,
fM 597 1069 "add_value" 499 3 (some ["info","value","is_backward"]) "joinedhand.values" 1067 93,
fM 604 1078 "apply_adjust" 503 3 (some ["scene","table","at","info","value"]) "joinedhand.values" 1067 94,
fM 611 1091 "pair_told" 511 1 (some ["pair"]) "joinedhand.pair" 1089 96,
fM 618 1098 "moves_second" 513 1 none "joinedhand.pair" 1089 97,
kC P 625 1106 "PairClasses" 515 "joinedhand.pair" 1089 [("__init__",1121,635,517),("find",1132,642,524),("told",1138,647,533)] 1144 648 650 ["coverage","firsts","is_second","rows","seconds"] ([eT (tup [vo false]),fK 631 1116 "__init__" "PairClasses.__init__" 517 6 none "joinedhand.pair" 1089 (vr 630) 98 0,fK 636 1122 "find" "PairClasses.find" 524 3 (some ["self","first","second","one","other"]) "joinedhand.pair" 1089 vn 98 1,fK 643 1133 "told" "PairClasses.told" 533 1 none "joinedhand.pair" 1089 vn 98 2]),
fM 655 1152 "has_second" 536 1 (some ["table"]) "joinedhand.pair" 1089 99,
fM 662 1159 "apply_pair" 538 3 (some ["scene","table","at","later","row","pair"]) "joinedhand.pair" 1089 100,
fM 669 1173 "apply_position" 551 4 (some ["kind","scene","table","at"]) "joinedhand.gpos" 1171 102,
fM 676 1183 "position_at" 565 2 (some ["scene","at","table","found"]) "joinedhand.gpos" 1171 103,
fM 683 1193 "beginnings_of_context" 571 1 (some ["table","found","rule"]) "joinedhand.gpos" 1171 104,
fM 690 1202 "beginnings_of_pair" 580 1 none "joinedhand.gpos" 1171 105,
fM 695 1208 "beginnings" 584 2 (some ["kind","table","found"]) "joinedhand.gpos" 1171 106,
fM 702 1217 "run_position" 596 5 (some ["buffer","gdef","lookups","number","mask","lookup","known","table","glyph","scene","at","found","info"]) "joinedhand.gpos" 1171 107,
fM 709 1242 "part_count" 613 1 (some ["info"]) "joinedhand.ligature" 1236 111,
fM 716 1249 "way_of" 615 2 none "joinedhand.ligature" 1236 112,
fM 721 1255 "tie" 619 4 (some ["info","lig_id","ahead","count","part"]) "joinedhand.ligature" 1236 113,
fM 728 1267 "tie_behind" 625 6 (some ["row","at","old_id","lig_id","ahead","count","spot"]) "joinedhand.ligature" 1236 115,
fM 735 1280 "tie_all" 630 4 (some ["row","places","way","lig_id","last","ahead","count","old_id","spot","passed"]) "joinedhand.ligature" 1236 116,
fM 742 1296 "join" 642 3 none "joinedhand.ligature" 1236 117,
fM 747 1303 "apply_ligature" 659 3 (some ["scene","table","at","row","first","rest","ligature","places"]) "joinedhand.ligature" 1236 119,
fM 754 1319 "apply_reverse" 672 3 (some ["scene","table","at","info","begin","end"]) "joinedhand.reverse" 1317 121,
kC P 763 1335 "Single" 684 "joinedhand.single" 1331 [("__init__",1352,774,686),("told",1358,779,689)] 1360 780 782 ["mapping"] ([fK 768 1345 "__init__" "Single.__init__" 686 2 (some ["self","mapping"]) "joinedhand.single" 1331 vn 123 0,fK 775 1353 "told" "Single.told" 689 1 none "joinedhand.single" 1331 vn 123 1]),
fM 787 1368 "apply_single" 691 3 (some ["scene","table","at","info"]) "joinedhand.single" 1331 124,
fM 794 1378 "apply_multiple" 697 3 (some ["scene","table","at","info","pieces","is_bound","part"]) "joinedhand.single" 1331 125,
fM 801 1391 "choice_of" 711 2 (some ["mask","bits","choice"]) "joinedhand.single" 1331 126,
fM 808 1400 "apply_alternate" 719 3 (some ["scene","table","at","info","choices","choice"]) "joinedhand.single" 1331 127,
fM 815 1414 "apply_table" 728 4 (some ["scene","kind","table","at"]) "joinedhand.gsub" 1412 129,
fM 822 1424 "substitute_at" 740 2 (some ["scene","at","table","found"]) "joinedhand.gsub" 1412 130,
fM 829 1434 "run_forward" 746 1 (some ["scene","count","at","found"]) "joinedhand.gsub" 1412 131,
fM 836 1444 "run_backward" 757 1 (some ["scene","count","at"]) "joinedhand.gsub" 1412 132,
fM 843 1453 "run_substitution" 763 5 (some ["buffer","gdef","lookups","number","mask","scene"]) "joinedhand.gsub" 1412 133,
fM 850 1471 "hidden_spans" 771 0 (some []) "joinedhand.hidden" 1465 137,
fM 857 1477 "is_hidden_code" 773 1 (some ["code","first","last"]) "joinedhand.hidden" 1465 138,
fM 864 1486 "is_selector" 778 1 (some ["code"]) "joinedhand.hidden" 1465 139,
fM 871 1493 "kind_of_code" 780 1 (some ["code"]) "joinedhand.hidden" 1465 140,
fM 878 1500 "mark_kinds" 786 1 (some ["buffer","info"]) "joinedhand.hidden" 1465 141,
fM 885 1508 "selected" 789 3 (some ["charmap","info","selector","glyph","is_known"]) "joinedhand.hidden" 1465 142,
fM 892 1519 "take_selectors" 794 2 (some ["buffer","charmap","at","glyph"]) "joinedhand.hidden" 1465 143,
fM 899 1529 "is_to_hide" 806 1 (some ["info"]) "joinedhand.hidden" 1465 144,
fM 906 1536 "made_blank" 808 2 (some ["info","space"]) "joinedhand.hidden" 1465 145,
fM 913 1544 "hide" 814 2 (some ["buffer","space","info","at"]) "joinedhand.hidden" 1465 146,
eT (tup [vs "isol" 1556,vs "fina" 1557,vs "medi" 1558,vs "init" 1559]),
eT (tup [vs "arab" 1561]),
fM 922 1567 "in_ranges" 831 2 (some ["ranges","code","first","last"]) "joinedhand.joining" 1554 152,
fM 929 1577 "right_ranges" 836 0 (some []) "joinedhand.joining" 1554 153,
fM 936 1583 "dual_ranges" 838 0 (some []) "joinedhand.joining" 1554 154,
fM 943 1589 "passed_ranges" 840 0 (some []) "joinedhand.joining" 1554 155,
fM 950 1595 "joining_type" 842 1 (some ["code"]) "joinedhand.joining" 1554 156,
fM 957 1602 "types_of" 850 1 none "joinedhand.joining" 1554 157,
fM 962 1608 "joins_on" 856 1 (some ["sort"]) "joinedhand.joining" 1554 158,
fM 969 1615 "joins_back" 858 1 (some ["sort"]) "joinedhand.joining" 1554 159]
noncomputable def Sf:List Value:=Sg++tr [(437,529),(442,550),(452,557),(454,562),(457,567),(460,574),(469,581),(486,588),(491,595),(499,602),(503,609),(511,616),(513,621),(515,628),(536,660),(538,667),(551,674),(565,681),(571,688),(580,693),(584,700),(596,707),(613,714),(615,719),(619,726),(625,733),(630,740),(642,745),(659,752),(672,759),(684,766),(691,792),(697,799),(711,806),(719,813),(728,820),(740,827),(746,834),(757,841),(763,848),(771,855),(773,862),(778,869),(780,876),(786,883),(789,890),(794,897),(806,904),(808,911),(814,918),(831,927),(836,934),(838,941),(840,948),(842,955),(850,960),(856,967),(858,974)]
noncomputable def r2:Obj:=fld Sf
noncomputable def m2(P:Params):Obj:=DQ ([en P "__name__" 165 (vs "joinedhand.joining" 1554)]++e1 P++RL P++Qk P++RK P++(eR P [("join",1301,746)])++Oc P) 151
noncomputable def c2(P:Params):Obj:=KG [] 0
noncomputable def n3(P:Params):List (List Obj):=[
fM 976 1622 "joined_pairs" 860 1 (some ["types","found","last","at"]) "joinedhand.joining" 1554 160,
fM 983 1632 "form_of" 869 2 (some ["has_before","has_behind"]) "joinedhand.joining" 1554 161,
fM 990 1640 "forms_of" 873 1 none "joinedhand.joining" 1554 162,
fM 995 1646 "join" 880 2 none "joinedhand.joining" 1554 163,
fM 1000 1653 "is_joined_script" 888 1 (some ["tag"]) "joinedhand.joining" 1554 165,
fM 1007 1664 "next_kerned" 892 3 (some ["row","at","gdef","spot"]) "joinedhand.kern" 1660 168,
fM 1014 1674 "put_distance" 897 3 (some ["one","other","distance","half","rest"]) "joinedhand.kern" 1660 169,
fM 1021 1685 "kern_row" 903 4 (some ["buffer","gdef","pairs","mask","row","at","behind","distance"]) "joinedhand.kern" 1660 170,
fM 1028 1699 "apply_kern" 914 4 (some ["buffer","gdef","pairs","mask"]) "joinedhand.kern" 1660 171,
kC P 1037 1713 "Metrics" 922 "joinedhand.metrics" 1709 [("__init__",1734,1048,924),("glyph_count",1741,1055,931),("told",1748,1062,934)] 1754 1063 1065 ["advances","ascent","bearings","descent","units"] ([fK 1042 1723 "__init__" "Metrics.__init__" 924 6 (some ["self","units","ascent","descent","advances","bearings"]) "joinedhand.metrics" 1709 vn 173 0,fK 1049 1735 "glyph_count" "Metrics.glyph_count" 931 1 (some ["self"]) "joinedhand.metrics" 1709 vn 173 1,fK 1056 1742 "told" "Metrics.told" 934 1 (some ["self"]) "joinedhand.metrics" 1709 vn 173 2]),
fM 1070 1762 "advance" 936 2 (some ["metrics","glyph"]) "joinedhand.metrics" 1709 174,
eT (tup [vs "arab" 1772,vs "hebr" 1773,vs "syrc" 1774,vs "thaa" 1775,vs "nko " 1776]),
fM 1078 1778 "lone_pairs" 940 0 (some []) "joinedhand.mirror" 1770 177,
fM 1085 1784 "side_rows" 942 0 (some []) "joinedhand.mirror" 1770 178,
fM 1092 1790 "mirror_pairs" 944 0 none "joinedhand.mirror" 1770 179,
fM 1097 1796 "mirror_table" 949 0 (some ["table","one","other"]) "joinedhand.mirror" 1770 180,
fM 1104 1805 "is_backward_script" 955 1 (some ["tag"]) "joinedhand.mirror" 1770 181,
eT (tup [vi 0 1812]),
LJ 1112 1813 "mirror_row" "mirror_row" 957 3 [] (some ["buffer","charmap","mask","table","info","other"]) (vs "joinedhand.mirror" 1770) (vr 1111) (sd 182) [] vn,
fM 1119 1843 "hangul_parts" 976 1 (some ["code","number","tail"]) "joinedhand.normal" 1825 192,
fM 1126 1852 "hangul_whole" 984 2 (some ["first","second","lead","vowel","number","is_open"]) "joinedhand.normal" 1825 193,
fM 1133 1864 "parts_of" 994 2 (some ["normal","code"]) "joinedhand.normal" 1825 194,
fM 1140 1872 "whole_of" 998 3 (some ["wholes","first","second","found"]) "joinedhand.normal" 1825 195,
fM 1147 1882 "split_once" 1001 2 (some ["normal","codes","pair"]) "joinedhand.normal" 1825 196,
fM 1154 1891 "splits" 1008 2 (some ["normal","code","found","later"]) "joinedhand.normal" 1825 197,
fM 1161 1901 "had_parts" 1016 3 none "joinedhand.normal" 1825 198,
fM 1166 1907 "mark_runs" 1021 1 (some ["classes","runs","begin","at","is_one"]) "joinedhand.normal" 1825 199,
fM 1173 1918 "ordered_places" 1032 3 none "joinedhand.normal" 1825 200,
fM 1178 1924 "is_blocked" 1034 2 (some ["last","here"]) "joinedhand.normal" 1825 201,
fM 1185 1932 "class_here" 1036 2 (some ["normal","info"]) "joinedhand.normal" 1825 202,
fM 1192 1940 "take_apart" 1038 3 (some ["buffer","normal","charmap","found","info","row","code","part"]) "joinedhand.normal" 1825 203,
fM 1199 1954 "order_row" 1047 2 none "joinedhand.normal" 1825 204,
fM 1204 1960 "whole_here" 1054 5 (some ["buffer","wholes","charmap","start","at","first","second","whole"]) "joinedhand.normal" 1825 205,
fM 1211 1974 "put_together" 1061 3 (some ["buffer","normal","charmap","wholes","start","last","at","here","whole"]) "joinedhand.normal" 1825 206,
fM 1218 1989 "normalise" 1080 3 (some ["buffer","normal","charmap"]) "joinedhand.normal" 1825 207,
eT (tup [vt "Exception"]),
eT (wW "builtin_function_or_method" [vb "type.__prepare__",vt "type"]),
eT (DQ [en P "__module__" 2007 (vs "joinedhand.errors" 1998),en P "__qualname__" 2009 (vs "ShapeError" 2008),en P "__firstlineno__" 2011 (vi 1085 2010),en P "__init__" 2023 (vr 1241),en P "told" 2030 (vr 1248),en P "__static_attributes__" 2033 (vr 1249),en P "__classcell__" 2034 (vr 1228)] 7),
eT (cel (some (vr 1251))),
eT (tup []),
eT (fld [vi 1087 0,vi 4 0,vr 1240,vi 1092 0,vi 4 0,vr 1247]),
eT (OE [vs "ShapeError" 2002,vs "ShapeError" 2003,vs "/claim/cut.py" 2004,vi 1085 0,vi 0 0,vi 0 0,vi 0 0,vi 0 0,vr 1229,vo false,vi 181 0,vr 1230,vn,vn,vn,vn,vi 2005 0,vi 1085 0,vs "/claim/cut.py" 2006]),
eT (Pt [some (vr 1231),some (vr 3),some (vr 1227),none,some (vs "joinedhand.errors" 1998),none,some (vr 0)]),
eT (tup [vi (-1) 2013]),
eT (tup [vr 1228]),
LJ 1235 2014 "__init__" "ShapeError.__init__" 1087 3 ["__class__"] (some ["self","what","at"]) (vs "joinedhand.errors" 1998) (vr 1233) (md 209 0) [("__class__",1228)] (vr 1234),
fK 1242 2024 "told" "ShapeError.told" 1092 1 (some ["self"]) "joinedhand.errors" 1998 vn 209 1,
eT (tup [vs "at" 2031,vs "what" 2032]),
eT (DQ [en P "__module__" 2007 (vs "joinedhand.errors" 1998),en P "__firstlineno__" 2011 (vi 1085 2010),en P "__init__" 2023 (vr 1241),en P "told" 2030 (vr 1248),en P "__static_attributes__" 2033 (vr 1249),en P "__weakref__" 2036 (vr 1252),en P "__doc__" 2037 vn] 4),
eT (cls "ShapeError" [vt "Exception"] [vr 1251,vt "Exception",vt "BaseException",vt "object"] 1250 [] [some (vr 1225),none,some (vs "ShapeError" 2000),some (vs "ShapeError" 2008),some (vb "Exception.__new__"),some (vo true)]),
eT (wW "getset_descriptor" [vs "__weakref__" 2035,vr 1251,vb "ExceptionGroup.__weakref__",vn]),
eT (wW "super" [vr 1251,vr 1251,vr 1251]),
eT (wW "builtin_function_or_method" [vb "object.__init_subclass__",vr 1251]),
eT (tup [vr 1251]),
eT (wW "builtin_function_or_method" [vb "type.__prepare__",vt "type"]),
eT (DQ [en P "__module__" 2049 (vs "joinedhand.errors" 1998),en P "__qualname__" 2051 (vs "PlanFault" 2050),en P "__firstlineno__" 2053 (vi 1094 2052),en P "__static_attributes__" 2054 (vr 1262)] 4),
eT (tup []),
eT (fld []),
eT (OE [vs "PlanFault" 2044,vs "PlanFault" 2045,vs "/claim/cut.py" 2046,vi 1094 0,vi 0 0,vi 0 0,vi 0 0,vi 0 0,vr 1258,vo false,vi 181 0,vr 1259,vn,vn,vn,vn,vi 2047 0,vi 1094 0,vs "/claim/cut.py" 2048]),
eT (Pt [some (vr 1260),some (vr 3),some (vr 1257),none,some (vs "joinedhand.errors" 1998),none,some (vr 0)]),
eT (tup []),
eT (DQ [en P "__module__" 2049 (vs "joinedhand.errors" 1998),en P "__firstlineno__" 2053 (vi 1094 2052),en P "__static_attributes__" 2054 (vr 1262),en P "__doc__" 2055 vn] 2),
eT (cls "PlanFault" [vr 1251] [vr 1264,vr 1251,vt "Exception",vt "BaseException",vt "object"] 1263 [] [some (vr 1255),none,some (vs "PlanFault" 2042),some (vs "PlanFault" 2050),some (vb "Exception.__new__"),some (vo true)]),
eT (wW "super" [vr 1264,vr 1264,vr 1264]),
eT (wW "builtin_function_or_method" [vb "object.__init_subclass__",vr 1264]),
eT (tup [vs "DFLT" 2060,vs "dflt" 2061,vs "latn" 2062]),
fM 1268 2066 "second_tags" 1099 0 (some []) "joinedhand.choosing" 2058 214,
fM 1275 2072 "script_tags" 1101 1 (some ["tag","newer"]) "joinedhand.choosing" 2058 215,
fM 1282 2080 "choose_script" 1104 2 (some ["layout","tags","tag"]) "joinedhand.choosing" 2058 216,
fM 1289 2089 "choose_langsys" 1109 2 (some ["script","tag"]) "joinedhand.choosing" 2058 217,
fM 1296 2097 "feature_at" 1113 2 (some ["layout","number"]) "joinedhand.choosing" 2058 218,
fM 1303 2105 "required_feature" 1117 2 (some ["layout","langsys"]) "joinedhand.choosing" 2058 219,
fM 1310 2113 "feature_indexes" 1121 3 (some ["layout","langsys","tag","found","number","feature"]) "joinedhand.choosing" 2058 220,
fM 1317 2125 "add_lookups" 1129 4 (some ["masks","layout","feature","mask","number"]) "joinedhand.choosing" 2058 221,
eT (tup [vo true]),
LJ 1325 2136 "gather" "gather" 1133 4 [] none (vs "joinedhand.choosing" 2058) (vr 1324) (sd 222) [] vn,
eT (tup [vs "abvm" 2148,vs "blwm" 2149,vs "ccmp" 2150,vs "locl" 2151,vs "mark" 2152,vs "mkmk" 2153,vs "rlig" 2154,vs "calt" 2155,vs "clig" 2156,vs "curs" 2157,vs "dist" 2158,vs "kern" 2159,vs "liga" 2160,vs "rclt" 2161]),
eT (tup [vs "ltra" 2163,vs "ltrm" 2164]),
eT (tup [vs "rtla" 2166]),
eT (tup [vs "ccmp" 2168,vs "locl" 2169,vs "ltra" 2170,vs "ltrm" 2171,vs "rtla" 2172,vs "rtlm" 2173]),
eT (tup [vs "isol" 2174]),
eT (tup [vs "fina" 2175]),
eT (tup [vs "medi" 2176]),
eT (tup [vs "init" 2177]),
eT (tup [vs "rlig" 2178]),
eT (tup [vr 1333,vr 1334,vr 1335,vr 1336,vr 1337,vr 1338]),
kC P 1342 2182 "Wish" 1150 "joinedhand.plan" 2142 [("__init__",2206,1354,1152),("is_whole",2213,1361,1158)] 2218 1362 1364 ["begin","end","tag","value"] ([eT (tup [vi 1 2192,vi 0 2193,vi (-1) 2195]),fK 1348 2196 "__init__" "Wish.__init__" 1152 5 (some ["self","tag","value","begin","end"]) "joinedhand.plan" 2142 (vr 1347) 230 0,fK 1355 2207 "is_whole" "Wish.is_whole" 1158 1 (some ["self"]) "joinedhand.plan" 2142 vn 230 1]),
kC P 1371 2228 "Plan" 1160 "joinedhand.plan" 2142 [("__init__",2253,1383,1162),("told",2259,1388,1172)] 2268 1389 1391 ["defaults","has_kern","is_backward","language","masks","positions","script","stages"] ([eT (tup [vi 1 2238]),fK 1377 2239 "__init__" "Plan.__init__" 1162 9 (some ["self","script","language","is_backward","masks","stages","positions","has_kern","defaults"]) "joinedhand.plan" 2142 (vr 1376) 231 0,fK 1384 2254 "told" "Plan.told" 1172 1 none "joinedhand.plan" 2142 vn 231 1]),
fM 1396 2276 "check_wish" 1176 1 (some ["wish"]) "joinedhand.plan" 2142 232,
kC P 1405 2285 "Want" 1181 "joinedhand.plan" 2142 [("__init__",2304,1417,1183)] 2309 1418 1420 ["has_own","is_set","most","value"] ([eT (tup [vo false]),fK 1411 2295 "__init__" "Want.__init__" 1183 4 (some ["self","value","most","is_set"]) "joinedhand.plan" 2142 (vr 1410) 233 0]),
fM 1425 2317 "first_wants" 1188 2 (some ["script","is_backward","found","tag"]) "joinedhand.plan" 2142 234,
fM 1432 2327 "all_wants" 1198 3 (some ["script","is_backward","wishes","found","wish","want"]) "joinedhand.plan" 2142 235,
fM 1439 2339 "shared_out" 1211 2 (some ["wants","tags","masks","defaults","shift","tag","want","most","bits"]) "joinedhand.plan" 2142 236,
fM 1446 2354 "mask_at" 1228 2 (some ["masks","tag","shift","bits"]) "joinedhand.plan" 2142 237,
fM 1453 2364 "language_of" 1233 3 (some ["layout","script","language"]) "joinedhand.plan" 2142 238,
fM 1460 2373 "has_feature" 1237 3 (some ["layout","langsys","tag"]) "joinedhand.plan" 2142 239]
noncomputable def Se:List Value:=Sf++tr [(860,981),(869,988),(873,993),(880,998),(888,1005),(892,1012),(897,1019),(903,1026),(914,1033),(922,1040),(936,1075),(940,1083),(942,1090),(944,1095),(949,1102),(955,1109),(957,1117),(976,1124),(984,1131),(994,1138),(998,1145),(1001,1152),(1008,1159),(1016,1164),(1021,1171),(1032,1176),(1034,1183),(1036,1190),(1038,1197),(1047,1202),(1054,1209),(1061,1216),(1080,1223),(1085,1231),(1094,1260),(1099,1273),(1101,1280),(1104,1287),(1109,1294),(1113,1301),(1117,1308),(1121,1315),(1129,1322),(1133,1328),(1150,1345),(1160,1374),(1176,1401),(1181,1408),(1188,1430),(1198,1437),(1211,1444),(1228,1451),(1233,1458),(1237,1465)]
noncomputable def r3:Obj:=fld Se
noncomputable def m3(P:Params):Obj:=DQ ([en P "__name__" 165 (vs "joinedhand.plan" 2142)]++e1 P++RL P++Qk P++RK P++Py P++Oc P++Px P) 223
noncomputable def c3(P:Params):Obj:=KG [(en P "type.__subclasses__.Exception.0" 2038 (vi (1251) 0)),(en P "type.__subclasses__.Exception.n" 2039 (vi (1) 0))] 2
noncomputable def n4(P:Params):List (List Obj):=[
fM 1467 2382 "gathered" 1239 5 (some ["layout","langsys","masks","tags","is_required","wishes","tag"]) "joinedhand.plan" 2142 240,
fM 1474 2395 "stage_tags" 1247 2 none "joinedhand.plan" 2142 241,
fM 1479 2401 "required_stage" 1253 3 none "joinedhand.plan" 2142 242,
fM 1484 2407 "make_plan" 1258 5 none "joinedhand.plan" 2142 243,
fM 1489 2413 "set_masks" 1274 3 (some ["buffer","plan","wishes","info","wish","shift","bits","rest"]) "joinedhand.plan" 2142 244,
eT (tup [vi 2325 2429,vi 2361 2430]),
eT (tup [vi 2392 2431,vi 2399 2432]),
eT (tup [vr 1496,vr 1497]),
eT (tup [vi 2308 2434,vi 2324 2435]),
eT (tup [vi 2400 2436,vi 2401 2437]),
eT (tup [vr 1499,vr 1500]),
eT (tup [vi 2366 2439,vi 2366 2440]),
eT (tup [vi 2368 2441,vi 2380 2442]),
eT (tup [vi 2402 2443,vi 2403 2444]),
eT (tup [vr 1502,vr 1503,vr 1504]),
eT (tup [vi 2304 2446,vi 2307 2447]),
eT (tup [vi 2385 2448,vi 2388 2449]),
eT (tup [vr 1506,vr 1507]),
fM 1509 2463 "is_within" 1295 2 (some ["code","spans","first","last"]) "joinedhand.syllables" 2427 256,
fM 1516 2473 "kinds_of" 1300 1 (some ["code","kind","spans"]) "joinedhand.syllables" 2427 257,
fM 1523 2482 "kind_at" 1313 2 (some ["kinds","at"]) "joinedhand.syllables" 2427 258,
fM 1530 2490 "past" 1315 3 (some ["kinds","at","kind"]) "joinedhand.syllables" 2427 259,
fM 1537 2499 "past_viramas" 1319 2 (some ["kinds","at","behind"]) "joinedhand.syllables" 2427 260,
fM 1544 2508 "syllable_end" 1326 2 (some ["kinds","begin","kind","at","is_closed"]) "joinedhand.syllables" 2427 261,
fM 1551 2519 "syllables" 1336 1 none "joinedhand.syllables" 2427 262,
fM 1556 2525 "is_broken" 1345 2 (some ["codes","begin"]) "joinedhand.syllables" 2427 263,
fM 1563 2533 "matra_goal" 1347 3 (some ["codes","begin","end","goal","at"]) "joinedhand.syllables" 2427 264,
fM 1570 2544 "move_matras" 1353 3 none "joinedhand.syllables" 2427 265,
fM 1575 2550 "put_circle" 1367 2 (some ["buffer","at","circle"]) "joinedhand.syllables" 2427 266,
eT (tup [vo false]),
LJ 1583 2559 "reorder" "reorder" 1373 2 [] none (vs "joinedhand.syllables" 2427) (vr 1582) (sd 267) [] vn,
eT (tup [vs "isol" 2571,vs "init" 2572,vs "medi" 2573,vs "fina" 2574]),
kC P 1591 2578 "Shaped" 1384 "joinedhand.shaper" 2565 [("__init__",2596,1602,1386),("told",2603,1609,1390)] 2606 1610 1612 ["is_backward","rows"] ([fK 1596 2588 "__init__" "Shaped.__init__" 1386 3 (some ["self","rows","is_backward"]) "joinedhand.shaper" 2565 vn 272 0,fK 1603 2597 "told" "Shaped.told" 1390 1 (some ["self"]) "joinedhand.shaper" 2565 vn 272 1]),
fM 1617 2614 "feature_mask" 1392 2 (some ["plan","tag","shift","bits"]) "joinedhand.shaper" 2565 273,
fM 1624 2624 "read_letters" 1395 3 (some ["buffer","charmap","normal"]) "joinedhand.shaper" 2565 274,
fM 1631 2633 "shape_letters" 1400 3 none "joinedhand.shaper" 2565 275,
fM 1636 2639 "map_glyphs" 1407 2 (some ["buffer","charmap","info"]) "joinedhand.shaper" 2565 276,
fM 1643 2648 "substitute" 1411 3 (some ["buffer","font","plan","stage","number","mask"]) "joinedhand.shaper" 2565 277,
fM 1650 2660 "set_advances" 1415 2 (some ["buffer","font","info"]) "joinedhand.shaper" 2565 278,
fM 1657 2669 "place_glyphs" 1419 3 (some ["buffer","font","plan","number","mask"]) "joinedhand.shaper" 2565 279,
fM 1664 2680 "shaped_rows" 1425 1 none "joinedhand.shaper" 2565 280,
fM 1669 2686 "shape_by" 1427 5 (some ["font","codes","plan","wishes","normal","buffer"]) "joinedhand.shaper" 2565 281,
eT (tup []),
eT (tup [vs "DFLT" 2698,vs "dflt" 2699,vr 1676,vn,vn]),
LJ 1678 2700 "shape_codes" "shape_codes" 1441 7 [] (some ["font","codes","script","language","wishes","normal","shelf","is_backward","plan"]) (vs "joinedhand.shaper" 2565) (vr 1677) (sd 282) [] vn,
fM 1685 2717 "find" 1449 3 (some ["variations","selector","code","glyph"]) "joinedhand.selectors" 2715 284,
kC P 1694 2731 "CharMap" 1455 "joinedhand.charmap" 2727 [("__init__",2746,1704,1457),("glyph",2754,1711,1461),("glyph_of",2764,1718,1464),("told",2770,1723,1472)] 2773 1724 1726 ["codes","variations"] ([eT (tup [vn]),fK 1700 2741 "__init__" "CharMap.__init__" 1457 3 none "joinedhand.charmap" 2727 (vr 1699) 286 0,fK 1705 2747 "glyph" "CharMap.glyph" 1461 2 (some ["self","code"]) "joinedhand.charmap" 2727 vn 286 1,fK 1712 2755 "glyph_of" "CharMap.glyph_of" 1464 3 (some ["self","code","selector","found"]) "joinedhand.charmap" 2727 vn 286 2,fK 1719 2765 "told" "CharMap.told" 1472 1 none "joinedhand.charmap" 2727 vn 286 3]),
eT (tup []),
eT (wW "builtin_function_or_method" [vb "type.__prepare__",vt "type"]),
eT (DQ [en P "__module__" 2790 (vs "joinedhand.font" 2781),en P "__qualname__" 2792 (vs "Font" 2791),en P "__firstlineno__" 2794 (vi 1476 2793),en P "__init__" 2807 (vr 1744),en P "glyph_count" 2815 (vr 1752),en P "told" 2821 (vr 1757),en P "__static_attributes__" 2828 (vr 1758)] 7),
eT (tup []),
eT (fld [vi 1478 0,vi 4 0,vr 1743,vi 1487 0,vi 4 0,vr 1750,vi 1490 0,vi 4 0,vr 1756]),
eT (OE [vs "Font" 2785,vs "Font" 2786,vs "/claim/cut.py" 2787,vi 1476 0,vi 0 0,vi 0 0,vi 0 0,vi 0 0,vr 1734,vo false,vi 181 0,vr 1735,vn,vn,vn,vn,vi 2788 0,vi 1476 0,vs "/claim/cut.py" 2789]),
eT (Pt [some (vr 1736),some (vr 3),some (vr 1733),none,some (vs "joinedhand.font" 2781),none,some (vr 0)]),
fK 1738 2795 "__init__" "Font.__init__" 1478 7 (some ["self","charmap","metrics","gdef","gsub","gpos","kern"]) "joinedhand.font" 2781 vn 288 0,
fK 1745 2808 "glyph_count" "Font.glyph_count" 1486 1 (some ["self"]) "joinedhand.font" 2781 vn 288 1,
eT (wW "property" [vr 1751,vn,vn,vn,vs "glyph_count" 2815,vo false]),
fK 1753 2816 "told" "Font.told" 1490 1 none "joinedhand.font" 2781 vn 288 2,
eT (tup [vs "charmap" 2822,vs "gdef" 2823,vs "gpos" 2824,vs "gsub" 2825,vs "kern" 2826,vs "metrics" 2827]),
eT (DQ [en P "__module__" 2790 (vs "joinedhand.font" 2781),en P "__firstlineno__" 2794 (vi 1476 2793),en P "__init__" 2807 (vr 1744),en P "glyph_count" 2815 (vr 1752),en P "told" 2821 (vr 1757),en P "__static_attributes__" 2828 (vr 1758),en P "__dict__" 2830 (vr 1761),en P "__weakref__" 2832 (vr 1762),en P "__doc__" 2833 vn] 4),
eT (cls "Font" [vt "object"] [vr 1760,vt "object"] 1759 [] [none,none,some (vs "Font" 2783),some (vs "Font" 2791),some (vb "object.__new__"),some (vo true)]),
eT (wW "getset_descriptor" [vs "__dict__" 2829,vr 1760,vb "function.__dict__",vb "function.__dict__#set"]),
eT (wW "getset_descriptor" [vs "__weakref__" 2831,vr 1760,vb "ExceptionGroup.__weakref__",vn]),
eT (wW "super" [vr 1760,vr 1760,vr 1760]),
eT (wW "builtin_function_or_method" [vb "object.__init_subclass__",vr 1760]),
fM 1765 2836 "layout_told" 1492 1 (some ["layout"]) "joinedhand.font" 2781 289,
kC P 1774 2847 "ClassDef" 1495 "joinedhand.classdefs" 2843 [("__init__",2864,1785,1497),("class_of",2872,1792,1500),("glyphs_of",2880,1799,1503),("count",2889,1806,1506),("told",2895,1811,1512)] 2897 1812 1814 ["classes"] ([fK 1779 2857 "__init__" "ClassDef.__init__" 1497 2 (some ["self","classes"]) "joinedhand.classdefs" 2843 vn 291 0,fK 1786 2865 "class_of" "ClassDef.class_of" 1500 2 (some ["self","glyph"]) "joinedhand.classdefs" 2843 vn 291 1,fK 1793 2873 "glyphs_of" "ClassDef.glyphs_of" 1503 2 (some ["self","number"]) "joinedhand.classdefs" 2843 vn 291 2,fK 1800 2881 "count" "ClassDef.count" 1506 1 (some ["self","most","glyph"]) "joinedhand.classdefs" 2843 vn 291 3,fK 1807 2890 "told" "ClassDef.told" 1512 1 none "joinedhand.classdefs" 2843 vn 291 4]),
kC P 1821 2915 "Gdef" 1518 "joinedhand.gdef" 2905 [("__init__",2936,1833,1520),("glyph_class",2945,1840,1527),("attach_class",2953,1847,1531),("is_in_set",2962,1854,1534),("told",2968,1859,1537)] 2974 1860 1862 ["attach","carets","classes","points","sets"] ([eT (tup [vn,vn]),fK 1827 2925 "__init__" "Gdef.__init__" 1520 6 (some ["self","classes","attach","sets","points","carets"]) "joinedhand.gdef" 2905 (vr 1826) 296 0,fK 1834 2937 "glyph_class" "Gdef.glyph_class" 1527 2 (some ["self","glyph","number"]) "joinedhand.gdef" 2905 vn 296 1,fK 1841 2946 "attach_class" "Gdef.attach_class" 1531 2 (some ["self","glyph"]) "joinedhand.gdef" 2905 vn 296 2,fK 1848 2954 "is_in_set" "Gdef.is_in_set" 1534 3 (some ["self","number","glyph"]) "joinedhand.gdef" 2905 vn 296 3,fK 1855 2963 "told" "Gdef.told" 1537 1 none "joinedhand.gdef" 2905 vn 296 4]),
fM 1867 2982 "no_gdef" 1541 0 (some []) "joinedhand.gdef" 2905 297,
kC P 1876 2992 "LangSys" 1544 "joinedhand.layout" 2988 [("__init__",3010,1887,1546),("told",3017,1894,1550)] 3020 1895 1897 ["features","required"] ([fK 1881 3002 "__init__" "LangSys.__init__" 1546 3 (some ["self","required","features"]) "joinedhand.layout" 2988 vn 299 0,fK 1888 3011 "told" "LangSys.told" 1550 1 (some ["self"]) "joinedhand.layout" 2988 vn 299 1]),
kC P 1904 3030 "Script" 1552 "joinedhand.layout" 2988 [("__init__",3049,1915,1554),("told",3055,1920,1559)] 3059 1921 1923 ["default","languages","tag"] ([fK 1909 3040 "__init__" "Script.__init__" 1554 4 (some ["self","tag","default","languages"]) "joinedhand.layout" 2988 vn 300 0,fK 1916 3050 "told" "Script.told" 1559 1 none "joinedhand.layout" 2988 vn 300 1]),
kC P 1930 3069 "Feature" 1562 "joinedhand.layout" 2988 [("__init__",3087,1941,1564),("told",3094,1948,1568)] 3097 1949 1951 ["lookups","tag"] ([fK 1935 3079 "__init__" "Feature.__init__" 1564 3 (some ["self","tag","lookups"]) "joinedhand.layout" 2988 vn 301 0,fK 1942 3088 "told" "Feature.told" 1568 1 (some ["self"]) "joinedhand.layout" 2988 vn 301 1]),
kC P 1958 3107 "Layout" 1570 "joinedhand.layout" 2988 [("__init__",3126,1969,1572),("told",3132,1974,1577)] 3136 1975 1977 ["features","lookups","scripts"] ([fK 1963 3117 "__init__" "Layout.__init__" 1572 4 (some ["self","scripts","features","lookups"]) "joinedhand.layout" 2988 vn 302 0,fK 1970 3127 "told" "Layout.told" 1577 1 none "joinedhand.layout" 2988 vn 302 1]),
eT (tup [vi 1576 3146,vs "D" 3147]),
eT (tup [vi 1575 3148,vs "R" 3149]),
eT (tup [vi 1604 3150,vs "D" 3151]),
eT (tup [vi 1614 3152,vs "T" 3153]),
eT (tup [vi 1583 3154,vs "R" 3155]),
eT (tup [vi 65 3156,vs "U" 3157]),
eT (tup [vi 1600 3158,vs "C" 3159]),
eT (tup [vr 1982,vr 1983,vr 1984,vr 1985,vr 1986,vr 1987,vr 1988]),
eT (tup [vs "rlig" 3161,vs "init" 3162,vs "liga" 3163,vs "fina" 3164,vs "ccmp" 3165,vs "salt" 3166,vs "medi" 3167,vs "isol" 3168,vs "calt" 3169,vs "rtla" 3170]),
fM 1991 3172 "_law_stage" 1584 0 (some []) "law_nu0210_01" 3144 306,
fM 1998 3178 "_law_box" 1586 1 none "law_nu0210_01" 3144 307,
fM 2003 3184 "_law_draw" 1595 2 (some ["pool","most","place","digit"]) "law_nu0210_01" 3144 308,
fM 2010 3194 "_law_forms" 1606 1 none "law_nu0210_01" 3144 309,
fM 2015 3200 "_law_counts" 1616 5 (some ["tag","script","form","cluster","wish","is_asked"]) "law_nu0210_01" 3144 310,
fM 2022 3212 "_law_glyph" 1625 8 (some ["glyph","features","required","maps","script","form","cluster","wish","stage","number","is_run","place","tag","lookups"]) "law_nu0210_01" 3144 311,
fM 2029 3232 "law" 1637 1 none "law_nu0210_01" 3144 312]
noncomputable def SF:List Value:=Se++tr [(1239,1472),(1247,1477),(1253,1482),(1258,1487),(1274,1494),(1295,1514),(1300,1521),(1313,1528),(1315,1535),(1319,1542),(1326,1549),(1336,1554),(1345,1561),(1347,1568),(1353,1573),(1367,1580),(1373,1586),(1384,1594),(1392,1622),(1395,1629),(1400,1634),(1407,1641),(1411,1648),(1415,1655),(1419,1662),(1425,1667),(1427,1674),(1441,1683),(1449,1690),(1455,1697),(1476,1736),(1492,1770),(1495,1777),(1518,1824),(1541,1872),(1544,1879),(1552,1907),(1562,1933),(1570,1961),(1584,1996),(1586,2001),(1595,2008),(1606,2013),(1616,2020),(1625,2027),(1637,2032)]
noncomputable def r4:Obj:=fld SF
noncomputable def m4(P:Params):Obj:=DQ ([en P "__name__" 165 (vs "law_nu0210_01" 3144)]++e1 P++RL P++Qk P++RK P++Py P++Oc P++Px P++RM P) 287
noncomputable def c4(P:Params):Obj:=KG [(en P "type.__subclasses__.Exception.0" 2038 (vi (1251) 0)),(en P "type.__subclasses__.Exception.n" 2039 (vi (1) 0))] 2
noncomputable def sV(T:BT)(n:Nat)(os:List Obj):BT:=(os.foldl (fun(x:BT×Nat) o=>(x.1.ins x.2 o,x.2+1)) (T,n)).1
noncomputable def KD(l:List (List Obj)):List Obj:=l.flatten
noncomputable def r8(P:Params):BT:=sV BT.nil 0 [boot_o_0 P,boot_o_1 P,boot_o_2 P,boot_o_3 P,boot_o_4 P,boot_o_5 P,boot_o_6 P,boot_o_7 P,boot_o_8 P,boot_o_9 P,boot_o_10 P,tup [],fld [],SK,SJ]
noncomputable def qZ(T:BT)(n toks:Nat)(os:OsState):SharedT:=⟨T,n,{},#[],{},toks,os⟩
noncomputable def AJ(P:Params):BT:=((((sV (r8 P) 15 (KD (n1 P))).set 3 fun z_=>m1 P).set 12 fun z_=>r1).set 2 fun z_=>c1 P)
noncomputable def E2:Pos:=⟨426,0,433,54⟩
noncomputable def AI(P:Params):BT:=((((sV (AJ P) 524 (KD (n2 P))).set 3 fun z_=>m2 P).set 12 fun z_=>r2).set 2 fun z_=>c2 P)
noncomputable def E1:Pos:=⟨858,0,859,52⟩
noncomputable def OG:Obj:=cls "ShapeError" [(vt "Exception")] [(vr 1251),(vt "Exception"),(vt "BaseException"),(vt "object")] 1250 [(vr 1264)] [some (vr 1225),none,some (vs "ShapeError" 2000),some (vs "ShapeError" 2008),some (vb "Exception.__new__"),some (vo true)]
noncomputable def AH(P:Params):BT:=((((sV (AI P) 976 (KD (n3 P))).set 3 fun z_=>m3 P).set 12 fun z_=>r3).set 2 fun z_=>c3 P).set 1251 fun z_=>OG
noncomputable def E0:Pos:=⟨1237,0,1238,78⟩
noncomputable def mj(P:Params):BT:=((((sV (AH P) 1467 (KD (n4 P))).set 3 fun z_=>m4 P).set 12 fun z_=>r4).set 2 fun z_=>c4 P)
noncomputable def NN:Pos:=⟨1637,0,1672,92⟩
theorem p1:∀w os,segRunT treeTable pw_nu0210_01 w 11 (some (.ref 6)) 1 20000 (qZ (r8 w.params) 15 187 os) (lW ((body.drop 0).take 80) l5 tM ⟨0,0,0,0⟩ Qi)=some (.next,qZ (AJ w.params) 524 947 os,tM,E2):=by
 intro w os
 rw[eV,eU]
 kernel_rfl
theorem p2:∀w os,segRunT treeTable pw_nu0210_01 w 11 (some (.ref 6)) 1 20000 (qZ (AJ w.params) 524 947 os) (lW ((body.drop 80).take 80) l5 tM E2 Qi)=some (.next,qZ (AI w.params) 976 1622 os,tM,E1):=by
 intro w os
 rw[eV,eU]
 kernel_rfl
theorem p3:∀w os,segRunT treeTable pw_nu0210_01 w 11 (some (.ref 6)) 1 20000 (qZ (AI w.params) 976 1622 os) (lW ((body.drop 160).take 80) l5 tM E1 Qi)=some (.next,qZ (AH w.params) 1467 2382 os,tM,E0):=by
 intro w os
 rw[eV,eU]
 kernel_rfl
theorem p4:∀w os,segRunT treeTable pw_nu0210_01 w 11 (some (.ref 6)) 1 20000 (qZ (AH w.params) 1467 2382 os) (lW ((body.drop 240).take 73) l5 tM E0 Qi)=some (.next,qZ (mj w.params) 2034 3238 os,tM,NN):=by
 intro w os
 rw[eV,eU]
 kernel_rfl
noncomputable abbrev pw:Program:=pw_nu0210_01
theorem Rc:∀(w:World) (os:OsState),topGo treeTable pw w 11 (some (.ref 6)) 12 ⟨boot_heap w.params,Array.mk [],boot_drawn,boot_toks,os⟩ (topStub pw)=
 some ((qZ (r8 w.params) 15 187 os).abs,⟨denote treeTable (.body body l5),tM,⟨0,0,0,0⟩,[topFrame ⟨0,0,0,0⟩]⟩):=by
 intro w os;kernel_rfl
theorem Ok:∀(w:World) (os:OsState),segRunT treeTable pw w 11 (some (.ref 6)) 1 1 (qZ (r8 w.params) 15 187 os) (blockOf body l5 tM ⟨0,0,0,0⟩ [topFrame ⟨0,0,0,0⟩])=some (.next,qZ (r8 w.params) 15 187 os,tM,⟨0,0,0,0⟩):=by
 intro w os;kernel_rfl
theorem RI:∀(w:World) (os:OsState),topRun treeTable pw w 11 (some (.ref 6)) 2 (qZ (mj w.params) 2034 3238 os).abs (restOf [] l5 tM NN [topFrame ⟨0,0,0,0⟩])=some (qZ (mj w.params) 2034 3238 os).abs:=by
 intro w os;kernel_rfl
theorem KV:body=(body.drop 0).take 80++((body.drop 80).take 80++((body.drop 160).take 80++((body.drop 240).take 73++[]))):=by
 have e:∀n m (l:List Stmt),l.drop n=(l.drop n).take m++l.drop (n+m):=fun n m l=>by rw[←nW,gW]
 have h:body.drop 313=[]:=by kernel_rfl
 rw[←h,←e 240 73 body,←e 160 80 body,←e 80 80 body,←e 0 80 body];rfl
theorem g4(w:World)(os:OsState):topRun treeTable pw w 11 (some (.ref 6)) (20000+2) (qZ (AH w.params) 1467 2382 os).abs (restOf ((body.drop 240).take 73++[]) l5 tM E0 [topFrame ⟨0,0,0,0⟩])=some (qZ (mj w.params) 2034 3238 os).abs:=
 piece_app (tb:=treeTable) (p:=pw) (w:=w) (n₀:=11) (ann:=some (.ref 6)) (env:=l5) (q:=⟨0,0,0,0⟩) (n:=20000) (N:=2) (c:=tM) (pos:=E0) (p':=NN) (segRun_of (p4 w os)) (RI w os)
theorem g3(w:World)(os:OsState):topRun treeTable pw w 11 (some (.ref 6)) (20000+(20000+2)) (qZ (AI w.params) 976 1622 os).abs (restOf ((body.drop 160).take 80++((body.drop 240).take 73++[])) l5 tM E1 [topFrame ⟨0,0,0,0⟩])=some (qZ (mj w.params) 2034 3238 os).abs:=
 piece_app (tb:=treeTable) (p:=pw) (w:=w) (n₀:=11) (ann:=some (.ref 6)) (env:=l5) (q:=⟨0,0,0,0⟩) (n:=20000) (N:=(20000+2)) (c:=tM) (pos:=E1) (p':=E0) (segRun_of (p3 w os)) (g4 w os)
theorem g2(w:World)(os:OsState):topRun treeTable pw w 11 (some (.ref 6)) (20000+(20000+(20000+2))) (qZ (AJ w.params) 524 947 os).abs (restOf ((body.drop 80).take 80++((body.drop 160).take 80++((body.drop 240).take 73++[]))) l5 tM E2 [topFrame ⟨0,0,0,0⟩])=some (qZ (mj w.params) 2034 3238 os).abs:=
 piece_app (tb:=treeTable) (p:=pw) (w:=w) (n₀:=11) (ann:=some (.ref 6)) (env:=l5) (q:=⟨0,0,0,0⟩) (n:=20000) (N:=(20000+(20000+2))) (c:=tM) (pos:=E2) (p':=E1) (segRun_of (p2 w os)) (g3 w os)
theorem g1(w:World)(os:OsState):topRun treeTable pw w 11 (some (.ref 6)) (20000+(20000+(20000+(20000+2)))) (qZ (r8 w.params) 15 187 os).abs (restOf ((body.drop 0).take 80++((body.drop 80).take 80++((body.drop 160).take 80++((body.drop 240).take 73++[])))) l5 tM ⟨0,0,0,0⟩ [topFrame ⟨0,0,0,0⟩])=some (qZ (mj w.params) 2034 3238 os).abs:=
 piece_app (tb:=treeTable) (p:=pw) (w:=w) (n₀:=11) (ann:=some (.ref 6)) (env:=l5) (q:=⟨0,0,0,0⟩) (n:=20000) (N:=(20000+(20000+(20000+2)))) (c:=tM) (pos:=⟨0,0,0,0⟩) (p':=E2) (segRun_of (p1 w os)) (g2 w os)
theorem g0(w:World)(os:OsState):topRun treeTable pw w 11 (some (.ref 6)) (1+(20000+(20000+(20000+(20000+2))))) (qZ (r8 w.params) 15 187 os).abs ⟨denote treeTable (.body body l5),tM,⟨0,0,0,0⟩,[topFrame ⟨0,0,0,0⟩]⟩=some (qZ (mj w.params) 2034 3238 os).abs:=by
 refine piece_block (tb:=treeTable) (p:=pw) (w:=w) (n₀:=11) (ann:=some (.ref 6)) (env:=l5) (q:=⟨0,0,0,0⟩) (b:=body) (n:=1) (c:=tM) (pos:=⟨0,0,0,0⟩) (p':=⟨0,0,0,0⟩) (segRun_of (Ok w os)) ?_
 have h:=g1 w os
 rw[←KV]at h
 exact h
theorem QX(w:World)(os:OsState):topRun treeTable pw w 11 (some (.ref 6)) (12+(1+(20000+(20000+(20000+(20000+2)))))) ⟨boot_heap w.params,Array.mk [],boot_drawn,boot_toks,os⟩ (topStub pw)=some (qZ (mj w.params) 2034 3238 os).abs:=
 go_top (Rc w os) (g0 w os)
noncomputable def H1(P:Params):Heap:=absHeap (mj P) 2034 {}
noncomputable def q1:Program:=view pw [312]
noncomputable def mC:List PySem.Str:=(fk.names.map (·.1)).filter fun n=>n != ag "law"&&!startupNames.contains n
noncomputable def HK:Hook:=⟨Heap,fun s=>s.heap,fun w=>H1 w.params,fun w h=>∀b o,(H1 w.params).get? b=some o→h.get? b=some o,fun z_ s e b o hb=>by rw[e];exact hb,fun z_ z_ z_ x k b o hb=>k b o (x b o hb)⟩
noncomputable def Oo:Shared→Bool:=fun s=>xlAt q1 [] s&&recOk [] s
theorem O8:∀(w:World),(staticsOk (importedModules pw.main.body) (boot_heap w.params) (H1 w.params)&&namesBound pw (H1 w.params))=true:=by
 intro w;kernel_rfl
theorem O7:∀(w:World),(laidKept (boot_heap w.params) (H1 w.params))=true:=by
 intro w;kernel_rfl
theorem O6:∀(w:World) (os:OsState),openSeen q1 mC (importedModules pw.main.body) Oo true ⟨H1 w.params,#[],{},3238,os⟩=openGood q1 mC:=by
 intro w os
 rw[PySem.W.Fast.te4187177175401517315]
 kernel_rfl
theorem O3:∀w:World,(fencedOpening treeTable pw w 100000).map (fun s=>(s.heap,s.gens,s.drawn,s.toks))=some (boot_heap w.params,Array.mk [],boot_drawn,boot_toks):=
 boot_open (by kernel_rfl) (by decide) (by intro s;kernel_rfl)
theorem OM:∀w:World,((boot_heap w.params).isNs mainGlobals&&(Array.mk ([]:List GenState)).size==0,(boot_heap w.params).objs.size,(boot_heap w.params).nsMap mainGlobals "__annotations__")=(true,11,some (.ref 6)):=by
 intro w;kernel_rfl
theorem NW:∀w:World,(fun os=>((staticsOk (importedModules pw.main.body) (boot_heap w.params) (H1 w.params)&&namesBound pw (H1 w.params)&&gensDone ⟨H1 w.params,#[],{},3238,os⟩&&laidKept (boot_heap w.params) (H1 w.params)),
 openSeen q1 mC (importedModules pw.main.body) Oo true ⟨H1 w.params,#[],{},3238,os⟩,(Hook.obs HK) ⟨H1 w.params,#[],{},3238,os⟩))=fun z_=>(true,openGood q1 mC,Hook.val HK w):=by
 intro w;funext os
 rw[O6 w os]
 refine BN ?_ (BN rfl rfl)
 dsimp only
 rw[O8 w,O7 w];rfl
theorem Tl(w:World)(os:OsState):(qZ (mj w.params) 2034 3238 os).abs=⟨H1 w.params,#[],{},3238,os⟩:=by kernel_rfl
theorem QY(w:World)(os:OsState):topRun treeTable pw w 11 (some (.ref 6)) (12+(1+(20000+(20000+(20000+(20000+2)))))) ⟨boot_heap w.params,Array.mk [],boot_drawn,boot_toks,os⟩ (topStub pw)=some ⟨H1 w.params,#[],{},3238,os⟩:=
 (QX w os).trans (congrArg some (Tl w os))
theorem Pb:LeftO pw q1 mC Oo (Hook.obs HK) (Hook.val HK) 100000 true:=
 LeftO.of_pieces (H₀:=boot_heap) (H₁:=H1) (gs₀:=Array.mk []) (gs₁:=#[]) (d₀:=boot_drawn) (d₁:={}) (k₀:=boot_toks) (k₁:=3238) (m₀:=11) (ann:=some (.ref 6)) (M:=12+(1+(20000+(20000+(20000+(20000+2))))))
  O3 OM QY (by decide) NW
noncomputable def LL(s:Str):Nat:=s.cps.toList.foldl (fun a c=>a*2097152+c+1) 0
noncomputable def Qf:List Nat→Bool
 |[]=>true
 |a::r=>r.all (fun b=>!fY a b)&&Qf r
theorem uO:∀{l:List Nat},Qf l=true→l.Nodup
 |[],_=>dp
 |a::r,h=>by
  unfold Qf at h
  rw[bf,bd]at h
  rw[cL]
  refine⟨fun q=>?_,uO h.2⟩
  have:=h.1 a q
  rw[kg]at this
  cases this
theorem o8{α β:Type}(f:α→β):∀{l:List α},(l.map f).Nodup→l.Nodup
 |[],_=>dp
 |a::r,h=>by
  rw[bj,cL]at h
  rw[cL]
  exact⟨fun q=>h.1 (j8 q),o8 f h.2⟩
theorem Ac{l:List (Str×NameKind)}(h:(l.map (·.1)).Nodup):∀x∈l,l.filter (·.1==x.1)=[x]:=by
 induction l with
 |nil=>intro x hx;cases hx
 |cons a r ih=>
  rw[bj,cL]at h
  have none:∀n,n∉r.map (·.1)→r.filter (·.1==n)=[]:=fun n hn=>by
   rw[jc]
   intro y hy q
   exact hn (by rw[←beq_iff_eq.mp q];exact j8 hy)
  intro x hx
  rcases aF.mp hx with rfl|hx
  ·rw[bG (by exact beq_self_eq_true _),none _ h.1]
  ·have hne:¬(a.1==x.1)=true:=fun q=>h.1 (by rw[beq_iff_eq.mp q];exact j8 hx)
   rw[bH (p:=fun y:Str×NameKind=>y.1==x.1) hne]
   exact ih h.2 x hx
theorem zK{sc:Scope}(h:(sc.names.map (·.1)).Nodup):TablesWhole.noTwice sc=true:=by
 unfold TablesWhole.noTwice
 rw[bd]
 rintro⟨n,k⟩ hx
 have:=Ac h (n,k) hx
 dsimp only at this ⊢
 rw[this]
theorem J9:Qf ((fk.names.map (·.1)).map LL)=true:=by kernel_rfl
theorem Te:TablesWhole.noTwice fk=true:=zK (o8 LL (uO J9))
theorem rp{α:Type}(A:TablesWhole.Alg Bool)(hA:A.both=fun a b=>a&&b)(hU:A.unit=true)(top:Scope)(cx:TablesWhole.Ctx)(sc:Scope):∀a b:List Stmt,TablesWhole.wSs A top cx sc (a++b)=(TablesWhole.wSs A top cx sc a&&TablesWhole.wSs A top cx sc b)
 |[],b=>by
  show _=(TablesWhole.wSs A top cx sc []&&_)
  have:TablesWhole.wSs A top cx sc []=true:=by unfold TablesWhole.wSs;exact hU
  rw[this,jz];rfl
 |s::r,b=>by
  show TablesWhole.wSs A top cx sc (s::(r++b))=_
  have e:∀l,TablesWhole.wSs A top cx sc (s::l)=(TablesWhole.wS A top cx sc s&&TablesWhole.wSs A top cx sc l):=fun l=>by
   conv=>lhs;unfold TablesWhole.wSs
   rw[hA]
  rw[e,e,rp (α:=α) A hA hU top cx sc r b,nX]
noncomputable def Lr:List Str:=TablesWhole.wSs TablesWhole.gather fk ⟨fk,[],[],[],none⟩ fk body
theorem Eb:Lr=[]:=by kernel_rfl
noncomputable abbrev PD:TablesWhole.Ctx:=⟨fk,[],[],[],none⟩
theorem w1:TablesWhole.wSs TablesWhole.holds fk PD fk (body.take 80)=true:=by kernel_rfl
theorem w2:TablesWhole.wSs TablesWhole.holds fk PD fk ((body.drop 80).take 80)=true:=by kernel_rfl
theorem w3:TablesWhole.wSs TablesWhole.holds fk PD fk ((body.drop 160).take 80)=true:=by kernel_rfl
theorem w4:TablesWhole.wSs TablesWhole.holds fk PD fk (body.drop 240)=true:=by kernel_rfl
theorem LR:body=body.take 80++((body.drop 80).take 80++((body.drop 160).take 80++body.drop 240)):=by
 have e:∀n m (l:List Stmt),l.drop n=(l.drop n).take m++l.drop (n+m):=fun n m l=>by rw[←nW,gW]
 rw[←e 160 80 body,←e 80 80 body]
 exact(gW 80 body).symm
theorem hW:TablesWhole.wSs TablesWhole.holds fk PD fk body=true:=by
 rw[LR,rp (α:=Unit) _ rfl rfl,rp (α:=Unit) _ rfl rfl,rp (α:=Unit) _ rfl rfl,w1,w2,w3,w4];rfl
theorem RD:TablesWhole.wModule TablesWhole.holds pw_nu0210_01.main=true:=by
 show TablesWhole.Alg.all TablesWhole.holds [true,TablesWhole.noTwice fk,TablesWhole.wSs TablesWhole.holds fk ⟨fk,[],Lr,[],none⟩ fk body]=true
 rw[Eb,Te,hW];rfl
theorem Rx:rw_nu0210_01.row.prog.tablesWhole=true:=by
 show TablesWhole.Alg.all TablesWhole.holds [TablesWhole.wModule TablesWhole.holds pw_nu0210_01.main,_,_,_]=true
 rw[RD];rfl
noncomputable abbrev Li:Prop:=∀d kw,defOf q1 rw_nu0210_01.row.name=some (d,kw)→WalkO q1 mC (XL q1 []) (Hook.says HK) rw_nu0210_01.row.toRowW d kw fun f vs=>DM f vs
theorem NM:rw_nu0210_01.row.prog=pw:=by kernel_rfl
theorem Pc:LeftO rw_nu0210_01.row.prog q1 mC Oo (Hook.obs HK) (Hook.val HK) 100000 true:=by rw[NM];exact Pb
theorem Pm:∃d kw,defOf q1 rw_nu0210_01.row.name=some (d,kw)∧rw_nu0210_01.row.prog.theDef rw_nu0210_01.row.name=some (d.params,d.body,d.scope)∧kwWritten? d.params.kwonlyargs d.params.kw_defaults=some kw:=⟨_,_,by rfl,by rfl,by rfl⟩
theorem RC:chainsOk q1=true:=by kernel_rfl
theorem RA:opensWell rw_nu0210_01.row.prog=true:=by decide+kernel
theorem Rz:(frees rw_nu0210_01.row.toRowW&&rw_nu0210_01.row.toRowW.within.isEmpty)=true:=by decide+kernel
theorem hok:(chainsOk q1&&opensWell rw_nu0210_01.row.prog&&(frees rw_nu0210_01.row.toRowW&&rw_nu0210_01.row.toRowW.within.isEmpty))=true:=by rw[RC,RA,Rz];rfl
theorem Pn:rw_nu0210_01.row.prog.bare:=⟨rfl,rfl,rfl,rfl,rfl,Rx⟩
theorem Pj:rw_nu0210_01.row.toRowW.promised:=by w_witness2
theorem S9:(!rw_nu0210_01.row.writes||rw_nu0210_01.row.records.isEmpty)=true:=by kernel_rfl
theorem Ry:rw_nu0210_01.row.records=[]:=by kernel_rfl
theorem Td:∀s,Oo s=true→RecFacts rw_nu0210_01.row.records s.heap:=fun s e=>recFacts_nil Ry
theorem Ta:∀s,Oo s=true→XL q1 [] (s.heap.nsMap mainGlobals) s.heap:=fun s e=>xl_of s (d8.mp e).1
theorem RE:∀w s,(Hook.obs HK) s=(Hook.val HK) w→(Hook.says HK) w s.heap:=Hook.of HK
theorem Tf:∀w h h',(Hook.says HK) w h→(∀b o,h.get? b=some o→h'.get? b=some o)→(Hook.says HK) w h':=Hook.keeps HK
theorem Tc:∀mg h h',XL q1 [] mg h→(∀b o,h.get? b=some o→h'.get? b=some o)→XL q1 [] mg h':=XL.keeps
theorem OU(said:rw_nu0210_01.row.wellSaid=true)(call:Li):rw_nu0210_01.row.Holds:=by
 obtain⟨d,kw,h1,h2,h3⟩:=Pm
 have c:=call d kw h1
 refine PySem.W.holds_open (r:=rw_nu0210_01.row) (q:=q1) (loose:=mC) (Xt:=Oo) (XP:=XL q1 []) (Yf:=Hook.obs HK) (Ya:=Hook.val HK) (YP:=Hook.says HK) (d:=d) (kwd:=kw) (N:=100000) ?a1 ?a2 ?a3 ?a4 ?a5 ?a6 ?a7 ?a8 ?a9 ?a10 ?a11 ?a12 ?a13 ?a14 ?a15
 case a1=>exact Pc
 case a2=>exact RE
 case a3=>exact Tf
 case a4=>exact Ta
 case a5=>exact Tc
 case a6=>exact h1
 case a7=>exact h2
 case a8=>exact h3
 case a9=>exact Td
 case a10=>exact S9
 case a11=>exact said
 case a12=>exact hok
 case a13=>exact Pn
 case a14=>exact Pj
 case a15=>exact c
noncomputable abbrev rL:=rw_nu0210_01
noncomputable abbrev pL:=pw_nu0210_01
theorem S2:sreFenced pL.main=true:=by rw[PySem.W.Fast.te11788848310118352699];kernel_rfl
theorem S1:((moduleNames pL.main.body).isEmpty||lookedIntoSs (moduleNames pL.main.body) pL.main.body)=true:=by kernel_rfl
theorem S0:namesResolve pL=true:=by rw[PySem.W.Fast.te8377067652309620493];kernel_rfl
theorem SZ:pL.boundNames.all (fun n=>!worldNames.contains n)=true:=by kernel_rfl
noncomputable abbrev Pa:Look:={strict:=false,foot:=none,bare:=[]}
theorem S4:(importedModules pL.main.body).all cThrough.contains=true:=by kernel_rfl
theorem SU:readsOut pL pL.main.body (ag "vars")=false:=by rw[iD];kernel_rfl
theorem ST:readsOut pL pL.main.body (ag "dir")=false:=by rw[iD];kernel_rfl
theorem SQ:readsOut pL pL.main.body (ag "locals")=false:=by rw[iD];kernel_rfl
theorem S3:(["vars","dir","locals"]:List Str).filter (readsOut pL pL.main.body)=[]:=jc.mpr fun n hn q=>by
 rcases aF.mp hn with rfl|hn
 ·exact Bool.noConfusion (q.symm.trans SU)
 rcases aF.mp hn with rfl|hn
 ·exact Bool.noConfusion (q.symm.trans ST)
 rcases aF.mp hn with rfl|hn
 ·exact Bool.noConfusion (q.symm.trans SQ)
 ·exact nomatch hn
theorem zJ(lk:Look)(a b:List Stmt):noRoadLSs lk (a++b)=(noRoadLSs lk a&&noRoadLSs lk b):=by
 induction a with
 |nil=>show _=(noRoadLSs lk []&&_);unfold noRoadLSs;cases b<;>rfl
 |cons s r ih=>
  have e:∀l,noRoadLSs lk (s::l)=(noRoadLS lk s&&noRoadLSs lk l):=fun l=>by
   conv=>lhs;unfold noRoadLSs
  show noRoadLSs lk (s::(r++b))=_
  rw[e,e,ih,nX]
theorem SP:noRoadLSs Pa (body.take 80)=true:=by rw[fh];kernel_rfl
theorem SO:noRoadLSs Pa ((body.drop 80).take 80)=true:=by rw[fh];kernel_rfl
theorem SN:noRoadLSs Pa ((body.drop 160).take 80)=true:=by rw[fh];kernel_rfl
theorem SM:noRoadLSs Pa (body.drop 240)=true:=by rw[fh];kernel_rfl
theorem Rs:noRoadLSs {strict:=!(importedModules pL.main.body).all cThrough.contains,foot:=none,bare:=(["vars","dir","locals"]:List Str).filter (readsOut pL pL.main.body)} pL.main.body=true:=by
 rw[S4,S3]
 show noRoadLSs Pa body=true
 rw[LR,zJ,zJ,zJ,SP,SO,SN,SM]
 rfl
theorem SY:(namesMeet pL pL.main.body fun z_ n=>attrL n)=true:=by rw[oJ,PySem.W.Fast.te17868728402115742887];kernel_rfl
theorem SX:noClassBlock rL.prog rL.footing=true:=by rw[PySem.W.Fast.te8179353310426384613];kernel_rfl
theorem s1:looksOpen pL=true:=look_both (look_both (look_both (look_both (look_both (S2) S1) S0) SZ) Rs) SY
theorem SW:(rL.bound'.all fun n=>!builtinNamed n||rL.about==[n]||!rL.reads n)=true:=by kernel_rfl
theorem SV:(namesMeet rL.prog rL.above fun z_ n=>!rL.own.contains n)=true:=by rw[oJ];kernel_rfl
theorem s2:rL.row.partSaid=true:=by
 unfold OpenRow.partSaid
 rw[show looksOpen rL.row.prog=true from s1]
 kernel_rfl
theorem s3:rL.row.wellSaid=true:=by
 unfold OpenRow.wellSaid
 rw[s2]
 kernel_rfl
theorem TS:rL.wellSaid=true:=by
 unfold OpenLaw.wellSaid
 rw[s3,SX,SW,SV]
 kernel_rfl
end Mh
namespace Mine
set_option backward.match.sparseCases true
noncomputable abbrev pY:RowW:=rw_nu0210_01.row.toRowW
noncomputable def BJ(x:Program×World×Heap):Prop:=x.1=pY.prog→∀(s:Shared),s.heap=x.2.2→(∀b o,(Mh.H1 x.2.1.params).get? b=some o→x.2.2.get? b=some o)→∀mg mb:Str→Option Value,x.2.2.Ns mainGlobals mg→x.2.2.Ns builtinsNs mb→(∀y:Str,y≠"__name__"→mb y=bootBuiltins y)→x.2.2.NoLimit→
 ∀a:Addr,mg (ag "law")=some (.ref a)→∀(args:List WData) (vals:List Value) (as:List Addr),pY.claim.pre args=true→∀(cl:Str→Option Addr) (mean:ExcName→Option Value),ReadsAllW pY.records cl x.2.2 vals args as→s.gens=#[]→
 wpAny (model x.1 x.2.1) callerA (DM (.ref a) vals) (fun v s'=>GoodWG pY.claim cl mean args s (.ok (.ret v)) s') (fun e s'=>GoodWG pY.claim cl mean args s (.error e) s') s
theorem dh{α β:Type}{a b:α}{s t:β}(h:some (a,s)=some (b,t)):a=b∧s=t:=BL (ab h)
theorem ix{α:Type}{c:Prop}[Decidable c]{x:Option α}{y:α}(h:(if c then none else x)=some y):¬c∧x=some y:=by
 by_cases hc:c
 ·rw[if_pos hc]at h;exact absurd h.symm (io _)
 ·rw[if_neg hc]at h;exact⟨hc,h⟩
theorem jK{α:Type}{c:Prop}[Decidable c]{x:Option α}{y:α}(h:(if c then x else none)=some y):c∧x=some y:=by
 by_cases hc:c
 ·rw[if_pos hc]at h;exact⟨hc,h⟩
 ·rw[if_neg hc]at h;exact absurd h.symm (io _)
theorem k5{α β:Type}{o:Option α}{f:α→β}{y:β}(h:o.map f=some y):∃x,o=some x∧y=f x:=by
 obtain⟨x,e,rfl⟩:=az.mp h
 exact⟨x,e,rfl⟩
theorem bD{α:Type}{a:α}{C:Prop}(h:none=some a):C:=absurd h.symm (io a)
theorem vk{α β:Type}{o:Option α}{f:α→Option β}{y:β}(h:o.bind f=some y):∃x,o=some x∧f x=some y:=by
 cases o with
 |none=>exact bD h
 |some x=>exact⟨x,rfl,h⟩
theorem dE{α:Type}{a b:α}{C:α→Prop}(h:a=b)(k:C a):C b:=h▸k
theorem d6{α:Type}{a b:α}{C:α→Prop}(h:a=b)(k:C b):C a:=h▸k
theorem AO{α β:Type}{a b:α}{s t:β}{C:α→β→Prop}(h:some (a,s)=some (b,t))(k:C a s):C b t:=(dh h).1▸(dh h).2▸k
theorem TR{α β:Type}{a b:α}{s t:β}{C:α→β→Prop}(h:a=b∧s=t)(k:C a s):C b t:=h.1▸h.2▸k
theorem bT{α β:Type}{o:Option α}{f:α→Option β}{y:β}{C:Prop}(h:o.bind f=some y)(k:∀x,o=some x→f x=some y→C):C:=let⟨x,a,b⟩:=vk h;k x a b
theorem gh{α β:Type}{o:Option α}{f:α→β}{y:β}{C:Prop}(h:o.map f=some y)(k:∀x,o=some x→f x=y→C):C:=let⟨x,a,b⟩:=k5 h;k x a b.symm
theorem fH{T0:Type}{p1:T0→Prop}{C:Prop}(h:∃a0,p1 a0)(k:∀a0,p1 a0→C):C:=let⟨b0,b1⟩:=h;k b0 b1
theorem d9{p0:Prop}{p1:Prop}{C:Prop}(h:p0∧p1)(k:p0→p1→C):C:=let⟨b0,b1⟩:=h;k b0 b1
theorem vE{T0 T1:Type}{p2:T0→T1→Prop}{C:Prop}(h:∃a0,∃a1,p2 a0 a1)(k:∀a0,∀a1,p2 a0 a1→C):C:=let⟨b0,b1,b2⟩:=h;k b0 b1 b2
theorem aM{T0:Type}{p1:T0→Prop}{p2:T0→Prop}{C:Prop}(h:∃a0,p1 a0∧p2 a0)(k:∀a0,p1 a0→p2 a0→C):C:=let⟨b0,b1,b2⟩:=h;k b0 b1 b2
theorem Qo{T1:Type}{p0:Prop}{p2:T1→Prop}{C:Prop}(h:p0∧(∃a1,p2 a1))(k:p0→∀a1,p2 a1→C):C:=let⟨b0,b1,b2⟩:=h;k b0 b1 b2
theorem oO{p0:Prop}{p1:Prop}{p2:Prop}{C:Prop}(h:p0∧p1∧p2)(k:p0→p1→p2→C):C:=let⟨b0,b1,b2⟩:=h;k b0 b1 b2
theorem DX{T0 T1 T2:Type}{p3:T0→T1→T2→Prop}{C:Prop}(h:∃a0,∃a1,∃a2,p3 a0 a1 a2)(k:∀a0,∀a1,∀a2,p3 a0 a1 a2→C):C:=let⟨b0,b1,b2,b3⟩:=h;k b0 b1 b2 b3
theorem rN{T0 T1:Type}{p2:T0→T1→Prop}{p3:T0→T1→Prop}{C:Prop}(h:∃a0,∃a1,p2 a0 a1∧p3 a0 a1)(k:∀a0,∀a1,p2 a0 a1→p3 a0 a1→C):C:=let⟨b0,b1,b2,b3⟩:=h;k b0 b1 b2 b3
theorem dH{T0:Type}{p1:T0→Prop}{p2:T0→Prop}{p3:T0→Prop}{C:Prop}(h:∃a0,p1 a0∧p2 a0∧p3 a0)(k:∀a0,p1 a0→p2 a0→p3 a0→C):C:=let⟨b0,b1,b2,b3⟩:=h;k b0 b1 b2 b3
theorem iM{T1:Type}{p0:Prop}{p2:T1→Prop}{p3:T1→Prop}{C:Prop}(h:p0∧(∃a1,p2 a1∧p3 a1))(k:p0→∀a1,p2 a1→p3 a1→C):C:=let⟨b0,b1,b2,b3⟩:=h;k b0 b1 b2 b3
theorem uj{p0:Prop}{p1:Prop}{p2:Prop}{p3:Prop}{C:Prop}(h:p0∧p1∧p2∧p3)(k:p0→p1→p2→p3→C):C:=let⟨b0,b1,b2,b3⟩:=h;k b0 b1 b2 b3
theorem zn{T0 T1 T2 T3:Type}{p4:T0→T1→T2→T3→Prop}{C:Prop}(h:∃a0,∃a1,∃a2,∃a3,p4 a0 a1 a2 a3)(k:∀a0,∀a1,∀a2,∀a3,p4 a0 a1 a2 a3→C):C:=let⟨b0,b1,b2,b3,b4⟩:=h;k b0 b1 b2 b3 b4
theorem vF{T0 T1 T2:Type}{p3:T0→T1→T2→Prop}{p4:T0→T1→T2→Prop}{C:Prop}(h:∃a0,∃a1,∃a2,p3 a0 a1 a2∧p4 a0 a1 a2)(k:∀a0,∀a1,∀a2,p3 a0 a1 a2→p4 a0 a1 a2→C):C:=let⟨b0,b1,b2,b3,b4⟩:=h;k b0 b1 b2 b3 b4
theorem eW{T0 T1:Type}{p2:T0→T1→Prop}{p3:T0→T1→Prop}{p4:T0→T1→Prop}{C:Prop}(h:∃a0,∃a1,p2 a0 a1∧p3 a0 a1∧p4 a0 a1)(k:∀a0,∀a1,p2 a0 a1→p3 a0 a1→p4 a0 a1→C):C:=let⟨b0,b1,b2,b3,b4⟩:=h;k b0 b1 b2 b3 b4
theorem mh{T0 T3:Type}{p1:T0→Prop}{p2:T0→Prop}{p4:T0→T3→Prop}{C:Prop}(h:∃a0,p1 a0∧p2 a0∧(∃a3,p4 a0 a3))(k:∀a0,p1 a0→p2 a0→∀a3,p4 a0 a3→C):C:=let⟨b0,b1,b2,b3,b4⟩:=h;k b0 b1 b2 b3 b4
theorem gO{T0:Type}{p1:T0→Prop}{p2:T0→Prop}{p3:T0→Prop}{p4:T0→Prop}{C:Prop}(h:∃a0,p1 a0∧p2 a0∧p3 a0∧p4 a0)(k:∀a0,p1 a0→p2 a0→p3 a0→p4 a0→C):C:=let⟨b0,b1,b2,b3,b4⟩:=h;k b0 b1 b2 b3 b4
theorem Mc{T1:Type}{p0:Prop}{p2:T1→Prop}{p3:T1→Prop}{p4:T1→Prop}{C:Prop}(h:p0∧(∃a1,p2 a1∧p3 a1∧p4 a1))(k:p0→∀a1,p2 a1→p3 a1→p4 a1→C):C:=let⟨b0,b1,b2,b3,b4⟩:=h;k b0 b1 b2 b3 b4
theorem rO{p0:Prop}{p1:Prop}{p2:Prop}{p3:Prop}{p4:Prop}{C:Prop}(h:p0∧p1∧p2∧p3∧p4)(k:p0→p1→p2→p3→p4→C):C:=let⟨b0,b1,b2,b3,b4⟩:=h;k b0 b1 b2 b3 b4
theorem oK{T0 T1 T2 T3:Type}{p4:T0→T1→T2→T3→Prop}{p5:T0→T1→T2→T3→Prop}{C:Prop}(h:∃a0,∃a1,∃a2,∃a3,p4 a0 a1 a2 a3∧p5 a0 a1 a2 a3)(k:∀a0,∀a1,∀a2,∀a3,p4 a0 a1 a2 a3→p5 a0 a1 a2 a3→C):C:=let⟨b0,b1,b2,b3,b4,b5⟩:=h;k b0 b1 b2 b3 b4 b5
theorem Hz{T0 T1:Type}{p2:T0→T1→Prop}{p3:T0→T1→Prop}{p4:T0→T1→Prop}{p5:T0→T1→Prop}{C:Prop}(h:∃a0,∃a1,p2 a0 a1∧p3 a0 a1∧p4 a0 a1∧p5 a0 a1)(k:∀a0,∀a1,p2 a0 a1→p3 a0 a1→p4 a0 a1→p5 a0 a1→C):C:=let⟨b0,b1,b2,b3,b4,b5⟩:=h;k b0 b1 b2 b3 b4 b5
theorem oM{T0:Type}{p1:T0→Prop}{p2:T0→Prop}{p3:T0→Prop}{p4:T0→Prop}{p5:T0→Prop}{C:Prop}(h:∃a0,p1 a0∧p2 a0∧p3 a0∧p4 a0∧p5 a0)(k:∀a0,p1 a0→p2 a0→p3 a0→p4 a0→p5 a0→C):C:=let⟨b0,b1,b2,b3,b4,b5⟩:=h;k b0 b1 b2 b3 b4 b5
theorem oN{T1 T2:Type}{p0:Prop}{p3:T1→T2→Prop}{p4:T1→T2→Prop}{p5:T1→T2→Prop}{C:Prop}(h:p0∧(∃a1,∃a2,p3 a1 a2∧p4 a1 a2∧p5 a1 a2))(k:p0→∀a1,∀a2,p3 a1 a2→p4 a1 a2→p5 a1 a2→C):C:=let⟨b0,b1,b2,b3,b4,b5⟩:=h;k b0 b1 b2 b3 b4 b5
theorem E9{α:Type}{o:Option α}{C:Prop}(h0:o=none→C)(h1:∀a,o=some a→C):C:=by
 cases o with
 |none=>exact h0 rfl
 |some a=>exact h1 a rfl
theorem nY{α:Type}{c:Prop}[Decidable c]{x:Option α}{y:α}{C:Prop}(h:(if c then x else none)=some y)(k:c→x=some y→C):C:=k (jK h).1 (jK h).2
theorem tT{α:Type}{c:Prop}[Decidable c]{x:Option α}{y:α}{C:Prop}(h:(if c then none else x)=some y)(k:¬c→x=some y→C):C:=k (ix h).1 (ix h).2
theorem rc{α:Type}{c:Prop}[Decidable c]{x y:Option α}{z:α}{C:Prop}(h:(if c then x else y)=some z)(k1:c→x=some z→C)(k2:y=some z→C):C:=by
 by_cases hc:c
 ·exact k1 hc ((if_pos hc).symm.trans h)
 ·exact k2 ((if_neg hc).symm.trans h)
theorem Hq{α β:Type}{a b:α}{s t:β}{C:α→β→Prop}(h:(a,s)=(b,t))(k:C a s):C b t:=AO (congrArg some h) k
theorem Tk{A B:Type}{p:A→B→Prop}(a:A)(b:B)(h:p a b):∃a b,p a b:=⟨a,b,h⟩
theorem Tj{A B C:Type}{p:A→B→C→Prop}(a:A)(b:B)(c:C)(h:p a b c):∃a b c,p a b c:=⟨a,b,c,h⟩
theorem RJ{A B C D E F:Type}{p:A→B→C→D→E→F→Prop}(a:A)(b:B)(c:C)(d:D)(e:E)(f:F)(h:p a b c d e f):∃a b c d e f,p a b c d e f:=⟨a,b,c,d,e,f,h⟩
set_option backward.match.sparseCases false
inductive MV where
 |none|bool (b:Bool)|int (i:Int)|str (s:Str)|tup (vs:List MV)|ref (n:Nat)
 |range (a b:Int)|flist (vs:List MV)|stat (v:Value)
 deriving Inhabited
inductive MO where
 |list (vs:List MV)|dict (es:List (MV×MV))|inst (C:Addr) (fs:List (Str×MV))
 deriving Inhabited
noncomputable abbrev MH:=List MO
structure MS where
 loc:List (Str×MV)
 hp:MH
inductive MF where
 |next|brk|cont|ret (v:MV)
noncomputable abbrev MM(α:Type):=MS→Option (α×MS)
noncomputable def bO{α:Type}(a:α):MM α:=fun s=>some (a,s)
noncomputable def aR{α β:Type}(m:MM α)(f:α→MM β):MM β:=fun s=>(m s).bind fun r=>f r.1 r.2
noncomputable def bP{α:Type}:MM α:=fun z_=>none
noncomputable def iJ{α:Type}(f:MS→Option α):MM α:=fun s=>(f s).map fun a=>(a,s)
noncomputable def gv{α:Type}(x:Str):List (Str×α)→Option α
 |[]=>none
 |(y,v)::r=>if y=x then some v else gv x r
noncomputable def jf{α:Type}(x:Str)(v:α):List (Str×α)→List (Str×α)
 |[]=>[(x,v)]
 |(y,u)::r=>if y=x then(y,v)::r else(y,u)::jf x v r
noncomputable def d0(o:MO):MM MV:=fun s=>some (.ref s.hp.length,{s with hp:=s.hp++[o]})
noncomputable def qc(n:Nat)(o:MO):MM Unit:=fun s=>some ((),{s with hp:=s.hp.set n o})
noncomputable def N0:Option NameKind→Bool
 |some .local=>true
 |some .cell=>true
 |_=>false
noncomputable def lF(sc:Scope)(x:Str)(v:MV):MM Unit:=fun s=>if N0 (sc.names.lookup x)then some ((),{s with loc:=jf x v s.loc})else none
noncomputable def gY:List MV→Option (List Int)
 |[]=>some []
 | .int i::r=>(gY r).map (i:: ·)
 |_=>none
noncomputable def je:List MV→Option (List Str)
 |[]=>some []
 | .str i::r=>(je r).map (i:: ·)
 |_=>none
noncomputable def iE:MV→MV→Option Bool
 | .int a,.int b=>some (a==b)
 | .str a,.str b=>some (a==b)
 |_,_=>none
noncomputable def gR(k:MV):List (MV×MV)→Option (Option MV)
 |[]=>some none
 |(y,v)::r=>match iE y k with
  |none=>none
  |some true=>some (some v)
  |some false=>gR k r
noncomputable def i9:MV→Bool
 | .int _=>true
 | .str _=>true
 |_=>false
noncomputable def l6(k v:MV):List (MV×MV)→Option (List (MV×MV))
 |[]=>some [(k,v)]
 |(y,u)::r=>match iE y k with
  |none=>none
  |some true=>some ((y,v)::r)
  |some false=>(l6 k v r).map ((y,u):: ·)
noncomputable def iN(H:MH):MV→Option Bool
 | .none=>some false
 | .bool b=>some b
 | .int i=>some (i != 0)
 | .str s=>if 1000 < s.cps.size then none else some (s.cps.size != 0)
 | .tup vs=>if 1000 < vs.length then none else some (!vs.isEmpty)
 | .ref n=>match H[n]? with
  |some (.list vs)=>if 1000 < vs.length then none else some (!vs.isEmpty)
  |some (.dict es)=>if 1000 < es.length then none else some (!es.isEmpty)
  |_=>none
 |_=>none
noncomputable def jv:List MV→Option (List (List Int))
 |[]=>some []
 | .tup vs::r=>(gY vs).bind fun x=>(jv r).map (x:: ·)
 |_=>none
noncomputable def js:MV→Option Int
 | .int i=>some i
 |_=>none
noncomputable def GH:MV→Option (List MV)
 | .tup l=>some l
 |_=>none
noncomputable def GJ:MV→Option Str
 | .str l=>some l
 |_=>none
noncomputable def GO:MV→Option Bool
 | .bool b=>some b
 |_=>none
noncomputable def cy(H:MH):MV→Option (List MV)
 | .ref n=>match H[n]? with
  |some (.list vs)=>some vs
  |_=>none
 |_=>none
noncomputable def wD(a b:List MV):Option Bool:=if a.isEmpty||b.isEmpty then some (a.isEmpty&&b.isEmpty)else(jv a).bind fun x=>(jv b).map fun y=>x==y
noncomputable def D0(H:MH)(a b:MV):Option Bool:=match a with
 | .ref n=>(cy H (.ref n)).bind fun la=>(cy H b).bind fun lb=>wD la lb
 | .int x=>(js b).map fun y=>x==y
 | .str x=>(GJ b).map fun y=>x==y
 | .bool x=>(GO b).map fun y=>x==y
 |_=>none
noncomputable def N2(a:MV)(vs:List MV):Option Bool:=match a with
 | .int x=>(gY vs).map fun l=>l.any (· ==x)
 | .str x=>(je vs).map fun l=>l.any (· ==x)
 |_=>none
noncomputable def rd(H:MH)(a b:MV):Option Bool:=match b with
 | .tup vs=>(GJ a).bind fun x=>(je vs).map fun l=>l.any (· ==x)
 | .ref n=>match H[n]? with
  |some (.list vs)=>N2 a vs
  |some (.dict es)=>if i9 a then(gR a es).map vA else none
  |_=>none
 |_=>none
noncomputable def Fv:MV→Option Bool
 | .none=>some true
 | .stat _=>none
 |_=>some false
noncomputable def z5(a b:MV):Option Bool:=match b with
 | .none=>Fv a
 |_=>none
noncomputable def pC(H:MH):MV→Option (List (MV×MV))
 | .ref n=>match H[n]? with
  |some (.dict es)=>some es
  |_=>none
 |_=>none
noncomputable def Df(a b:MV)(f:Int→Int→Bool):Option Bool:=(js a).bind fun x=>(js b).map fun y=>f x y
noncomputable def nB(H:MH)(op:CmpOp)(a b:MV):Option Bool:=match op with
 | .Eq=>D0 H a b
 | .NotEq=>(D0 H a b).map (!·)
 | .Lt=>Df a b fun a b=>decide (a < b)
 | .LtE=>Df a b fun a b=>decide (a≤b)
 | .Gt=>Df a b fun a b=>decide (b < a)
 | .GtE=>Df a b fun a b=>decide (b≤a)
 | .Is=>z5 a b
 | .IsNot=>(z5 a b).map (!·)
 | .In=>rd H a b
 | .NotIn=>(rd H a b).map (!·)
noncomputable def big(a:Int):Bool:=decide (2^62≤a.natAbs)
noncomputable def Bl:Operator→Bool
 | .Add=>true
 |_=>false
noncomputable def Fw:Operator→Bool
 | .Mult=>true
 |_=>false
noncomputable def PQ(op:Operator)(a b:Int):Option Int:=match op with
 | .Add=>some (a+b)
 | .Sub=>some (a - b)
 | .Mult=>if big a||big b then none else some (a*b)
 | .FloorDiv=>if b=0||big b then none else some (a.fdiv b)
 | .Mod=>if b=0 then none else some (a.fmod b)
 | .Pow=>if big a||decide (b < 0)||decide (1000 < b)then none else some (a^b.toNat)
 | .LShift=>if big a||decide (b < 0)||decide (1000 < b)then none else some (a*2^b.toNat)
 | .BitOr=>some (bg a b)
 | .BitAnd=>some (bZ a b)
 |_=>none
noncomputable def DK(x y:List MV):Option (List MV):=if 1000 < x.length+y.length then none else some (x++y)
noncomputable def one{α:Type}:List α→Option α
 |[v]=>some v
 |_=>none
noncomputable def Fb(l:List MV):Option Int:=(one l).bind js
noncomputable def QZ(z k:Int):Option (List MV):=if decide (k < 0)||decide (1000 < k)then none else some (gx k.toNat (.int z))
noncomputable def gT(op:Operator)(a b:MV):MM MV:=fun s=>match a with
 | .int x=>(js b).bind fun y=>(PQ op x y).map fun z=>(.int z,s)
 | .tup x=>if Bl op then(GH b).bind fun y=>(DK x y).map fun z=>(.tup z,s)else none
 | .ref n=>(cy s.hp (.ref n)).bind fun x=>
  if Bl op then(cy s.hp b).bind fun y=>(DK x y).bind fun z=>d0 (.list z) s
  else if Fw op then(Fb x).bind fun z=>(js b).bind fun k=>(QZ z k).bind fun l=>d0 (.list l) s else none
 |_=>none
noncomputable def w7(op:UnaryOp)(a:MV):MM MV:=fun s=>
 match op with
 | .USub=>(js a).map fun i=>(.int (-i),s)
 | .Invert=>(js a).map fun i=>(.int (cQ i),s)
 | .Not=>(iN s.hp a).map fun b=>(.bool (!b),s)
 |_=>none
structure Tb where
 gl:Str→Option MV
 isFn:Addr→Bool
 init:Addr→Option Addr
 meth:Addr→Str→Option Addr
 fld:Addr→Str→Bool
noncomputable def NR(vs:List MV)(i:MV):Option MV:=(js i).bind fun k=>if k < 0 then none else if big k then none else vs[k.toNat]?
noncomputable def bp(H:MH)(a i:MV):Option MV:=match a with
 | .tup vs=>NR vs i
 | .ref n=>match H[n]? with
  |some (.list vs)=>NR vs i
  |some (.dict es)=>if i9 i then(gR i es).bind id else none
  |_=>none
 |_=>none
noncomputable def lQ:Option MV→Option (Option Nat)
 |none=>some none
 |some (.int k)=>if k < 0 then none else if 2^40 < k then none else some (some k.toNat)
 |_=>none
noncomputable def Ql(vs:List MV)(lo hi:Option Nat):List MV:=((match hi with|some k=>vs.take k|none=>vs).drop (lo.getD 0))
noncomputable def Og(vs:List MV)(k:Nat):Option MV:=if vs.length < k||decide (1000 < vs.length)then none else some (.tup (vs.take k))
noncomputable def yn:Option Nat→Option Nat→Option Nat
 |none,some k=>some k
 |_,_=>none
noncomputable def iQ(a:MV)(lo hi:Option MV):MM MV:=fun s=>(lQ lo).bind fun lo=>(lQ hi).bind fun hi=>match a with
 | .tup vs=>(yn lo hi).bind fun k=>(Og vs k).map fun r=>(r,s)
 | .flist vs=>if 1000 < vs.length then none else d0 (.list (Ql vs lo hi)) s
 | .ref n=>(cy s.hp (.ref n)).bind fun vs=>if 1000 < vs.length then none else d0 (.list (Ql vs lo hi)) s
 |_=>none
noncomputable def fE(a i v:MV):MM Unit:=fun s=>
 match a with
 | .ref n=>match s.hp[n]? with
  |some (.list vs)=>(js i).bind fun k=>if k < 0 then none else if big k then none else if vs.length≤k.toNat then none else qc n (.list (vs.set k.toNat v)) s
  |some (.dict es)=>if i9 i then(l6 i v es).bind fun es'=>if 1000 < es.length then none else qc n (.dict es') s else none
  |_=>none
 |_=>none
noncomputable def aN(tb:Tb)(H:MH)(o:MV)(a:Str):Option MV:=match o with
 | .ref n=>match H[n]? with
  |some (.inst C fs)=>if tb.fld C a then gv a fs else none
  |_=>none
 |_=>none
noncomputable def dY(tb:Tb)(o:MV)(a:Str)(v:MV):MM Unit:=fun s=>match o with
 | .ref n=>match s.hp[n]? with
  |some (.inst C fs)=>if 900 < fs.length then none else if tb.fld C a then qc n (.inst C (jf a v fs)) s else none
  |_=>none
 |_=>none
noncomputable def cW(H:MH)(v:MV)(i:Nat):Option (Option MV):=match v with
 | .ref n=>match H[n]? with
  |some (.list vs)=>some vs[i]?
  |_=>none
 | .tup vs=>some vs[i]?
 | .range a b=>if big a||big b then none else some (if a+i < b then some (.int (a+i))else none)
 |_=>none
noncomputable def iR(H:MH)(v:MV):Nat:=match v with
 | .ref n=>match H[n]? with
  |some (.list vs)=>vs.length
  |_=>0
 | .tup vs=>vs.length
 | .range a b=>(b - a).toNat
 |_=>0
noncomputable def gA(H:MH):MV→Option (List MV)
 | .ref n=>match H[n]? with
  |some (.list vs)=>some vs
  |some (.dict es)=>some (es.map (·.1))
  |_=>none
 |_=>none
noncomputable def jI(H:MH):MV→Option (List MV)
 | .ref n=>match H[n]? with
  |some (.list vs)=>some vs
  |_=>none
 | .tup vs=>some vs
 | .range a b=>if big a||big b||decide (1000 < b - a)then none else some ((aE (b - a).toNat).map fun(i:Nat)=>.int (a+(i:Int)))
 |_=>none
noncomputable def Qq:List MV→Option (MV×MV)
 |[a,b]=>some (a,b)
 |_=>none
noncomputable def jw:List MV→Option (List (MV×MV))
 |[]=>some []
 |m::r=>(GH m).bind fun l=>(Qq l).bind fun p=>(jw r).map (p:: ·)
noncomputable def iF:List (MV×MV)→List (MV×MV)→Option (List (MV×MV))
 |[],es=>some es
 |(k,v)::r,es=>if i9 k then(l6 k v es).bind (iF r)else none
noncomputable def tY(i:Int):List Int→List Int
 |[]=>[i]
 |j::r=>if i≤j then i::j::r else j::tY i r
noncomputable def jR:List Int→List Int
 |[]=>[]
 |i::r=>tY i (jR r)
noncomputable def Pd(a b:Str):Bool:=decide (a.cps.toList≤b.cps.toList)
noncomputable def tX(i:Str):List Str→List Str
 |[]=>[i]
 |j::r=>if Pd i j then i::j::r else j::tX i r
noncomputable def oW:List Str→List Str
 |[]=>[]
 |i::r=>tX i (oW r)
noncomputable def kU(vs:List MV):Option (List MV):=match gY vs with
 |some l=>some ((jR l).map .int)
 |none=>(je vs).map fun l=>(oW l).map .str
noncomputable def xZ:Int→List Int→Int
 |a,[]=>a
 |a,b::r=>xZ (if b < a then b else a) r
noncomputable def wo(x:Int):List Int→Nat→Option Nat
 |[],_=>none
 |y::r,i=>if y=x then some i else wo x r (i+1)
noncomputable def kW(H:MH):MV→Option Nat
 | .ref n=>match H[n]? with
  |some (.list vs)=>some vs.length
  |some (.dict es)=>some es.length
  |_=>none
 | .tup vs=>some vs.length
 | .str s=>some s.cps.size
 |_=>none
noncomputable def gj(n:Nat):Bool:=decide (1000 < n)
noncomputable def FC(l:List MV):Option (Int×Int):=(Qq l).bind fun p=>(js p.1).bind fun a=>(js p.2).map fun b=>(a,b)
noncomputable def Nf(l:List MV):Option (Int×Int):=match one l with
 |some v=>(js v).map fun b=>(0,b)
 |none=>FC l
noncomputable def Rn:List Int→Option Int
 |a::r=>if gj r.length then none else some (xZ a r)
 |[]=>none
noncomputable def iG(f:Value)(args:List MV):MM MV:=fun s=>match f with
 | .builtin n=>
  if n="len" then(one args).bind fun v=>(kW s.hp v).bind fun k=>if gj k then none else some (.int k,s)
  else if n="abs" then(one args).bind fun v=>(js v).map fun i=>(.int i.natAbs,s)
  else if n="max" then(FC args).map fun p=>(.int (if p.1 < p.2 then p.2 else p.1),s)
  else if n="min" then(one args).bind fun v=>(cy s.hp v).bind fun l=>(gY l).bind fun q=>(Rn q).map fun i=>(.int i,s)
  else if n="sorted" then(one args).bind fun v=>(gA s.hp v).bind fun l=>if 60 < l.length then none else(kU l).bind fun r=>d0 (.list r) s
  else none
 | .type n=>
  if n="range" then(Nf args).bind fun p=>if big p.1||big p.2 then none else some (.range p.1 p.2,s)
  else if n="int" then(one args).bind fun v=>(js v).map fun i=>(.int i,s)
  else if n="list" then(one args).bind fun v=>(jI s.hp v).bind fun l=>if gj l.length then none else d0 (.list l) s
  else if n="tuple" then(one args).bind fun v=>(cy s.hp v).bind fun l=>if gj l.length then none else some (.tup l,s)
  else if n="dict" then(one args).bind fun v=>(cy s.hp v).bind fun l=>if gj l.length then none else(jw l).bind fun ps=>(iF ps []).bind fun es=>d0 (.dict es) s
  else none
 |_=>none
noncomputable def Pr:List MV→Option (MV×MV)
 |[k]=>some (k,.none)
 |[k,d]=>some (k,d)
 |_=>none
noncomputable def Ph(n:Nat):MV→Bool
 | .ref m=>m==n
 |_=>false
noncomputable def Hn(n:Nat)(l:List MV)(k:Nat):MM MV:=fun s=>if gj k then none else some (.none,{s with hp:=s.hp.set n (.list l)})
noncomputable def iX(o:MV)(name:Str)(args:List MV):MM MV:=fun s=>match o with
 | .int i=>if name="bit_length"∧args.isEmpty=true then(if big i then none else some (.int (Nat.log2 i.natAbs+(if i=0 then 0 else 1)),s))else none
 | .ref n=>match s.hp[n]? with
  |some (.list vs)=>
   if name="append" then(one args).bind fun v=>Hn n (vs++[v]) vs.length s
   else if name="extend" then(one args).bind fun v=>if Ph n v then none else(cy s.hp v).bind fun us=>Hn n (vs++us) (vs.length+us.length) s
   else if name="index" then(one args).bind fun v=>(js v).bind fun x=>(gY vs).bind fun l=>if gj l.length then none else(wo x l 0).map fun(i:Nat)=>(MV.int (i:Int),s)
   else if name="reverse"∧args.isEmpty=true then Hn n vs.reverse vs.length s
   else none
  |some (.dict es)=>if name="get" then(Pr args).bind fun p=>if i9 p.1 then(gR p.1 es).map fun v=>(v.getD p.2,s)else none else none
  |_=>none
 |_=>none
noncomputable abbrev CF:=Addr→List MV→MH→Option (MV×MH)
noncomputable def tv(cf:CF)(a:Addr)(args:List MV):MM MV:=fun s=>(cf a args s.hp).map fun r=>(r.1,{s with hp:=r.2})
noncomputable def e9(tb:Tb)(cf:CF)(f:MV)(args:List MV):MM MV:=match f with
 | .stat (.ref a)=>if tb.isFn a then tv cf a args else match tb.init a with
  |some i=>aR (d0 (.inst a [])) fun x=>aR (tv cf i (x::args)) fun r=>match r with
   | .none=>bO x
   |_=>bP
  |none=>bP
 | .stat f=>iG f args
 |_=>bP
noncomputable def iV(tb:Tb)(H:MH)(ov:MV)(name:Str):Option (Option Addr):=match ov with
 | .ref n=>match H[n]? with
  |some (.inst C fs)=>(match tb.meth C name,gv name fs with
   |some f,none=>some (some f)
   |_,_=>none)
  |some (.list _)=>if name="append"||name="extend"||name="index"||name="reverse" then some none else none
  |some (.dict _)=>if name="get" then some none else none
  |none=>none
 | .int _=>if name="bit_length" then some none else none
 |_=>none
noncomputable def qh:Expr→Bool
 | .Call (.Name x _) [] [] _=>x==("super":Str)
 |_=>false
structure Ev where
 e:Scope→Expr→MM MV
 t:Scope→Expr→MM Bool
 s:Scope→Stmt→MM MF
noncomputable def Bs(f:Expr→MM MV):List Expr→MM (List MV)
 |[]=>bO []
 |e::r=>aR (f e) fun v=>aR (Bs f r) fun vs=>bO (v::vs)
noncomputable def pA(f:Expr→MM MV):List (Option Expr)→List Expr→MM (List (MV×MV))
 |[],[]=>bO []
 |some k::ks,v::vs=>aR (f k) fun a=>aR (f v) fun b=>aR (pA f ks vs) fun r=>bO ((a,b)::r)
 |_,_=>bP
noncomputable def Ad(f:Expr→MM MV)(op:BoolOp):List Expr→MM MV
 |[]=>bP
 |[e]=>f e
 |e::r=>aR (f e) fun v=>aR (iJ fun s=>iN s.hp v) fun c=>match op,c with
  | .And,false=>bO v
  | .Or,true=>bO v
  |_,_=>Ad f op r
noncomputable def ny(f:Expr→MM MV)(a:MV):List CmpOp→List Expr→MM Bool
 |[op],[r]=>aR (f r) fun b=>iJ fun s=>nB s.hp op a b
 |op::op'::ops,r::r'::rs=>aR (f r) fun b=>aR (iJ fun s=>nB s.hp op a b) fun c=>if c then ny f b (op'::ops) (r'::rs)else bO false
 |_,_=>bP
noncomputable def nT(f:Expr→MM Bool)(op:BoolOp):List Expr→MM Bool
 |[]=>bO (match op with| .And=>true| .Or=>false)
 |e::r=>aR (f e) fun c=>match op,c with
  | .And,false=>bO false
  | .Or,true=>bO true
  |_,_=>nT f op r
noncomputable def jj(e:Expr):Bool:=fY e.ctorIdx 7
noncomputable def wm:Option NameKind→Bool
 |some .local=>true
 |some .cell=>true
 |some .free=>true
 |_=>false
noncomputable def kA(sc:Scope):List Expr→List MV→MM Unit
 |[],[]=>bO ()
 | .Name x _::ts,v::vs=>aR (lF sc x v) fun z_=>kA sc ts vs
 |_,_=>bP
noncomputable def pH(sc:Scope)(t:Expr)(v:MV):MM Unit:=match t with
 | .Name x _=>lF sc x v
 | .Tuple ts _ _=>(match v with
  | .tup vs=>kA sc ts vs
  |_=>bP)
 |_=>bP
noncomputable def nk(rest:MM MF):MF→MM MF
 | .brk=>bO .next
 | .ret v=>bO (.ret v)
 |_=>rest
noncomputable def x8(asg:MV→MM Unit)(body rest:MM MF):Option MV→MM MF
 |none=>bO .next
 |some v=>aR (asg v) fun z_=>aR body (nk rest)
noncomputable def hV(it:MV)(asg:MV→MM Unit)(body:MM MF):Nat→Nat→MM MF
 |0,_=>bP
 |k+1,i=>fun s=>(cW s.hp it i).bind fun x=>x8 asg body (hV it asg body k (i+1)) x s
noncomputable def uk(body rest:MM MF):Bool→MM MF
 |false=>bO .next
 |true=>aR body (nk rest)
noncomputable def ge(test:MM Bool)(body:MM MF):Nat→MM MF
 |0=>bP
 |k+1=>aR test (uk body (ge test body k))
noncomputable def yO(fg rest:MM (List MV)):Bool→MM (List MV)
 |false=>rest
 |true=>aR fg fun l=>aR rest fun r=>bO (l++r)
noncomputable def yM(asg:MV→MM Unit)(ok:MM Bool)(fg rest:MM (List MV)):Option MV→MM (List MV)
 |none=>bO []
 |some v=>aR (asg v) fun z_=>aR ok (yO fg rest)
noncomputable def eZ(it:MV)(asg:MV→MM Unit)(ok:MM Bool)(fg:MM (List MV)):Nat→Nat→MM (List MV)
 |0,_=>bP
 |k+1,i=>fun s=>(cW s.hp it i).bind fun x=>yM asg ok fg (eZ it asg ok fg k (i+1)) x s
noncomputable def qu(sc:Scope)(e:Expr→MM MV)(t:Expr→MM Bool)(fg:MM (List MV)):List Comprehension→MV→MM (List MV)
 |[],_=>bP
 |[g],it=>fun s=>eZ it (pH sc g.target) (nT t .And g.ifs) fg (iR s.hp it+1) 0 s
 |g::g'::gs,it=>fun s=>eZ it (pH sc g.target) (nT t .And g.ifs) (aR (e g'.iter) fun x=>qu sc e t fg (g'::gs) x) (iR s.hp it+1) 0 s
noncomputable def tt(sc:Scope)(loc:List (Str×MV)):List (Str×MV):=loc.filter fun x=>sc.names.lookup x.1==some .free
noncomputable def mL(sc own:Scope):Bool:=own.kind==.function&&own.names.all fun y=>own.names.lookup y.1==some y.2&&y.2 != .cell&&(y.2 != .free||sc.names.lookup y.1==some .cell||sc.names.lookup y.1==some .free)
noncomputable def rz{α:Type}(sc:Scope)(m:MM α):MM α:=fun s=>(m ⟨tt sc s.loc,s.hp⟩).map fun r=>(r.1,{s with hp:=r.2.hp})
noncomputable def oA:Expr→Option Str
 | .Name t _=>some t
 |_=>none
noncomputable def LS:Expr→Option (Expr×Expr)
 | .Subscript a b _=>some (a,b)
 |_=>none
noncomputable def LV:Expr→Option (Expr×List CmpOp×List Expr)
 | .Compare a o c _=>some (a,o,c)
 |_=>none
noncomputable def LU:Expr→Option Const
 | .Constant c _ _=>some c
 |_=>none
noncomputable def PJ:Const→Option Int
 | .int i=>some i
 |_=>none
noncomputable def Om(e:Expr):Option Expr:=(LV e).bind fun p=>if p.2.1=[.NotEq]then(one p.2.2).bind fun c=>(LU c).bind fun k=>(PJ k).bind fun i=>if i=0 then some p.1 else none else none
noncomputable def LT(l:List Comprehension):Option (Expr×Expr×Expr):=(one l).bind fun g=>if g.is_async=0 then(one g.ifs).bind fun c=>(Om c).map fun a=>(g.target,g.iter,a)else none
noncomputable def Fu(e:Expr):Option (Str×Str):=(LS e).bind fun p=>(oA p.1).bind fun x=>(oA p.2).map fun t=>(x,t)
noncomputable def wF(k v:Expr)(gens:List Comprehension):Option (Str×Str):=(oA k).bind fun t=>(Fu v).bind fun q=>(LT gens).bind fun g=>(oA g.1).bind fun t2=>(oA g.2.1).bind fun x2=>(Fu g.2.2).bind fun q3=>
 if(t=q.2∧t=t2∧t=q3.2)∧q.1=x2∧q.1=q3.1 then some (q.1,t)else none
noncomputable def mK:List (MV×MV)→Option (List (MV×MV))
 |[]=>some []
 |(.int k,.int v)::r=>(mK r).map fun l=>if v=0 then l else(.int k,.int v)::l
 |_=>none
noncomputable def ou(H:MH)(d:MV):Option (List (MV×MV)):=(pC H d).bind fun es=>if es.isEmpty||decide (1000 < es.length)then none else mK es
noncomputable def yN(r:Ev)(sc:Scope)(elt:Expr)(gens:List Comprehension)(own:Scope):MM (List MV):=match gens with
 |g::gs=>if !mL sc own||(g::gs).any (fun g=>jj g.iter||g.is_async != 0)then bP else aR (r.e sc g.iter) fun it=>aR (rz own (qu own (r.e own) (r.t own) (aR (r.e own elt) fun v=>bO [v]) (g::gs) it)) fun vs=>if gj vs.length then bP else bO vs
 |[]=>bP
noncomputable def Ek(tb:Tb)(cf:CF)(r:Ev)(sc:Scope):Expr→MM MV
 | .Constant .none _ _=>bO .none
 | .Constant (.bool b) _ _=>bO (.bool b)
 | .Constant (.int i) _ _=>bO (.int i)
 | .Constant (.str x) _ _=>bO (.str x)
 | .Name x _=>if(x==("__debug__":Str))||(x==("__classdict__":Str))then bP else if wm (sc.names.lookup x)then iJ fun s=>gv x s.loc else if sc.names.lookup x=some .globalImplicit then iJ fun z_=>tb.gl x else bP
 | .BinOp a op b _=>aR (r.e sc a) fun x=>aR (r.e sc b) fun y=>gT op x y
 | .UnaryOp op a _=>aR (r.e sc a) fun x=>w7 op x
 | .BoolOp op vs _=>Ad (r.e sc) op vs
 | .Compare a ops bs _=>if bs.any jj then bP else aR (r.e sc a) fun x=>aR (ny (r.e sc) x ops bs) fun b=>bO (.bool b)
 | .IfExp t a b _=>aR (r.t sc t) fun c=>if c then r.e sc a else r.e sc b
 | .Call (.Attribute o name ap) args [] pos=>if qh o||ap.endLine != pos.line||decide (20 < args.length)then bP else aR (r.e sc o) fun ov=>aR (iJ fun s=>iV tb s.hp ov name) fun mf=>aR (Bs (r.e sc) args) fun vs=>(match mf with
  |some f=>tv cf f (ov::vs)
  |none=>iX ov name vs)
 | .Call f args [] _=>aR (r.e sc f) fun fv=>aR (Bs (r.e sc) args) fun vs=>e9 tb cf fv vs
 | .Attribute o name _=>if qh o then bP else aR (r.e sc o) fun ov=>iJ fun s=>aN tb s.hp ov name
 | .Subscript v (.Slice lo hi none _) _=>aR (r.e sc v) fun a=>
  aR (match lo with|some e=>aR (r.e sc e) fun x=>bO (some x)|none=>bO none) fun l=>
  aR (match hi with|some e=>aR (r.e sc e) fun x=>bO (some x)|none=>bO none) fun h=>iQ a l h
 | .Subscript v i _=>aR (r.e sc v) fun a=>aR (r.e sc i) fun k=>iJ fun s=>bp s.hp a k
 | .List es _=>if gj es.length then bP else aR (Bs (r.e sc) es) fun vs=>d0 (.list vs)
 | .Tuple es _ _=>if gj es.length then bP else aR (Bs (r.e sc) es) fun vs=>bO (.tup vs)
 | .Dict ks vs _=>if 15 < ks.length then bP else aR (pA (r.e sc) ks vs) fun ps=>aR (iJ fun z_=>iF ps []) fun es=>d0 (.dict es)
 | .ListComp elt gens own _=>aR (yN r sc elt gens own) fun vs=>d0 (.list vs)
 | .DictComp k v gens own _=>(match wF k v gens with
  |some (x,t)=>if !mL sc own||!(own.names.lookup t==some .local)||!(own.names.lookup x==some .free)||x==("__debug__":Str)||t==("__debug__":Str)||x==("__classdict__":Str)then bP else aR (iJ fun s=>gv x s.loc) fun d=>aR (iJ fun s=>ou s.hp d) fun es=>d0 (.dict es)
  |none=>bP)
 |_=>bP
noncomputable def Ls(r:Ev)(sc:Scope):Expr→MM Bool
 | .BoolOp op vs _=>nT (r.t sc) op vs
 | .UnaryOp .Not x _=>aR (r.t sc x) fun b=>bO (!b)
 | .IfExp t a b _=>aR (r.t sc t) fun c=>if c then r.t sc a else r.t sc b
 | .Compare a ops bs _=>if bs.any jj then bP else aR (r.e sc a) fun x=>ny (r.e sc) x ops bs
 |e=>aR (r.e sc e) fun v=>iJ fun s=>iN s.hp v
noncomputable def s7(f:Stmt→MM MF):List Stmt→MM MF
 |[]=>bO .next
 |st::rest=>aR (f st) fun x=>match x with
  | .next=>s7 f rest
  |x=>bO x
noncomputable def sT(e:Expr):Bool:=Nat.ble 8 e.ctorIdx&&Nat.ble e.ctorIdx 10
noncomputable def GN:Expr→Option (Expr×List Expr×List Keyword)
 | .Call f a k _=>some (f,a,k)
 |_=>none
noncomputable def EX(e:Expr):Option (Expr×Expr):=(GN e).bind fun c=>(oA c.1).bind fun x=>(one c.2.1).bind fun a=>if c.2.2.isEmpty=true then if x==("reversed":Str)then some (c.1,a)else none else none
noncomputable def v5(fv v:MV):MM MF:=fun s=>match fv,v with
 | .stat (.type "reversed"),.ref n=>match s.hp[n]? with
  |some (.list [])=>some (.next,s)
  |_=>none
 |_,_=>none
noncomputable def LB(e:Expr):Bool:=fY e.ctorIdx 25
noncomputable def BB(r:Ev)(sc:Scope)(x:Str)(value:Expr):MM MF:=match value with
 | .ListComp elt gens own _=>aR (yN r sc elt gens own) fun vs=>aR (d0 (.list vs)) fun v=>aR (lF sc x v) fun z_=>bO .next
 |value=>if sT value then bP else aR (r.e sc value) fun v=>aR (lF sc x v) fun z_=>bO .next
noncomputable def rB(tb:Tb)(r:Ev)(sc:Scope)(t value:Expr):MM MF:=match t with
 | .Name x _=>BB r sc x value
 | .Attribute o a _=>aR (r.e sc value) fun v=>aR (r.e sc o) fun ov=>aR (dY tb ov a v) fun z_=>bO .next
 | .Subscript o i _=>aR (r.e sc value) fun v=>aR (r.e sc o) fun ov=>aR (r.e sc i) fun iv=>aR (fE ov iv v) fun z_=>bO .next
 | .Tuple ts k p=>if LB value then bP else aR (r.e sc value) fun v=>aR (pH sc (.Tuple ts k p) v) fun z_=>bO .next
 |_=>bP
noncomputable def Bq(r:Ev)(sc:Scope)(t it:Expr)(b:List Stmt):MM MF:=if jj it then bP else match EX it with
 |some (f,e)=>aR (r.e sc f) fun fv=>aR (r.e sc e) fun v=>v5 fv v
 |none=>aR (r.e sc it) fun v=>fun s=>hV v (pH sc t) (s7 (r.s sc) b) (iR s.hp v+1) 0 s
noncomputable def vV(r:Ev)(sc:Scope):Option Expr→MM MF
 |none=>bO (.ret .none)
 |some e=>aR (r.e sc e) fun v=>bO (.ret v)
noncomputable def Lu(tb:Tb)(r:Ev)(sc:Scope):Stmt→MM MF
 | .Pass _=>bO .next
 | .Break _=>bO .brk
 | .Continue _=>bO .cont
 | .Expr e _=>if sT e then bP else aR (r.e sc e) fun z_=>bO .next
 | .Return v _=>vV r sc v
 | .If t b o _=>aR (r.t sc t) fun c=>if c then s7 (r.s sc) b else s7 (r.s sc) o
 | .Assign ts value _=>(match ts with
  |[t]=>rB tb r sc t value
  |_=>bP)
 | .For t it b o _=>(match o with
  |[]=>Bq r sc t it b
  |_=>bP)
 | .While t b o _=>(match o with
  |[]=>ge (r.t sc t) (s7 (r.s sc) b) 100
  |_=>bP)
 |_=>bP
noncomputable def ev(tb:Tb)(cf:CF):Nat→Ev
 |0=>⟨fun z_ z_=>bP,fun z_ z_=>bP,fun z_ z_=>bP⟩
 |n+1=>⟨Ek tb cf (ev tb cf n),Ls (ev tb cf n),Lu tb (ev tb cf n)⟩
structure Fn where
 params:List Str
 dflts:List MV
 body:List Stmt
 sc:Scope
noncomputable def PL(f:Fn)(args:List MV):Option (List (Str×MV)):=
 if args.length≤f.params.length&&f.params.length≤args.length+f.dflts.length
 then some (f.params.zip (args++f.dflts.drop (args.length+f.dflts.length - f.params.length)))else none
noncomputable def OT(tb:Tb)(cf:CF)(f:Fn)(args:List MV)(H:MH):Option (MV×MH):=
 (PL f args).bind fun l=>match s7 ((ev tb cf 30).s f.sc) f.body ⟨l,H⟩with
  |some (.ret v,s)=>some (v,s.hp)
  |some (.next,s)=>some (.none,s.hp)
  |_=>none
noncomputable def vf(tb:Tb)(fns:Addr→Option Fn):Nat→CF
 |0=>fun z_ z_ z_=>none
 |d+1=>fun a args H=>(fns a).bind fun f=>OT tb (vf tb fns d) f args H
set_option backward.match.sparseCases true
noncomputable def X0:Program×World×Heap:=Classical.epsilon (h:=⟨(rw_nu0210_01.row.prog,⟨fun z_ z_=>0,{strHash:=fun z_=>0,shareClass:=fun z_=>0,mergeTok:=id,idOf:=fun z_=>0,idOfShared:=fun z_ z_=>0,followText:=fun z_=>true,idOfImm:=fun z_=>0}⟩,{})⟩) fun x=>¬BJ x
noncomputable def aQ:Program:=X0.1
noncomputable def w:World:=X0.2.1
noncomputable def B:Heap:=X0.2.2
noncomputable abbrev bE:=List (Addr×Addr)
mutual
inductive VR(B:Heap)(P:bE)(h:Heap):MV→Value→Prop
 |none:VR B P h .none .none
 |bool (b):VR B P h (.bool b) (.bool b)
 |int (i t):VR B P h (.int i) (.int i t)
 |str (x t):VR B P h (.str x) (.str x t)
 |tup {vs a items}:IsTup h a items.toArray→dy B P h vs items→VR B P h (.tup vs) (.ref a)
 |ref {n p}:P[n]?=some p→VR B P h (.ref n) (.ref p.1)
 |range {a b r t u v}:IsRange h r a b 1 t u v→VR B P h (.range a b) (.ref r)
 |flist {vs l items}:B.IsList l items.toArray→dy B P h vs items→VR B P h (.flist vs) (.ref l)
 |stat (v):handedIn v=true→VR B P h (.stat v) v
inductive dy(B:Heap)(P:bE)(h:Heap):List MV→List Value→Prop
 |nil:dy B P h [] []
 |cons {m v ms vs}:VR B P h m v→dy B P h ms vs→dy B P h (m::ms) (v::vs)
end
noncomputable def Tt(B:Heap)(P:bE)(h:Heap)(v:Value):MV→Prop
 | .none=>v=.none
 | .bool b=>v=.bool b
 | .int i=>∃t,v=.int i t
 | .str x=>∃t,v=.str x t
 | .tup vs=>∃a items,v=.ref a∧IsTup h a items.toArray∧dy B P h vs items
 | .ref n=>∃p,v=.ref p.1∧P[n]?=some p
 | .range a b=>∃r t u x,v=.ref r∧IsRange h r a b 1 t u x
 | .flist vs=>∃l items,v=.ref l∧B.IsList l items.toArray∧dy B P h vs items
 | .stat u=>v=u∧handedIn u=true
theorem VR.inv{B:Heap}{P:bE}{h:Heap}:∀{m:MV}{v:Value},VR B P h m v→Tt B P h v m
 |_,_,.none=>rfl
 |_,_,.bool _=>rfl
 |_,_,.int _ t=>⟨t,rfl⟩
 |_,_,.str _ t=>⟨t,rfl⟩
 |_,_,.tup a b=>⟨_,_,rfl,a,b⟩
 |_,_,.ref e=>⟨_,rfl,e⟩
 |_,_,.range r=>⟨_,_,_,_,rfl,r⟩
 |_,_,.flist a b=>⟨_,_,rfl,a,b⟩
 |_,_,.stat _ b=>⟨rfl,b⟩
theorem dy.nil_inv{B:Heap}{P:bE}{h:Heap}:∀{us:List Value},dy B P h [] us→us=[]
 |_,.nil=>rfl
theorem dy.inv{B:Heap}{P:bE}{h:Heap}{m:MV}{ms:List MV}:∀{us:List Value},dy B P h (m::ms) us→∃v vs,us=v::vs∧VR B P h m v∧dy B P h ms vs
 |_,.cons a b=>⟨_,_,rfl,a,b⟩
theorem dy.inv1{B:Heap}{P:bE}{h:Heap}{m:MV}:∀{us:List Value},dy B P h [m] us→∃v,us=[v]∧VR B P h m v:=fun h=>by
 obtain⟨v,vs,rfl,a,b⟩:=h.inv
 exact⟨v,congrArg (List.cons v) b.nil_inv,a⟩
theorem dy.inv2{B:Heap}{P:bE}{h:Heap}{m m':MV}:∀{us:List Value},dy B P h [m,m'] us→∃v v',us=[v,v']∧VR B P h m v∧VR B P h m' v':=fun h=>by
 obtain⟨v,vs,rfl,a,b⟩:=h.inv
 obtain⟨v',e,b⟩:=b.inv1
 exact⟨v,v',congrArg (List.cons v) e,a,b⟩
theorem cO{v:MV}{i:Int}(h:js v=some i):v=.int i:=by
 cases v<;>first|exact bD h|exact congrArg MV.int (ab h)
theorem yY{v:MV}{i:Bool}(h:GO v=some i):v=.bool i:=by
 cases v<;>first|exact bD h|exact congrArg MV.bool (ab h)
theorem tC{v:MV}{i:List MV}(h:GH v=some i):v=.tup i:=by
 cases v<;>first|exact bD h|exact congrArg MV.tup (ab h)
theorem tD{v:MV}{i:Str}(h:GJ v=some i):v=.str i:=by
 cases v<;>first|exact bD h|exact congrArg MV.str (ab h)
theorem Fa{α:Type}:∀{l:List α}{v:α},one l=some v→l=[v]
 |[],_,h=>bD h
 |[_],_,h=>congrArg (fun x=>[x]) (ab h)
 |_::_::_,_,h=>bD h
theorem D7:∀{l:List MV}{p:MV×MV},Qq l=some p→l=[p.1,p.2]
 |[],_,h=>bD h
 |[_],_,h=>bD h
 |[_,_],_,h=>congrArg (fun x:MV×MV=>[x.1,x.2]) (ab h)
 |_::_::_::_,_,h=>bD h
theorem mw{α β:Type}{l:List β}{f:β→Option α}{y:α}(h:(one l).bind f=some y):∃v,l=[v]∧f v=some y:=by
 obtain⟨v,e,h⟩:=vk h
 exact⟨v,Fa e,h⟩
theorem q9{α β:Type}{l:List β}{f:β→Option α}{y:α}{C:Prop}(h:(one l).bind f=some y)(k:∀v,l=[v]→f v=some y→C):C:=aM (mw h) k
theorem k6{B:Heap}{P:bE}{h:Heap}{m:MV}{us:List Value}(x:dy B P h [m] us){C:List Value→Prop}(k:∀v,VR B P h m v→C [v]):C us:=aM x.inv1 fun v e y=>e▸k v y
theorem Fz{B:Heap}{P:bE}{h:Heap}{m m':MV}{us:List Value}(x:dy B P h [m,m'] us){C:List Value→Prop}(k:∀v v',VR B P h m v→VR B P h m' v'→C [v,v']):C us:=eW x.inv2 fun v v' e y y'=>e▸k v v' y y'
theorem mE{B:Heap}{P:bE}{h:Heap}{i:Int}{u:Value}(x:VR B P h (.int i) u){C:Value→Prop}(k:∀t,C (.int i t)):C u:=fH x.inv fun t e=>e▸k t
theorem Ej{B:Heap}{P:bE}{h:Heap}{i:Str}{u:Value}(x:VR B P h (.str i) u){C:Value→Prop}(k:∀t,C (.str i t)):C u:=fH x.inv fun t e=>e▸k t
theorem zC{B:Heap}{P:bE}{h:Heap}{n:Nat}{u:Value}(x:VR B P h (.ref n) u){C:Value→Prop}(k:∀p:Addr×Addr,P[n]?=some p→C (.ref p.1)):C u:=aM x.inv fun p e y=>e▸k p y
theorem Me{B:Heap}{P:bE}{h:Heap}{vs:List MV}{u:Value}(x:VR B P h (.tup vs) u){C:Value→Prop}(k:∀a items,IsTup h a items.toArray→dy B P h vs items→C (.ref a)):C u:=eW x.inv fun a items e y z=>e▸k a items y z
theorem ku{H:MH}{n:Nat}{l:List MV}(h:cy H (.ref n)=some l):H[n]?=some (.list l):=by
 unfold cy at h
 dsimp only at h
 generalize H[n]?=x at h
 cases x with
 |none=>exact bD h
 |some o=>cases o<;>first|exact bD h|exact congrArg (fun l=>some (MO.list l)) (ab h)
theorem jJ{H:MH}{v:MV}{l:List MV}(h:cy H v=some l):∃n,v=.ref n∧H[n]?=some (.list l):=by
 cases v<;>first|exact bD h|exact⟨_,rfl,ku h⟩
theorem wE{H:MH}{v:MV}{l:List (MV×MV)}(h:pC H v=some l):∃n,v=.ref n∧H[n]?=some (.dict l):=by
 cases v with
 |ref n=>
  refine⟨n,rfl,?_⟩
  unfold pC at h
  dsimp only at h
  generalize H[n]?=x at h
  cases x with
  |none=>exact bD h
  |some o=>cases o<;>first|exact bD h|exact congrArg (fun l=>some (MO.dict l)) (ab h)
 |_=>exact bD h
noncomputable def imm(o:Obj):Prop:=(o.cls=.type "tuple"∧∃xs n,o.data=.seq xs n)∨(o.cls=.type "range"∧∃xs,o.data=.fields xs)
noncomputable def cR(P P':bE):Prop:=∀(n:Nat) (p:Addr×Addr),P[n]?=some p→P'[n]?=some p
theorem cR.refl(P:bE):cR P P:=fun z_ z_ e=>e
theorem cR.trans{P Q R:bE}(a:cR P Q)(b:cR Q R):cR P R:=fun n p e=>b n p (a n p e)
theorem cR.app(P Q:bE):cR P (P++Q):=fun n p e=>by
 rw[aI];exact e
 exact(ai.mp e).1
theorem rZ{h h':Heap}{a:Addr}{l:Array Value}(hk:∀a o,h.get? a=some o→imm o→h'.get? a=some o)(hi:IsTup h a l):IsTup h' a l:=by
 obtain⟨o,ho,hc,n,hd⟩:=hi
 exact⟨o,hk _ _ ho (.inl ⟨hc,_,n,hd⟩),hc,n,hd⟩
theorem VR.mono{B:Heap}{P P':bE}{h h':Heap}(hk:∀a o,h.get? a=some o→imm o→h'.get? a=some o)(hp:cR P P'){m:MV}{v:Value}(x:VR B P h m v):VR B P' h' m v:=
 VR.rec (motive_1:=fun m v z_=>VR B P' h' m v) (motive_2:=fun ms vs z_=>dy B P' h' ms vs) .none .bool .int .str (fun hi z_ ih=>.tup (rZ hk hi) ih) (fun e=>.ref (hp _ _ e)) (fun hr=>.range (hk _ _ hr (.inr ⟨rfl,_,rfl⟩))) (fun hl z_ ih=>.flist hl ih) .stat .nil (fun z_ z_ a b=>.cons a b) x
theorem dy.mono{B:Heap}{P P':bE}{h h':Heap}(hk:∀a o,h.get? a=some o→imm o→h'.get? a=some o)(hp:cR P P'){ms:List MV}{vs:List Value}(x:dy B P h ms vs):dy B P' h' ms vs:=
 dy.rec (motive_1:=fun m v z_=>VR B P' h' m v) (motive_2:=fun ms vs z_=>dy B P' h' ms vs) .none .bool .int .str (fun hi z_ ih=>.tup (rZ hk hi) ih) (fun e=>.ref (hp _ _ e)) (fun hr=>.range (hk _ _ hr (.inr ⟨rfl,_,rfl⟩))) (fun hl z_ ih=>.flist hl ih) .stat .nil (fun z_ z_ a b=>.cons a b) x
theorem dy.ind{B:Heap}{P:bE}{h:Heap}{C:List MV→List Value→Prop}(c0:C [] [])(c1:∀{m v ms vs},VR B P h m v→dy B P h ms vs→C ms vs→C (m::ms) (v::vs)){ms:List MV}{vs:List Value}(x:dy B P h ms vs):C ms vs:=
 dy.rec (motive_1:=fun z_ z_ z_=>True) (motive_2:=fun ms vs z_=>C ms vs) trivial (fun z_=>trivial) (fun z_ z_=>trivial) (fun z_ z_=>trivial) (fun z_ z_ z_=>trivial) (fun z_=>trivial) (fun z_=>trivial) (fun z_ z_ z_=>trivial) (fun z_ z_=>trivial) c0 (fun a b z_ ih=>c1 a b ih) x
theorem dy.length{B:Heap}{P:bE}{h:Heap}{ms:List MV}{vs:List Value}(x:dy B P h ms vs):ms.length=vs.length:=
 dy.ind (C:=fun ms vs=>ms.length=vs.length) rfl (fun z_ z_ ih=>congrArg Nat.succ ih) x
theorem dy.append{B:Heap}{P:bE}{h:Heap}{ms ms':List MV}{vs vs':List Value}(x:dy B P h ms vs)(y:dy B P h ms' vs'):dy B P h (ms++ms') (vs++vs'):=
 dy.ind (C:=fun ms vs=>dy B P h (ms++ms') (vs++vs')) y (fun a z_ ih=>.cons a ih) x
theorem dy.get{B:Heap}{P:bE}{h:Heap}{ms:List MV}{vs:List Value}{i:Nat}{m:MV}(x:dy B P h ms vs):ms[i]?=some m→∃v,vs[i]?=some v∧VR B P h m v:=
 dy.ind (C:=fun ms vs=>∀i,ms[i]?=some m→∃v,vs[i]?=some v∧VR B P h m v) (fun z_ e=>bD e) (fun{m' v ms vs} a _ ih i e=>by
  cases i with
  |zero=>exact⟨v,rfl,ab e▸a⟩
  |succ i=>exact ih i e) x i
theorem dy.getN{B:Heap}{P:bE}{h:Heap}{ms:List MV}{vs:List Value}{i:Nat}(r:dy B P h ms vs)(e:ms[i]?=none):vs[i]?=none:=by
 rw[iu]at e ⊢
 rw[←r.length];exact e
theorem dy.set{B:Heap}{P:bE}{h:Heap}{m:MV}{v:Value}(a:VR B P h m v){ms:List MV}{vs:List Value}(i:Nat)(x:dy B P h ms vs):dy B P h (ms.set i m) (vs.set i v):=
 dy.ind (C:=fun ms vs=>∀i,dy B P h (ms.set i m) (vs.set i v)) (fun z_=>.nil) (fun b r ih i=>by
  cases i with
  |zero=>exact .cons a r
  |succ i=>exact .cons b (ih i)) x i
theorem dy.take{B:Heap}{P:bE}{h:Heap}{ms:List MV}{vs:List Value}(i:Nat)(x:dy B P h ms vs):dy B P h (ms.take i) (vs.take i):=
 dy.ind (C:=fun ms vs=>∀i,dy B P h (ms.take i) (vs.take i)) (fun i=>by rw[List.take_nil,List.take_nil];exact .nil) (fun b z_ ih i=>by
  cases i with
  |zero=>exact .nil
  |succ i=>exact .cons b (ih i)) x i
theorem dy.drop{B:Heap}{P:bE}{h:Heap}{ms:List MV}{vs:List Value}(i:Nat)(x:dy B P h ms vs):dy B P h (ms.drop i) (vs.drop i):=
 dy.ind (C:=fun ms vs=>∀i,dy B P h (ms.drop i) (vs.drop i)) (fun i=>by rw[List.drop_nil,List.drop_nil];exact .nil) (fun b r ih i=>by
  cases i with
  |zero=>exact .cons b r
  |succ i=>exact ih i) x i
theorem dy.reverse{B:Heap}{P:bE}{h:Heap}{ms:List MV}{vs:List Value}(x:dy B P h ms vs):dy B P h ms.reverse vs.reverse:=
 dy.ind (C:=fun ms vs=>dy B P h ms.reverse vs.reverse) .nil (fun b z_ ih=>by rw[Hj,Hj];exact ih.append (.cons b .nil)) x
inductive dF(B:Heap)(P:bE)(h:Heap):List (MV×MV)→List (Str×Value)→Prop
 |nil:dF B P h [] []
 |cons {k m v r r'}:VR B P h m v→dF B P h r r'→dF B P h ((.str k,m)::r) ((k,v)::r')
inductive dj(B:Heap)(P:bE)(h:Heap):List (MV×MV)→List (Int×Value)→Prop
 |nil:dj B P h [] []
 |cons {k m v r r'}:VR B P h m v→dj B P h r r'→dj B P h ((.int k,m)::r) ((k,v)::r')
inductive mO(B:Heap)(P:bE)(h:Heap):List (Str×MV)→List DictEntry→Prop
 |nil:mO B P h [] []
 |cons {x m t hs v r r'}:VR B P h m v→mO B P h r r'→mO B P h ((x,m)::r) (⟨hs,.str x t,v⟩::r')
theorem dF.mono{B:Heap}{P P':bE}{h h':Heap}(hk:∀a o,h.get? a=some o→imm o→h'.get? a=some o)(hp:cR P P'){a b}(x:dF B P h a b):dF B P' h' a b:=by
 induction x with
 |nil=>exact .nil
 |cons a _ ih=>exact .cons (a.mono hk hp) ih
theorem dj.mono{B:Heap}{P P':bE}{h h':Heap}(hk:∀a o,h.get? a=some o→imm o→h'.get? a=some o)(hp:cR P P'){a b}(x:dj B P h a b):dj B P' h' a b:=by
 induction x with
 |nil=>exact .nil
 |cons a _ ih=>exact .cons (a.mono hk hp) ih
theorem mO.mono{B:Heap}{P P':bE}{h h':Heap}(hk:∀a o,h.get? a=some o→imm o→h'.get? a=some o)(hp:cR P P'){a b}(x:mO B P h a b):mO B P' h' a b:=by
 induction x with
 |nil=>exact .nil
 |cons a _ ih=>exact .cons (a.mono hk hp) ih
section
variable(B:Heap)
noncomputable def rG(h:Heap)(a:Addr)(items:List Value):Prop:=∃n,Hf h a items.toArray n
theorem rG.isList{h:Heap}{a:Addr}{items:List Value}(x:rG h a items):h.IsList a items.toArray:=by
 obtain⟨n,x⟩:=x
 exact rm x
theorem rG.at{h h':Heap}{a:Addr}{items:List Value}(x:rG h a items)(k:∀o,h.get? a=some o→h'.get? a=some o):rG h' a items:=by
 obtain⟨n,x⟩:=x
 exact⟨n,k _ x⟩
noncomputable def kb(P:bE)(h:Heap)(p:Addr×Addr):MO→Prop
 | .list vs=>p.2=p.1∧∃items,rG h p.1 items∧dy B P h vs items
 | .dict es=>p.2=p.1∧((∃kvs,h.DictOf (strKind aQ w) p.1 kvs∧dF B P h es kvs)∨(∃kvs,h.DictOf (intKind aQ w) p.1 kvs∧dj B P h es kvs))
 | .inst C fs=>p.1≠p.2∧∃es n,h.get? p.1=some (instObj C p.2)∧h.get? p.2=some (dictOf es n)∧mO B P h fs es
noncomputable def Lf(p q:Addr×Addr):Prop:=p.1≠q.1∧p.1≠q.2∧p.2≠q.1∧p.2≠q.2
noncomputable def ke(P:bE)(b:Addr):Prop:=∃p∈P,b=p.1∨b=p.2
structure HR(P:bE)(M:MH)(h:Heap):Prop where
 stays:B.StaysIn h
 len:P.length=M.length
 obj:∀(n:Nat) (o:MO) (p:Addr×Addr),M[n]?=some o→P[n]?=some p→kb B P h p o
 apart:P.Pairwise Lf
 low:∀p∈P,B.get? p.1=none∧B.get? p.2=none
noncomputable def KR(a b:Option NameKind):Prop:=a=b∨(a=some .free∧b=some .cell)
structure FR(P:bE)(h:Heap)(env:Env)(sc:Scope)(loc:List (Str×MV)):Prop where
 kind:env.scope.kind=.function
 glob:env.globals=mainGlobals
 blt:env.builtins=builtinsNs
 kinds:∀x,KR (sc.names.lookup x) (env.kindOf x)
 ns:∃m,h.Ns env.locals m∧∀x mv,gv x loc=some mv→env.kindOf x=some .local→∃v,m x=some v∧VR B P h mv v
 cel:∀x,(env.kindOf x=some .cell∨env.kindOf x=some .free)→∃c v₀,env.cells.lookup x=some c∧h.IsCell c v₀∧(∀mv,gv x loc=some mv→∃v,h.IsCell c (some v)∧VR B P h mv v)
 cinj:∀x y c,env.cells.lookup x=some c→env.cells.lookup y=some c→x=y
 offL:¬ke P env.locals∧B.get? env.locals=none
 offC:∀x c,env.cells.lookup x=some c→¬ke P c∧B.get? c=none∧c≠env.locals∧∃v₀,h.IsCell c v₀
structure jk(P P':bE)(h h':Heap)(own:Addr→Prop):Prop where
 pre:cR P P'
 keep:∀b o,h.get? b=some o→¬ke P b→¬own b→h'.get? b=some o
 imm:∀b o,h.get? b=some o→imm o→h'.get? b=some o
 alive:∀b o,h.get? b=some o→∃o',h'.get? b=some o'
 fresh:∀p∈P',p∈P∨(h.get? p.1=none∧h.get? p.2=none)
theorem jk.refl(P:bE)(h:Heap)(own:Addr→Prop):jk P P h h own:=⟨cR.refl P,fun z_ z_ e z_ z_=>e,fun z_ z_ e z_=>e,fun z_ o e=>⟨o,e⟩,fun z_ hp=>.inl hp⟩
theorem bA{α:Type}{x:Option α}(h:∀o,x≠some o):x=none:=by cases x with|none=>rfl|some o=>exact absurd rfl (h o)
theorem jk.trans{P Q R:bE}{h h₁ h₂:Heap}{own:Addr→Prop}(a:jk P Q h h₁ own)(b:jk Q R h₁ h₂ own):jk P R h h₂ own where
 pre:=a.pre.trans b.pre
 keep:=fun x o e hf hn=>by
  refine b.keep x o (a.keep x o e hf hn) ?_ hn
  rintro⟨p,hp,hx⟩
  rcases a.fresh p hp with q|⟨q1,q2⟩
  ·exact hf ⟨p,q,hx⟩
  ·rcases hx with rfl|rfl
   ·rw[q1]at e;cases e
   ·rw[q2]at e;cases e
 imm:=fun x o e hi=>b.imm x o (a.imm x o e hi) hi
 alive:=fun x o e=>by obtain⟨o1,e1⟩:=a.alive x o e;exact b.alive x o1 e1
 fresh:=fun p hp=>by
  rcases b.fresh p hp with q|⟨q1,q2⟩
  ·exact a.fresh p q
  ·refine .inr ⟨bA fun o e=>?_,bA fun o e=>?_⟩
   ·obtain⟨o',e'⟩:=a.alive _ _ e;rw[q1]at e';cases e'
   ·obtain⟨o',e'⟩:=a.alive _ _ e;rw[q2]at e';cases e'
noncomputable def sE(sc:Scope)(env:Env)(b:Addr):Prop:=b=env.locals∨∃x,sc.names.lookup x=some .cell∧env.cells.lookup x=some b
end
structure Cx where
 A:Around
 env:Env
 sc:Scope
section
theorem kb.keep{P P':bE}{h h':Heap}{q:Addr×Addr}(hk:∀a o,h.get? a=some o→imm o→h'.get? a=some o)(hp:cR P P')
 (k1:∀o,h.get? q.1=some o→h'.get? q.1=some o) (k2:∀o,h.get? q.2=some o→h'.get? q.2=some o):∀{o:MO},kb B P h q o→kb B P' h' q o
 | .list vs,⟨e,items,hl,hv⟩=>⟨e,items,hl.at k1,hv.mono hk hp⟩
 | .dict es,⟨e,.inl ⟨kvs,hd,hv⟩⟩=>⟨e,.inl ⟨kvs,hd.at k1,hv.mono hk hp⟩⟩
 | .dict es,⟨e,.inr ⟨kvs,hd,hv⟩⟩=>⟨e,.inr ⟨kvs,hd.at k1,hv.mono hk hp⟩⟩
 | .inst C fs,⟨e,es,n,h1,h2,hv⟩=>⟨e,es,n,k1 _ h1,k2 _ h2,hv.mono hk hp⟩
theorem qI{o:Obj}{d:Data}(hd:o.data=d)(h1:∀xs n,d≠.seq xs n)(h2:∀xs,d≠.fields xs):¬imm o:=fun hi=>by
 rcases hi with⟨_,_,_,a⟩|⟨_,_,a⟩
 ·exact h1 _ _ (hd.symm.trans a)
 ·exact h2 _ (hd.symm.trans a)
theorem my{o:Obj}{es:Array DictEntry}{ep:Nat}(hd:o.data=.dict es ep):¬imm o:=qI hd nofun nofun
theorem xR{o:Obj}{v:Option Value}(hd:o.data=.cell v):¬imm o:=qI hd nofun nofun
theorem sF{o:Obj}{c:Value}(hc:o.cls=c)(h1:c≠.type "tuple")(h2:c≠.type "range"):¬imm o:=fun hi=>by
 rcases hi with⟨a,_⟩|⟨a,_⟩
 ·exact h1 (hc.symm.trans a)
 ·exact h2 (hc.symm.trans a)
theorem te{K:Type}[DecidableEq K]{knd:cS aQ w K}{h:Heap}{a:Addr}{kvs:List (K×Value)}(x:h.DictOf knd a kvs):∃o,h.get? a=some o∧¬imm o:=by
 obtain⟨o,es',ep,ho,hx,hd,_⟩:=x
 exact⟨o,ho,my hd⟩
theorem kb.alive1{P:bE}{h:Heap}{q:Addr×Addr}{o:MO}(x:kb B P h q o):∃o',h.get? q.1=some o'∧¬imm o':=by
 cases o with
 |list vs=>
  refine iM x fun e items hl hv=>?_
  refine mh hl.isList fun o ho hc n hd=>?_
  exact⟨o,ho,sF hc (by decide) (by decide)⟩
 |dict es=>
  rcases x.2 with q|q
  ·exact aM q fun kvs d z_=>te d
  ·exact aM q fun kvs d z_=>te d
 |inst C fs=>
  refine oN x fun e es n h1 h2 hv=>?_
  exact⟨_,h1,sF (c:=.ref C) rfl (fun q=>Value.noConfusion q) (fun q=>Value.noConfusion q)⟩
theorem kb.alive2{P:bE}{h:Heap}{q:Addr×Addr}{o:MO}(x:kb B P h q o):∃o',h.get? q.2=some o'∧¬imm o':=by
 cases o with
 |list vs=>exact x.1.symm▸kb.alive1 (o:=.list vs) x
 |dict es=>exact x.1.symm▸kb.alive1 (o:=.dict es) x
 |inst C fs=>
  refine oN x fun e es n h1 h2 hv=>?_
  exact⟨_,h2,my rfl⟩
theorem HR.at{P:bE}{M:MH}{h:Heap}(H:HR B P M h){n:Nat}{o:MO}(e:M[n]?=some o):∃p,P[n]?=some p∧kb B P h p o:=by
 have hlt:n < P.length:=by(erw[H.len]);exact(ai.mp e).1
 exact⟨P[n],an hlt,H.obj n o _ e (an hlt)⟩
theorem HR.atP{P:bE}{M:MH}{h:Heap}(H:HR B P M h){n:Nat}{p:Addr×Addr}(e:P[n]?=some p):∃o,M[n]?=some o∧kb B P h p o:=by
 have hlt:n < M.length:=by(erw[←H.len]);exact(ai.mp e).1
 exact⟨M[n],an hlt,H.obj n _ p (an hlt) e⟩
theorem HR.footAlive{P:bE}{M:MH}{h:Heap}(H:HR B P M h){b:Addr}(f:ke P b):∃o,h.get? b=some o∧¬imm o:=by
 (refine aM f fun p hp hb=>?_;clear f)
 refine fH (bW hp) fun n e=>?_
 refine aM (H.atP e) fun o ho x=>?_
 rcases hb with rfl|rfl
 ·exact x.alive1
 ·exact x.alive2
theorem HR.footB{P:bE}{M:MH}{h:Heap}(H:HR B P M h){b:Addr}(f:ke P b):B.get? b=none:=by
 (refine aM f fun p hp hb=>?_;clear f)
 rcases hb with rfl|rfl
 ·exact(H.low p hp).1
 ·exact(H.low p hp).2
noncomputable def SR(B:Heap)(cx:Cx)(P:bE)(st:MS)(h:Heap):Prop:=HR B P st.hp h∧FR B P h cx.env cx.sc st.loc
theorem FR.keep{P P':bE}{h h':Heap}{env:Env}{sc:Scope}{loc:List (Str×MV)}(F:FR B P h env sc loc)(hk:∀a o,h.get? a=some o→imm o→h'.get? a=some o)(hp:cR P P')
 (kL:∀o,h.get? env.locals=some o→h'.get? env.locals=some o) (kC:∀x c o,env.cells.lookup x=some c→h.get? c=some o→h'.get? c=some o)
 (hf:∀b o,h.get? b=some o→ke P' b→ke P b):FR B P' h' env sc loc where
 kind:=F.kind
 glob:=F.glob
 blt:=F.blt
 kinds:=F.kinds
 ns:=by
  refine aM F.ns fun m hn hm=>?_
  refine⟨m,hn.at kL,fun x mv e k=>?_⟩
  refine aM (hm x mv e k) fun v e1 e2=>?_
  exact⟨v,e1,e2.mono hk hp⟩
 cel:=fun x k=>by
  obtain⟨c,v₀,e1,⟨o,ho,hd⟩,e3⟩:=F.cel x k
  refine⟨c,v₀,e1,⟨o,kC x c o e1 ho,hd⟩,fun mv e=>?_⟩
  obtain⟨v,⟨o',ho',hd'⟩,e5⟩:=e3 mv e
  exact⟨v,⟨o',kC x c o' e1 ho',hd'⟩,e5.mono hk hp⟩
 cinj:=F.cinj
 offL:=⟨fun f=>by
  obtain⟨m,⟨o,es,ep,ho,_⟩,_⟩:=F.ns
  exact F.offL.1 (hf _ _ ho f),F.offL.2⟩
 offC:=fun x c e=>by
  obtain⟨a,b,d,v₀,o,ho,hd⟩:=F.offC x c e
  exact⟨fun f=>a (hf _ _ ho f),b,d,v₀,o,kC x c o e ho,hd⟩
theorem FR.notImmL{P:bE}{h:Heap}{env:Env}{sc:Scope}{loc:List (Str×MV)}(F:FR B P h env sc loc):∃o,h.get? env.locals=some o∧¬imm o:=by
 obtain⟨m,⟨o,es,ep,ho,hd,_⟩,_⟩:=F.ns
 exact⟨o,ho,my hd⟩
theorem FR.notImmC{P:bE}{h:Heap}{env:Env}{sc:Scope}{loc:List (Str×MV)}(F:FR B P h env sc loc){x:Str}{c:Addr}(e:env.cells.lookup x=some c):∃o,h.get? c=some o∧¬imm o:=by
 obtain⟨_,_,_,v₀,o,ho,hd⟩:=F.offC x c e
 exact⟨o,ho,xR hd⟩
theorem SR.grow{cx:Cx}{P:bE}{st:MS}{h h':Heap}(S:SR B cx P st h)(k:∀b o,h.get? b=some o→h'.get? b=some o):SR B cx P st h':=
 ⟨⟨fun b o e=>k b o (S.1.stays b o e),S.1.len,fun n o p e1 e2=>(S.1.obj n o p e1 e2).keep (fun a o e z_=>k a o e) (cR.refl P) (fun o e=>k _ o e) (fun o e=>k _ o e),S.1.apart,S.1.low⟩,
  S.2.keep (fun a o e z_=>k a o e) (cR.refl P) (fun o e=>k _ o e) (fun z_ z_ o z_ e=>k _ o e) fun z_ z_ z_ f=>f⟩
theorem jk.grow{P:bE}{h h':Heap}{own:Addr→Prop}(k:∀b o,h.get? b=some o→h'.get? b=some o):jk P P h h' own:=
 ⟨cR.refl P,fun b o e z_ z_=>k b o e,fun b o e z_=>k b o e,fun b o e=>⟨o,k b o e⟩,fun z_ hp=>.inl hp⟩
theorem SR.new{cx:Cx}{P:bE}{st:MS}{h h':Heap}(S:SR B cx P st h)(k:∀b o,h.get? b=some o→h'.get? b=some o){p:Addr×Addr}{o:MO}
 (f1:h.get? p.1=none) (f2:h.get? p.2=none) (x:kb B (P++[p]) h' p o):SR B cx (P++[p]) {st with hp:=st.hp++[o]} h':=by
 have off:∀q∈P,Lf q p:=fun q hq=>by
  refine aM (S.1.footAlive ⟨q,hq,.inl rfl⟩) fun o1 e1 z_=>?_
  refine aM (S.1.footAlive ⟨q,hq,.inr rfl⟩) fun o2 e2 z_=>?_
  refine⟨fun e=>?_,fun e=>?_,fun e=>?_,fun e=>?_⟩
  ·rw[e,f1]at e1;exact bD e1
  ·rw[e,f2]at e1;exact bD e1
  ·rw[e,f1]at e2;exact bD e2
  ·rw[e,f2]at e2;exact bD e2
 have b1:B.get? p.1=none:=bA fun o e=>by have:=S.1.stays _ _ e;rw[f1]at this;exact bD this
 have b2:B.get? p.2=none:=bA fun o e=>by have:=S.1.stays _ _ e;rw[f2]at this;exact bD this
 refine⟨⟨fun b o e=>k b o (S.1.stays b o e),by simp[S.1.len],fun n o' q e1 e2=>?_,?_,fun q hq=>?_⟩,
  S.2.keep (fun a o e z_=>k a o e) (cR.app P [p]) (fun o e=>k _ o e) (fun z_ z_ o z_ e=>k _ o e) fun b ob e f=>?_⟩
 ·by_cases hn:n < P.length
  ·rw[aI hn]at e2
   rw[aI (by(erw[←S.1.len]);exact hn)]at e1
   exact(S.1.obj n o' q e1 e2).keep (fun a o e z_=>k a o e) (cR.app P [p]) (fun o e=>k _ o e) (fun o e=>k _ o e)
  ·have hn':n=P.length:=by
    have:=(ai.mp e2).1
    simp only[aJ,dU,iK]at this
    lia
   subst hn'
   rw[aX (aY _)]at e2
   rw[S.1.len,aX (aY _)]at e1
   simp at e1 e2
   subst e1;subst e2
   exact x
 ·(refine(ic).mpr ?_)
  exact⟨S.1.apart,bX _ _,fun a ha b hb=>by replace hb:=(ax).mp hb;subst hb;exact off a ha⟩
 ·rcases aH.mp hq with q'|q'
  ·exact S.1.low q q'
  ·replace q':=(ax).mp q';subst q';exact⟨b1,b2⟩
 ·obtain⟨q,hq,hb⟩:=f
  rcases aH.mp hq with q'|q'
  ·exact⟨q,q',hb⟩
  ·replace q':=(ax).mp q';subst q'
   rcases hb with rfl|rfl
   ·rw[f1]at e;exact bD e
   ·rw[f2]at e;exact bD e
theorem jk.new{P:bE}{h h':Heap}{own:Addr→Prop}{p:Addr×Addr}(k:∀b o,h.get? b=some o→h'.get? b=some o)(f1:h.get? p.1=none)(f2:h.get? p.2=none):jk P (P++[p]) h h' own:=
 ⟨cR.app P [p],fun b o e z_ z_=>k b o e,fun b o e z_=>k b o e,fun b o e=>⟨o,k b o e⟩,fun q hq=>by
  rcases aH.mp hq with x|x
  ·exact .inl x
  ·rw[ax]at x;subst x;exact .inr ⟨f1,f2⟩⟩
theorem SR.write{cx:Cx}{P:bE}{st:MS}{h h':Heap}(S:SR B cx P st h){n:Nat}{p:Addr×Addr}{o:MO}{b₀:Addr}(e:P[n]?=some p)(hb:b₀=p.1∨b₀=p.2)
 (s:∀b,b≠b₀→h'.get? b=h.get? b) (x:kb B P h' p o):SR B cx P {st with hp:=st.hp.set n o} h':=by
 have foot:ke P b₀:=⟨p,ak e,hb⟩
 have hk:∀a o,h.get? a=some o→imm o→h'.get? a=some o:=fun a o' ea hi=>by
  by_cases q:a=b₀
  ·subst q;refine aM (S.1.footAlive foot) fun o2 e2 n2=>?_;rw[ea]at e2;(obtain rfl:=ab e2;clear e2);exact absurd hi n2
  ·rw[s a q];exact ea
 have hlt:n < st.hp.length:=by rw[←S.1.len];exact(ai.mp e).1
 refine⟨⟨fun b o' eb=>?_,by simp[S.1.len],fun m o' q e1 e2=>?_,S.1.apart,S.1.low⟩,S.2.keep hk (cR.refl P) (fun o' eo=>?_) (fun y c o' ec eo=>?_) fun z_ z_ z_ f=>f⟩
 ·by_cases q:b=b₀
  ·subst q;have:=S.1.footB foot;rw[this]at eb;exact bD eb
  ·rw[s b q];exact S.1.stays b o' eb
 ·by_cases hm:m=n
  ·subst hm
   rw[db hlt]at e1
   rw[e]at e2
   (obtain rfl:=ab e1;clear e1);(obtain rfl:=ab e2;clear e2)
   exact x
  ·rw[cT (fun z=>hm z.symm)]at e1
   have off:Lf p q∨Lf q p:=by
    have A:=dQ.mp S.1.apart
    obtain⟨l1,g1⟩:=ai.mp e
    obtain⟨l2,g2⟩:=ai.mp e2
    rcases Hh hm with z|z
    ·right;rw[←g1,←g2];exact A m n l2 l1 z
    ·left;rw[←g1,←g2];exact A n m l1 l2 z
   refine(S.1.obj m o' q e1 e2).keep hk (cR.refl P) (fun o3 e3=>?_) fun o3 e3=>?_
   ·rw[s _ ?_];exact e3
    rcases off with⟨a,b,c,d⟩|⟨a,b,c,d⟩<;>rcases hb with rfl|rfl<;>first|exact a|exact b|exact c|exact d|exact bS a|exact bS b|exact bS c|exact bS d
   ·rw[s _ ?_];exact e3
    rcases off with⟨a,b,c,d⟩|⟨a,b,c,d⟩<;>rcases hb with rfl|rfl<;>first|exact a|exact b|exact c|exact d|exact bS a|exact bS b|exact bS c|exact bS d
 ·rw[s _ ?_];exact eo
  intro q;exact S.2.offL.1 (q▸foot)
 ·rw[s _ ?_];exact eo
  intro q;exact(S.2.offC y c ec).1 (q▸foot)
theorem jk.write{cx:Cx}{P:bE}{st:MS}{h h':Heap}{own:Addr→Prop}(S:SR B cx P st h){b₀:Addr}(f:ke P b₀)(s:∀b,b≠b₀→h'.get? b=h.get? b)(a:∃o',h'.get? b₀=some o'):jk P P h h' own:=
 ⟨cR.refl P,fun b o e hf z_=>by(erw[s b fun q=>hf (q▸f)]);exact e,fun b o e hi=>by
  by_cases q:b=b₀
  ·subst q;refine aM (S.1.footAlive f) fun o2 e2 n2=>?_;rw[e]at e2;(obtain rfl:=ab e2;clear e2);exact absurd hi n2
  ·(erw[s b q]);exact e,fun b o e=>by
  by_cases q:b=b₀
  ·subst q;exact a
  ·exact⟨o,by(erw[s b q]);exact e⟩,fun z_ hp=>.inl hp⟩
end
noncomputable abbrev eP:Value→Shared→Prop:=fun z_ z_=>False
section
structure bq(B:Heap)(cx:Cx)(P:bE)(s:Shared)(P':bE)(s':Shared)(st':MS):Prop where
 sr:SR B cx P' st' s'.heap
 ext:jk P P' s.heap s'.heap (sE cx.sc cx.env)
 shape:∃h' tk,s'={s with heap:=h',toks:=tk}
theorem bq.refl{cx:Cx}{P:bE}{s:Shared}{st:MS}(S:SR B cx P st s.heap):bq B cx P s P s st:=⟨S,jk.refl _ _ _,s.heap,s.toks,rfl⟩
theorem bq.toks{cx:Cx}{P:bE}{s:Shared}{st:MS}{k:Nat}(S:SR B cx P st s.heap):bq B cx P s P {s with toks:=k} st:=⟨S,jk.refl _ _ _,s.heap,k,rfl⟩
theorem bq.trans{cx:Cx}{P P₁ P₂:bE}{s s₁ s₂:Shared}{st₁ st₂:MS}(a:bq B cx P s P₁ s₁ st₁)(b:bq B cx P₁ s₁ P₂ s₂ st₂):bq B cx P s P₂ s₂ st₂:=by
 refine⟨b.sr,a.ext.trans b.ext,?_⟩
 (refine vE a.shape fun h1 k1 q0_=>?_;subst q0_)
 refine vE b.shape fun h2 k2 e=>?_
 exact⟨h2,k2,e⟩
theorem jk.vr{P P':bE}{h h':Heap}{own:Addr→Prop}(x:jk P P' h h' own){m:MV}{v:Value}(r:VR B P h m v):VR B P' h' m v:=r.mono x.imm x.pre
theorem jk.vrs{P P':bE}{h h':Heap}{own:Addr→Prop}(x:jk P P' h h' own){m:List MV}{v:List Value}(r:dy B P h m v):dy B P' h' m v:=r.mono x.imm x.pre
noncomputable def fz{α β:Type}(B:Heap)(cx:Cx)(t:Sem β)(m:MM α)(R:bE→Heap→α→β→Prop):Prop:=
 ∀st a st',m st=some (a,st')→∀P s,SR B cx P st s.heap→wpAny (model aQ w) cx.A t (fun u s'=>∃P',bq B cx P s P' s' st'∧R P' s'.heap a u) eP s
noncomputable abbrev RV(B:Heap):bE→Heap→MV→Value→Prop:=fun P h a u=>VR B P h a u
noncomputable abbrev TB(B:Heap):bE→Heap→List MV→List Value→Prop:=fun P h a u=>dy B P h a u
noncomputable abbrev RB:bE→Heap→Bool→Bool→Prop:=fun z_ z_ a u=>a=u
noncomputable abbrev RU:bE→Heap→Unit→Unit→Prop:=fun z_ z_ z_ z_=>True
theorem NV{α β:Type}{m:MM α}{f:α→MM β}{st:MS}{b:β}{st':MS}(h:aR m f st=some (b,st')):∃a st1,m st=some (a,st1)∧f a st1=some (b,st'):=by
 obtain⟨⟨a,st1⟩,h1,h2⟩:=Option.bind_eq_some_iff.mp h
 exact⟨a,st1,h1,h2⟩
theorem jg{α:Type}{a b:α}{st st':MS}(h:bO a st=some (b,st')):a=b∧st=st':=by
 apply AO h
 exact⟨rfl,rfl⟩
theorem fx{α:Type}{f:MS→Option α}{st:MS}{b:α}{st':MS}(h:iJ f st=some (b,st')):f st=some b∧st=st':=by
 unfold iJ at h
 cases e:f st with
 |none=>rw[e]at h;exact bD h
 |some a=>rw[e]at h;apply AO h;exact⟨rfl,rfl⟩
theorem dD{α:Type}{st:MS}{r:α×MS}(h:(bP:MM α) st=some r):False:=by exact bD h
theorem fV{α β:Type}{m:MM α}{f:α→MM β}{st:MS}{b:β}{st':MS}{C:Prop}(h:aR m f st=some (b,st'))(k:∀a s1,m st=some (a,s1)→f a s1=some (b,st')→C):C:=bT h fun x a b=>k x.1 x.2 a b
theorem kH{α:Type}{a b:α}{st st':MS}{C:α→MS→Prop}(h:bO a st=some (b,st'))(k:C a st):C b st':=AO h k
theorem fz.use{α β:Type}{cx:Cx}{t:Sem β}{m:MM α}{R:bE→Heap→α→β→Prop}(hm:fz B cx t m R){st st':MS}{a:α}(e:m st=some (a,st')){P:bE}{s:Shared}(S:SR B cx P st s.heap)
 {Q:β→Shared→Prop}(k:∀u P₁ s₁,bq B cx P s P₁ s₁ st'→R P₁ s₁.heap a u→Q u s₁):wpAny (model aQ w) cx.A t Q eP s:=
 wpAny_mono (hm st a st' e P s S) (fun u s₁ ⟨P₁,x,r⟩=>k u P₁ s₁ x r) (fun z_ z_ x=>x)
theorem bq.after{α β:Type}{cx:Cx}{P P₁:bE}{s s₁:Shared}{st₁ st':MS}(a:bq B cx P s P₁ s₁ st₁){t:Sem β}{R:bE→Heap→α→β→Prop}{x:α}{A:Around}
 (h:wpAny (model aQ w) A t (fun u s'=>∃P',bq B cx P₁ s₁ P' s' st'∧R P' s'.heap x u) eP s₁):wpAny (model aQ w) A t (fun u s'=>∃P',bq B cx P s P' s' st'∧R P' s'.heap x u) eP s₁:=
 wpAny_mono h (fun u s' ⟨P',y,r⟩=>⟨P',a.trans y,r⟩) (fun z_ z_ x=>x)
theorem Eo{cx:Cx}{k pos}:fz B cx (eval (.Constant .none k pos) cx.env) (bO .none) (RV B):=fun st a st' e P s S=>by
 apply kH e
 exact wpAny_Constant_none ⟨P,bq.refl S,.none⟩
theorem Er{cx:Cx}{b k pos}:fz B cx (eval (.Constant (.bool b) k pos) cx.env) (bO (.bool b)) (RV B):=fun st a st' e P s S=>by
 apply kH e
 exact wpAny_Constant_bool ⟨P,bq.refl S,.bool b⟩
theorem HH{cx:Cx}{i k pos}:fz B cx (eval (.Constant (.int i) k pos) cx.env) (bO (.int i)) (RV B):=fun st a st' e P s S=>by
 apply kH e
 exact wpAny_Constant_int ⟨P,bq.toks S,.int i _⟩
theorem HG{cx:Cx}{x:Str}{k pos}:fz B cx (eval (.Constant (.str x) k pos) cx.env) (bO (.str x)) (RV B):=fun st a st' e P s S=>by
 apply kH e
 exact wpAny_Constant_str ⟨P,bq.toks S,.str x _⟩
noncomputable def PY(B:Heap)(tb:Tb):Prop:=∀x mv,tb.gl x=some mv→∃v,(∀P,VR B P B mv v)∧
 ∀(A:Around) (env:Env) (s:Shared) (Q:Value→Shared→Prop),env.globals=mainGlobals→env.builtins=builtinsNs→B.StaysIn s.heap→Q v s→wpAny (model aQ w) A (loadGlobal env x) Q eP s
theorem KR.local{a b:Option NameKind}(h:KR a b)(e:wm a=true):b=some .local∨b=some .cell∨b=some .free:=by
 rcases h with rfl|⟨rfl,rfl⟩
 ·cases a with
  |none=>exact Bool.noConfusion e
  |some k=>cases k<;>first|((first|(exact Bool.noConfusion e)|(cases e));done)|exact .inl rfl|exact .inr (.inl rfl)|exact .inr (.inr rfl)
 ·exact .inr (.inl rfl)
theorem VR.base{B h:Heap}{P P':bE}{m:MV}{v:Value}(st:B.StaysIn h)(hp:cR P P')(r:VR B P B m v):VR B P' h m v:=r.mono (fun a o e z_=>st a o e) hp
theorem Ep{cx:Cx}{tb:Tb}(G:PY B tb){x:Str}{pos:Pos}:
 fz B cx (eval (.Name x pos) cx.env) (if(x==("__debug__":Str))||(x==("__classdict__":Str))then bP else if wm (cx.sc.names.lookup x)then iJ fun s=>gv x s.loc else if cx.sc.names.lookup x=some .globalImplicit then iJ fun z_=>tb.gl x else bP) (RV B):=by
 intro st a st' e P s S
 set_option tactic.hygienic true in split at e
 ·exact bD e
 rename_i hdbg
 simp only[cb,not_or,ca]at hdbg
 (refine d9 hdbg fun hd hcd=>?_;clear hdbg)
 set_option tactic.hygienic true in split at e
 ·rename_i hl
  obtain⟨e0,rfl⟩:=fx e
  rcases(S.2.kinds x).local hl with k|k|k
  ·obtain⟨m,hn,hm⟩:=S.2.ns
   refine aM (hm x a e0 k) fun v e1 e2=>?_
   exact wpAny_Name (wpAny_loadName_local S.2.kind k hn e1 ⟨P,bq.refl S,e2⟩) hd
  ·obtain⟨c,v₀,e1,_,e3⟩:=S.2.cel x (.inl k)
   refine aM (e3 a e0) fun v e4 e5=>?_
   exact wpAny_Name (wpAny_loadName_cell S.2.kind k e1 e4 ⟨P,bq.refl S,e5⟩) hd
  ·obtain⟨c,v₀,e1,_,e3⟩:=S.2.cel x (.inr k)
   refine aM (e3 a e0) fun v e4 e5=>?_
   exact wpAny_Name (wpAny_loadName_free S.2.kind k e1 e4 ⟨P,bq.refl S,e5⟩ hcd) hd
 ·set_option tactic.hygienic true in split at e
  ·rename_i _ hg
   obtain⟨e0,rfl⟩:=fx e
   refine aM (G x a e0) fun v hv hw=>?_
   have hk:cx.env.kindOf x=some .globalImplicit:=by
    rcases S.2.kinds x with q|⟨q,_⟩
    ·(erw[←q]);exact hg
    ·replace q:=(hg)▸q;cases q
   exact Name_function_global S.2.kind hk (hw cx.A cx.env s _ S.2.glob S.2.blt S.1.stays ⟨P,bq.refl S,(hv P).base S.1.stays (cR.refl P)⟩) hd
  ·exact bD e
end
section
noncomputable def kG(h:Heap)(L:Addr):List (Addr×Obj):=(aE h.objs.size).filterMap fun a=>if a=L then none else(h.get? a).map fun o=>(a,o)
theorem iA{h:Heap}{L a:Addr}{o:Obj}:(a,o)∈kG h L↔a≠L∧h.get? a=some o:=by
 unfold kG
 rw[List.mem_filterMap]
 constructor
 ·rintro⟨b,hb,e⟩
  set_option tactic.hygienic true in split at e
  ·exact bD e
  ·rename_i hn
   refine gh e fun o' ho e=>?_
   cases e
   exact⟨hn,ho⟩
 ·rintro⟨hn,ho⟩
  exact⟨a,cg.mpr (ci ho),by(erw[if_neg hn,ho]);rfl⟩
theorem uX(a:Addr):(({}:Heap).get? a)=none:=by
 cases e:(({}:Heap).get? a)with
 |none=>rfl
 |some o=>exact absurd (ci e) (fS _)
theorem iT(h:Heap)(L:Addr):News ({}:Heap) L h (kG h L):=fun p hp=>by
 obtain⟨a,o⟩:=p
 refine d9 (iA.mp hp) fun h1 h2=>?_
 exact⟨h2,h1,uX a⟩
theorem wy{h:Heap}{L:Addr}{m:Str→Option Value}(n:h.Ns L m):Fr ({}:Heap) L h m:=⟨n,fun b o e=>(by rw[uX]at e;exact bD e),jM _⟩
theorem zL{h:Heap}{L a:Addr}{o:Obj}(hn:a≠L)(ho:h.get? a=some o):∃pre post,kG h L=pre++(a,o)::post∧(∀p∈pre,p.1≠a)∧∀p∈post,p.1≠a:=by
 have nd:(kG h L).Pairwise (fun p q=>p.1≠q.1):=by
  unfold kG
  (refine(List.pairwise_filterMap).mpr ?_)
  refine Hk ?_ (Hx (n:=h.objs.size))
  intro x y hxy p hp q hq
  have f:∀{z:Nat}{r:Addr×Obj},(if z=L then none else(h.get? z).map fun o=>(z,o))=some r→r.1=z:=by
   intro z r e
   split at e
   ·exact bD e
   ·refine gh e fun o' z_ e=>?_;apply dE e;rfl
  (erw[f hp,f hq]);exact hxy
 refine vE (List.append_of_mem (iA.mpr ⟨hn,ho⟩:(a,o)∈kG h L)) fun pre post e=>?_
 rw[e,ic]at nd
 refine⟨pre,post,e,fun p hp=>nd.2.2 p hp (a,o) (.head _),fun p hp=>?_⟩
 have:=(bz.mp nd.2.1).1 p hp
 exact fun q=>this q.symm
structure cA(L:Addr)(h h':Heap):Prop where
 k:∀b o,b≠L→h.get? b=some o→h'.get? b=some o
 n:∀m,h.Ns L m→h'.Ns L m
theorem cA.of{L:Addr}{h h':Heap}{m:Str→Option Value}{more:List (Addr×Obj)}(hm:h.Ns L m)(F:Fr ({}:Heap) L h' m)(N:News ({}:Heap) L h' (more++kG h L)):cA L h h':=
 ⟨fun b o hb e=>N.get (gX _ (iA.mpr ⟨hb,e⟩)),fun m' hm'=>by
  have:m'=m:=funext fun x=>hm'.agree hm x
  (erw[this]);exact F.ns⟩
theorem cA.of1{L:Addr}{h h':Heap}{m:Str→Option Value}{x:Addr×Obj}(hm:h.Ns L m)(F:Fr ({}:Heap) L h' m)(N:News ({}:Heap) L h' (x::kG h L)):cA L h h':=cA.of (more:=[x]) hm F N
theorem SR.growL{cx:Cx}{P:bE}{st:MS}{h h':Heap}(S:SR B cx P st h)(g:cA cx.env.locals h h'):SR B cx P st h':=by
 have hL:=S.2.offL.1
 have kf:∀b o,ke P b→h.get? b=some o→h'.get? b=some o:=fun b o f e=>g.k b o (fun q=>hL (q▸f)) e
 have hk:∀a o,h.get? a=some o→imm o→h'.get? a=some o:=fun a o e hi=>g.k a o (fun q=>by
  subst q;refine aM S.2.notImmL fun o' e' n'=>?_;rw[e]at e';(obtain rfl:=ab e';clear e');exact n' hi) e
 refine⟨⟨fun b o e=>g.k b o (fun q=>by subst q;rw[S.2.offL.2]at e;exact bD e) (S.1.stays b o e),S.1.len,fun n o p e1 e2=>(S.1.obj n o p e1 e2).keep hk (cR.refl P) (fun o e=>kf _ o ⟨p,ak e2,.inl rfl⟩ e) (fun o e=>kf _ o ⟨p,ak e2,.inr rfl⟩ e),S.1.apart,S.1.low⟩,
  S.2.kind,S.2.glob,S.2.blt,S.2.kinds,?_,fun x k=>?_,S.2.cinj,S.2.offL,fun x c e=>?_⟩
 ·obtain⟨m,hn,hm⟩:=S.2.ns
  refine⟨m,g.n m hn,fun x mv e k=>?_⟩
  refine aM (hm x mv e k) fun v e1 e2=>?_
  exact⟨v,e1,e2.mono hk (cR.refl P)⟩
 ·obtain⟨c,v₀,e1,⟨o,ho,hd⟩,e3⟩:=S.2.cel x k
  have hc:=(S.2.offC x c e1).2.2.1
  refine⟨c,v₀,e1,⟨o,g.k c o hc ho,hd⟩,fun mv e=>?_⟩
  obtain⟨v,⟨o',ho',hd'⟩,e5⟩:=e3 mv e
  exact⟨v,⟨o',g.k c o' hc ho',hd'⟩,e5.mono hk (cR.refl P)⟩
 ·obtain⟨a,b,d,v₀,o,ho,hd⟩:=S.2.offC x c e
  exact⟨a,b,d,v₀,o,g.k c o d ho,hd⟩
theorem jk.growL{cx:Cx}{P:bE}{st:MS}{h h':Heap}(S:SR B cx P st h)(g:cA cx.env.locals h h'):jk P P h h' (sE cx.sc cx.env):=
 ⟨cR.refl P,fun b o e z_ ho=>g.k b o (fun q=>ho (.inl q)) e,fun b o e hi=>g.k b o (fun q=>by
  subst q;refine aM S.2.notImmL fun o' e' n'=>?_;rw[e]at e';(obtain rfl:=ab e';clear e');exact n' hi) e,fun b o e=>by
  by_cases q:b=cx.env.locals
  ·apply d6 q
   refine aM S.2.ns fun m hn z_=>?_
   refine vF (g.n m hn) fun o' z_ z_ ho' z_=>?_
   exact⟨o',ho'⟩
  ·exact⟨o,g.k b o q e⟩,fun z_ hp=>.inl hp⟩
theorem bq.growL{cx:Cx}{P:bE}{s:Shared}{st:MS}{h':Heap}{k:Nat}(S:SR B cx P st s.heap)(g:cA cx.env.locals s.heap h'):bq B cx P s P {s with heap:=h',toks:=k} st:=
 ⟨S.growL g,jk.growL S g,h',k,rfl⟩
theorem bq.grow{cx:Cx}{P:bE}{s:Shared}{st:MS}{h':Heap}{k:Nat}(S:SR B cx P st s.heap)(g:∀b o,s.heap.get? b=some o→h'.get? b=some o):bq B cx P s P {s with heap:=h',toks:=k} st:=
 ⟨S.grow g,jk.grow g,h',k,rfl⟩
theorem cA.sizeNone{h:Heap}:h.get? h.objs.size=none:=bA fun o e=>absurd (ci e) (gp _)
theorem bq.newL{cx:Cx}{P:bE}{s:Shared}{st:MS}{h':Heap}{k:Nat}{a:Addr}{vs:List MV}{items:List Value}(S:SR B cx P st s.heap)(g:cA cx.env.locals s.heap h')(f:s.heap.get? a=none)
 (hl:rG h' a items) (hv:dy B P s.heap vs items):bq B cx P s (P++[(a,a)]) {s with heap:=h',toks:=k} {st with hp:=st.hp++[.list vs]}:=by
 obtain⟨m,⟨oL,es,ep,hoL,r⟩,_⟩:=S.2.ns
 have ha:a≠cx.env.locals:=fun q=>by(rw[q]at f;replace f:=(hoL)▸f);cases f
 have hk:∀b o,s.heap.get? b=some o→imm o→h'.get? b=some o:=(jk.growL S g).imm
 have S':=S.growL g
 refine⟨?_,?_,h',k,rfl⟩
 ·have off:∀q∈P,Lf q (a,a):=fun q hq=>by
   refine aM (S.1.footAlive ⟨q,hq,.inl rfl⟩) fun o1 e1 z_=>?_
   refine aM (S.1.footAlive ⟨q,hq,.inr rfl⟩) fun o2 e2 z_=>?_
   refine⟨fun e=>?_,fun e=>?_,fun e=>?_,fun e=>?_⟩<;>(simp only at e)<;>first|(rw[e,f]at e1;exact bD e1;done)|(rw[e,f]at e2;exact bD e2;done)
  have b1:B.get? a=none:=bA fun o e=>by have:=S.1.stays _ _ e;rw[f]at this;exact bD this
  refine⟨⟨S'.1.stays,by simp[S.1.len],fun n o' q e1 e2=>?_,?_,fun q hq=>?_⟩,?_⟩
  ·by_cases hn:n < P.length
   ·rw[aI hn]at e2
    rw[aI (by(erw[←S.1.len]);exact hn)]at e1
    exact(S'.1.obj n o' q e1 e2).keep (fun z_ z_ e z_=>e) (cR.app P _) (fun o e=>e) (fun o e=>e)
   ·have hn':n=P.length:=by
     have:=(ai.mp e2).1
     simp only[aJ,dU,iK]at this
     lia
    subst hn'
    rw[aX (aY _)]at e2
    rw[S.1.len,aX (aY _)]at e1
    simp at e1 e2
    apply dE e1;apply dE e2
    exact⟨rfl,items,hl,hv.mono hk (cR.app P _)⟩
  ·(refine(ic).mpr ?_)
   exact⟨S.1.apart,bX _ _,fun x hx y hy=>by replace hy:=(ax).mp hy;apply d6 hy;exact off x hx⟩
  ·rcases aH.mp hq with q'|q'
   ·exact S.1.low q q'
   ·replace q':=(ax).mp q';subst q';exact⟨b1,b1⟩
  ·have F':=S'.2
   refine⟨F'.kind,F'.glob,F'.blt,F'.kinds,?_,fun x k=>?_,F'.cinj,⟨?_,F'.offL.2⟩,fun x c e=>?_⟩
   ·obtain⟨m,hn,hm⟩:=F'.ns
    exact⟨m,hn,fun x mv e k=>by refine aM (hm x mv e k) fun v e1 e2=>?_;exact⟨v,e1,e2.mono (fun z_ z_ e z_=>e) (cR.app P _)⟩⟩
   ·obtain⟨c,v₀,e1,e2,e3⟩:=F'.cel x k
    exact⟨c,v₀,e1,e2,fun mv e=>by refine aM (e3 mv e) fun v e4 e5=>?_;exact⟨v,e4,e5.mono (fun z_ z_ e z_=>e) (cR.app P _)⟩⟩
   ·rintro⟨q,hq,hb⟩
    rcases aH.mp hq with q'|q'
    ·exact F'.offL.1 ⟨q,q',hb⟩
    ·replace q':=(ax).mp q';subst q'
     rcases hb with hb|hb<;>exact ha hb.symm
   ·obtain⟨x1,x2,x3,v₀,x4⟩:=F'.offC x c e
    refine⟨?_,x2,x3,v₀,x4⟩
    rintro⟨q,hq,hb⟩
    rcases aH.mp hq with q'|q'
    ·exact x1 ⟨q,q',hb⟩
    ·rw[ax]at q';subst q'
     obtain⟨_,_,_,_,o,ho,_⟩:=S.2.offC x c e
     rcases hb with hb|hb<;>(simp only at hb;rw[hb,f]at ho;exact bD ho)
 ·have E:=jk.growL S g
  exact⟨cR.app P _,E.keep,E.imm,E.alive,fun q hq=>by
   rcases aH.mp hq with x|x
   ·exact .inl x
   ·replace x:=(ax).mp x;apply d6 x;exact .inr ⟨f,f⟩⟩
end
section
theorem nj{P:bE}{M:MH}{h:Heap}(H:HR B P M h)(hB:∃o,B.get? sysModules=some o){p:Addr×Addr}{n:Nat}(e:P[n]?=some p):(p.1==sysModules)=false:=
 beq_eq_false_iff_ne.mpr fun q=>by
  (refine fH hB fun o ho=>?_;clear hB)
  have:=(H.low p (ak e)).1
  (rw[q]at this;replace this:=(ho)▸this);cases this
theorem dF.length{P:bE}{h:Heap}{a b}(x:dF B P h a b):a.length=b.length:=by
 induction x with
 |nil=>rfl
 |cons _ _ ih=>exact congrArg Nat.succ ih
theorem dj.length{P:bE}{h:Heap}{a b}(x:dj B P h a b):a.length=b.length:=by
 induction x with
 |nil=>rfl
 |cons _ _ ih=>exact congrArg Nat.succ ih
theorem kx{α β:Type}{a:List α}{b:List β}(h:a.length=b.length):a.isEmpty=b.isEmpty:=by
 cases a<;>cases b<;>first|rfl|(simp at h)
set_option tactic.hygienic true in
theorem lu{cx:Cx}(hB:∃o,B.get? sysModules=some o){P:bE}{st:MS}{s:Shared}(S:SR B cx P st s.heap){mv:MV}{v:Value}{c:Bool}(e:iN st.hp mv=some c)(r:VR B P s.heap mv v){A:Around}
 {Q:Bool→Shared→Prop}(k:∀n,Q c {s with toks:=n}):wpAny (model aQ w) A (PySem.truthy v) Q eP s:=by
 cases r with
 |none=>(obtain rfl:=ab e;clear e);exact truthy_none (k _)
 |bool b=>(obtain rfl:=ab e;clear e);exact wpAny_truthy_bool (k _)
 |int i t=>(obtain rfl:=ab e;clear e);exact PyProof.Rows.truthy_int (k _)
 |str x t=>
  unfold iN at e
  dsimp only at e
  split at e
  ·exact bD e
  ·rename_i hn
   (obtain rfl:=ab e;clear e)
   refine PySem.P.truthy_str (by have:x.length=x.cps.size:=rfl;omega) ?_
   have:((x.length:Int) != 0)=(x.cps.size != 0):=by
    show((x.cps.size:Int) != 0)=_
    cases h:x.cps.size with
    |zero=>rfl
    |succ n=>(refine(fP).mpr ?_);simp;omega
   rw[this];exact k _
 |tup hi hs=>
  unfold iN at e
  dsimp only at e
  split at e
  ·exact bD e
  ·(obtain rfl:=ab e;clear e)
   rename_i vs a items hn
   have hl:=hs.length
   refine truthy_tuple hi (by simp;omega) ?_
   rw[show(items.toArray).isEmpty=vs.isEmpty from by rw[BQ];exact(kx hl).symm]
   exact k _
 |ref ep=>
  rename_i n p
  unfold iN at e
  dsimp only at e
  split at e
  ·rename_i vs eo
   split at e
   ·exact bD e
   ·(obtain rfl:=ab e;clear e)
    refine iM (S.1.obj n _ p eo ep) fun z_ items hlx hv=>?_
    have hl:=hlx.isList
    have hlen:=hv.length
    refine wpAny_truthy_list hl (by simp;omega) ?_
    rw[show(items.toArray).isEmpty=vs.isEmpty from by rw[BQ];exact(kx hlen).symm]
    exact k _
  ·rename_i es eo
   split at e
   ·exact bD e
   ·(obtain rfl:=ab e;clear e)
    have hs:=nj S.1 hB ep
    refine d9 (S.1.obj n _ p eo ep) fun z_ hd=>?_
    rcases hd with⟨kvs,hd,hv⟩|⟨kvs,hd,hv⟩
    ·have hlen:=hv.length
     refine wpAny_truthy_dict hs hd (by omega) ?_
     rw[show kvs.isEmpty=es.isEmpty from(kx hlen).symm];exact k _
    ·have hlen:=hv.length
     refine wpAny_truthy_dict hs hd (by omega) ?_
     (erw[(show kvs.isEmpty=es.isEmpty from(kx hlen).symm)]);exact k _
  ·exact bD e
 |range _=>exact bD e
 |flist _ _=>exact bD e
 |stat _ _=>exact bD e
theorem D5{cx:Cx}(hB:∃o,B.get? sysModules=some o){op:UnaryOp}{mv:MV}{v:Value}{st st':MS}{r:MV}{P:bE}{s:Shared}(e:w7 op mv st=some (r,st'))(S:SR B cx P st s.heap)(x:VR B P s.heap mv v){A:Around}:
 wpAny (model aQ w) A (unaryOp op v) (fun u s'=>∃P',bq B cx P s P' s' st'∧VR B P' s'.heap r u) eP s:=by
 cases op with
 |USub=>
  refine gh e fun i ei e=>?_
  apply Hq e
  have x:=cO ei▸x
  apply mE x
  exact fun t=>PyProof.Rows.neg_int ⟨P,bq.toks S,.int _ _⟩
 |Invert=>
  refine gh e fun i ei e=>?_
  apply Hq e
  have x:=cO ei▸x
  apply mE x
  exact fun t=>invert_int ⟨P,bq.toks S,.int _ _⟩
 |Not=>
  refine gh e fun c e1 e=>?_
  apply Hq e
  exact not_of (lu hB S e1 x fun n=>⟨P,bq.toks S,.bool _⟩)
 |_=>exact bD e
theorem mN{a:Int}(h:¬big a=true):a.natAbs < 2^62:=by
 unfold big at h
 simp only[decide_eq_true_eq,wU]at h
 exact h
theorem GB{a:Int}(h:a.natAbs < 2^62):im a≤64:=by
 unfold im
 split
 ·exact jM _
 ·by_cases h0:a.natAbs=0
  ·(erw[h0]);decide+kernel
  ·have:=(Nat.log2_lt h0 (k:=62)).mpr h
   lia
end
section
theorem dJ{o:MO}{st st':MS}{r:MV}(e:d0 o st=some (r,st')):r=.ref st.hp.length∧st'={st with hp:=st.hp++[o]}:=by
 apply AO e;exact⟨rfl,rfl⟩
theorem iU{cx:Cx}{P:bE}{st:MS}{h:Heap}(S:SR B cx P st h){a:Addr}{h':Heap}:VR B (P++[(a,a)]) h' (.ref st.hp.length) (.ref a):=by
 have:(P++[(a,a)])[st.hp.length]?=some (a,a):=by(erw[←S.1.len,aX (aY _)]);simp
 exact .ref this
theorem dy.rep{P:bE}{h:Heap}{m:MV}{v:Value}(x:VR B P h m v):∀n,dy B P h (gx n m) (gx n v)
 |0=>.nil
 |n+1=>.cons x (dy.rep x n)
theorem GE{op:Operator}{x y z:Int}{tx ty:Nat}(e:PQ op x y=some z){A:Around}{Q:Value→Shared→Prop}{s:Shared}(k:∀t n,Q (.int z t) {s with toks:=n}):wpAny (model aQ w) A (binaryOp op (.int x tx) (.int y ty)) Q eP s:=by
 cases op with
 |Add=>(obtain rfl:=ab e;clear e);exact PyProof.Rows.add_int (k _ _)
 |Sub=>(obtain rfl:=ab e;clear e);exact PyProof.Rows.sub_int (k _ _)
 |BitOr=>(obtain rfl:=ab e;clear e);exact PyProof.Rows.or_int (k _ _)
 |BitAnd=>(obtain rfl:=ab e;clear e);exact PyProof.Rows.and_int (k _ _)
 |Mult=>
  refine d9 (ix e) fun hb e=>?_
  (obtain rfl:=ab e;clear e)
  rw[cb,not_or]at hb
  exact PyProof.Rows.mul_int (k _ _) (IntMulOk.of_left (GB (mN hb.1)))
 |FloorDiv=>
  refine d9 (ix e) fun hb e=>?_
  (obtain rfl:=ab e;clear e)
  (rw[cb]at hb;replace hb:=(not_or).mp hb;rw[decide_eq_true_eq]at hb)
  refine PyProof.Rows.floordiv_int hb.1 (k _ _) (.inl (PyProof.noPylong_of_log2 ?_))
  have:=GB (mN hb.2)
  unfold im at this
  set_option tactic.hygienic true in split at this
  ·rename_i h1;exact absurd (beq_iff_eq.mp h1) hb.1
  ·exact Nat.lt_of_succ_le (ah this (by decide))
 |Mod=>
  refine d9 (ix e) fun hb e=>?_
  (obtain rfl:=ab e;clear e)
  exact PyProof.Rows.mod_int hb (k _ _)
 |Pow=>
  refine d9 (ix e) fun hb e=>?_
  (obtain rfl:=ab e;clear e)
  rw[cb,not_or,cb,not_or,decide_eq_true_eq,decide_eq_true_eq,fu]at hb
  exact PyProof.Rows.pow_int_small hb.1.2 (by omega) (ck (mN hb.1.1) (by decide)) (k _ _)
 |LShift=>
  refine d9 (ix e) fun hb e=>?_
  (obtain rfl:=ab e;clear e)
  rw[cb,not_or,cb,not_or,decide_eq_true_eq,decide_eq_true_eq,fu]at hb
  exact PyProof.Rows.lshift_int_small hb.1.2 (by omega) (ck (mN hb.1.1) (by decide)) (k _ _)
 |_=>exact absurd e.symm (io _)
theorem yh{op:Operator}(h:Bl op=true):op=.Add:=by
 cases op<;>first|rfl|exact Bool.noConfusion h
theorem Dc{op:Operator}(h:Fw op=true):op=.Mult:=by
 cases op<;>first|rfl|exact Bool.noConfusion h
theorem CQ{l:List MV}{z:Int}(h:Fb l=some z):l=[.int z]:=by
 refine aM (mw h) fun v e h=>?_
 (erw[e,cO h];with_reducible rfl)
theorem Au{cx:Cx}{x y:List MV}{u v:Value}{st:MS}{P:bE}{s:Shared}(hn:¬1000 < x.length+y.length)(S:SR B cx P st s.heap)(xa:VR B P s.heap (.tup x) u)(xb:VR B P s.heap (.tup y) v){A:Around}:
 wpAny (model aQ w) A (binaryOp .Add u v) (fun z s'=>∃P',bq B cx P s P' s' st∧VR B P' s'.heap (.tup (x++y)) z) eP s:=by
 (refine eW xa.inv fun a ia q0_ hi hs=>?_;first|apply dE q0_|apply d6 q0_)
 (refine eW xb.inv fun b ib q0_ hj ht=>?_;first|apply dE q0_|apply d6 q0_)
 have l1:=hs.length
 have l2:=ht.length
 refine aM S.2.ns fun m hm z_=>?_
 refine add_tuples (wy hm) (iT _ _) hi hj (fun e0=>?_) (fun z_ e0=>?_) (fun z_ z_ h' F N=>?_) (by(erw[(show sizeLine=2^24 from rfl)]);omega)
 ·subst e0
  refine⟨P,bq.refl S,?_⟩
  (erw[dA.mp l1])
  exact .tup hj ht
 ·subst e0
  refine⟨P,bq.refl S,?_⟩
  (erw[dA.mp l2];rw[bk])
  exact .tup hi hs
 ·have g:=cA.of1 hm F N
  have x:=jk.growL S g
  exact⟨P,bq.growL (k:=s.toks) S g,.tup ⟨_,(N _ (.head _)).1,rfl,_,rfl⟩ ((x.vrs hs).append (x.vrs ht))⟩
theorem y4{cx:Cx}{n k:Nat}{x y:List MV}{u v:Value}{st:MS}{P:bE}{s:Shared}(hn:¬1000 < x.length+y.length)(S:SR B cx P st s.heap)(ea:st.hp[n]?=some (.list x))(eb:st.hp[k]?=some (.list y))(xa:VR B P s.heap (.ref n) u)(xb:VR B P s.heap (.ref k) v){A:Around}:
 wpAny (model aQ w) A (binaryOp .Add u v) (fun z s'=>∃P',bq B cx P s P' s' {st with hp:=st.hp++[.list (x++y)]}∧VR B P' s'.heap (.ref st.hp.length) z) eP s:=by
 (refine aM xa.inv fun p q0_ pa=>?_;first|apply dE q0_|apply d6 q0_)
 (refine aM xb.inv fun q q0_ pb=>?_;first|apply dE q0_|apply d6 q0_)
 refine iM (S.1.obj _ _ _ ea pa) fun z_ ia hlxa hva=>?_
 refine iM (S.1.obj _ _ _ eb pb) fun z_ ib hlxb hvb=>?_
 have l1:=hva.length
 have l2:=hvb.length
 refine aM S.2.ns fun m hm z_=>?_
 refine add_arrays (wy hm) (iT _ _) hlxa.isList hlxb.isList (fun h' F N=>?_) (by(erw[(show sizeLine=2^24 from rfl),aP,aP]);omega)
 have g:=cA.of1 hm F N
 exact⟨_,bq.newL (k:=s.toks) S g cA.sizeNone (vs:=x++y) (items:=ia++ib) ⟨0,(N _ (.head _)).1⟩ (hva.append hvb),iU S⟩
theorem yD(v:Value):∀n,(gx n [v]).flatten=gx n v
 |0=>rfl
 |n+1=>by(erw[List.replicate_succ,List.flatten_cons,yD v n]);rfl
theorem xY{cx:Cx}{n:Nat}{z k:Int}{u v:Value}{st:MS}{P:bE}{s:Shared}(h0:0≤k)(h1:k≤1000)(S:SR B cx P st s.heap)(ea:st.hp[n]?=some (.list [.int z]))(xa:VR B P s.heap (.ref n) u)(xb:VR B P s.heap (.int k) v){A:Around}:
 wpAny (model aQ w) A (binaryOp .Mult u v) (fun z' s'=>∃P',bq B cx P s P' s' {st with hp:=st.hp++[.list (gx k.toNat (.int z))]}∧VR B P' s'.heap (.ref st.hp.length) z') eP s:=by
 (refine aM xa.inv fun p q0_ pa=>?_;first|apply dE q0_|apply d6 q0_)
 (refine fH xb.inv fun t q0_=>?_;first|apply dE q0_|apply d6 q0_)
 refine iM (S.1.obj _ _ _ ea pa) fun z_ ia hlxa hva=>?_
 (refine aM hva.inv1 fun c q0_ hc=>?_;subst q0_)
 (refine fH hc.inv fun tz q0_=>?_;subst q0_)
 refine aM S.2.ns fun m hm z_=>?_
 refine PySem.W.KM.mul (ns:=[z]) (wy hm) (iT _ _) hlxa.isList (.cons z tz .nil) (by lia) (by omega) (by(erw[List.length_singleton]);omega) (fun D h' F N hD z_ z_ z_ z_ z_ z_=>?_)
 have g:=cA.of1 hm F N
 have hl:=(N _ (.head _)).1
 rw[yD]at hl
 exact⟨_,bq.newL (k:=s.toks) (a:=D) S g (bA fun o e=>absurd (hD _ (iA.mpr ⟨(N _ (.head _)).2.1,e⟩)) (gp _)) (items:=gx _ (.int z tz)) ⟨0,hl⟩ (dy.rep (.int z tz) _),iU S⟩
theorem DD{cx:Cx}{op:Operator}{a b r:MV}{u v:Value}{st st':MS}{P:bE}{s:Shared}(e:gT op a b st=some (r,st'))(S:SR B cx P st s.heap)(xa:VR B P s.heap a u)(xb:VR B P s.heap b v){A:Around}:
 wpAny (model aQ w) A (binaryOp op u v) (fun z s'=>∃P',bq B cx P s P' s' st'∧VR B P' s'.heap r z) eP s:=by
 match a with
 | .int x=>
  refine bT e fun y hy e=>?_
  refine aM (k5 e) fun z hz e=>?_
  (refine d9 (BL e) fun q0_ q1_=>?_;subst q0_;subst q1_)
  replace xb:=(cO hy)▸xb
  (refine fH xa.inv fun t q0_=>?_;first|apply dE q0_|apply d6 q0_)
  (refine fH xb.inv fun t' q0_=>?_;first|apply dE q0_|apply d6 q0_)
  exact GE hz fun t n=>⟨P,bq.toks S,.int _ _⟩
 | .tup x=>
  refine d9 (jK e) fun ho e=>?_
  refine bT e fun y hy e=>?_
  refine aM (k5 e) fun z hz e=>?_
  (refine d9 (BL e) fun q0_ q1_=>?_;subst q0_;subst q1_)
  refine d9 (ix hz) fun hn hz=>?_
  (obtain rfl:=ab hz;clear hz)
  rw[tC hy]at xb
  (erw[yh ho])
  exact Au hn S xa xb
 | .ref n=>
  refine bT e fun x hx e=>?_
  have ex:=ku hx
  by_cases ho:Bl op=true
  ·rw[if_pos ho]at e
   refine bT e fun y hy e=>?_
   refine bT e fun z hz e=>?_
   refine d9 (ix hz) fun hn hz=>?_
   (obtain rfl:=ab hz;clear hz)
   (refine d9 (dJ e) fun q0_ q1_=>?_;subst q0_;subst q1_)
   (refine aM (jJ hy) fun k q0_ ey=>?_;subst q0_)
   (erw[yh ho])
   exact y4 hn S ex ey xa xb
  ·replace e:=(if_neg ho)▸e
   refine d9 (jK e) fun hm e=>?_
   refine bT e fun z hz e=>?_
   refine bT e fun k hk e=>?_
   refine bT e fun l hl e=>?_
   refine d9 (ix hl) fun hb hl=>?_
   (obtain rfl:=ab hl;clear hl)
   rw[cb,not_or,decide_eq_true_eq,decide_eq_true_eq,fu,fu]at hb
   (refine d9 (dJ e) fun q0_ q1_=>?_;apply d6 q0_;apply d6 q1_)
   replace ex:=(CQ hz)▸ex
   replace xb:=(cO hk)▸xb
   (erw[Dc hm])
   exact xY hb.1 hb.2 S ex xa xb
 | .none=>exact bD e
 | .bool _=>exact bD e
 | .str _=>exact bD e
 | .range _ _=>exact bD e
 | .flist _=>exact bD e
 | .stat _=>exact bD e
end
section
theorem k8{P:bE}{h:Heap}{vs:List MV}{items:List Value}{l:List Int}(e:gY vs=some l)(x:dy B P h vs items):IntsAre items l:=
 dy.ind (C:=fun vs items=>∀l,gY vs=some l→IntsAre items l) (fun z_ e=>ab e▸.nil) (fun{m _ _ _} a _ ih _ e=>by
  cases m with
  |int i=>exact gh e fun l' e1 e2=>fH a.inv fun t hu=>e2▸hu▸.cons i t (ih l' e1)
  |_=>exact bD e) x l e
theorem oT{P:bE}{h:Heap}{vs:List MV}{items:List Value}{l:List Str}(e:je vs=some l)(x:dy B P h vs items):StrsAre items l:=
 dy.ind (C:=fun vs items=>∀l,je vs=some l→StrsAre items l) (fun z_ e=>ab e▸.nil) (fun{m _ _ _} a _ ih _ e=>by
  cases m with
  |str i=>exact gh e fun l' e1 e2=>fH a.inv fun t hu=>e2▸hu▸.cons i t (ih l' e1)
  |_=>exact bD e) x l e
theorem FB:∀{vs:List MV}{l:List Int},gY vs=some l→vs.length=l.length:=fun{vs}=>by
 induction vs with
 |nil=>exact fun e=>ab e▸rfl
 |cons m r ih=>cases m with
  |int i=>exact fun e=>gh e fun l' e1 e2=>e2▸congrArg Nat.succ (ih e1)
  |_=>exact fun e=>bD e
theorem sU{items:List Value}{l:List Int}{j:Nat}{v:Value}(x:IntsAre items l):items[j]?=some v→∃i t,l[j]?=some i∧v=.int i t:=by
 induction x generalizing j with
 |nil=>exact fun e=>bD e
 |cons n t _ ih=>cases j with
  |zero=>exact fun e=>⟨n,t,rfl,(ab e).symm⟩
  |succ j=>exact fun e=>ih e
theorem qO{items:List Value}{l:List Int}(x:IntsAre items l):items.length=l.length:=by
 induction x with
 |nil=>rfl
 |cons _ _ _ ih=>exact congrArg Nat.succ ih
noncomputable def N1:Value→Int
 | .int i _=>i
 |_=>0
theorem qN{items:List Value}{l:List Int}(x:IntsAre items l):l=items.map N1:=by
 induction x with
 |nil=>rfl
 |cons n _ _ ih=>exact congrArg (List.cons n) ih
theorem yj{items:List Value}{l l':List Int}(x:IntsAre items l)(y:IntsAre items l'):l=l':=(qN x).trans (qN y).symm
theorem AU{P:bE}{h:Heap}{vs:List MV}{items:List Value}{l:List (List Int)}{j:Nat}{v:Value}(e:jv vs=some l)(x:dy B P h vs items)(ev:items[j]?=some v):∃x a its,l[j]?=some x∧v=.ref a∧h.IsTuple a its.toArray∧IntsAre its x:=
 dy.ind (C:=fun vs items=>∀l j,jv vs=some l→items[j]?=some v→∃x a its,l[j]?=some x∧v=.ref a∧h.IsTuple a its.toArray∧IntsAre its x) (fun z_ z_ z_ e=>bD e) (fun{m _ _ _} a _ ih _ j e ev=>by
  cases m with
  |tup us=>
   refine bT e fun x ex e=>gh e fun l' e1 e2=>?_
   cases j with
   |zero=>exact eW a.inv fun ad its hu hi hs=>⟨x,ad,its,e2▸rfl,(ab ev).symm.trans hu,hi,k8 ex hs⟩
   |succ j=>exact e2▸ih l' j e1 ev
  |_=>exact bD e) x l j e ev
theorem xC:∀{vs:List MV}{l:List (List Int)},jv vs=some l→vs.length=l.length:=fun{vs}=>by
 induction vs with
 |nil=>exact fun e=>ab e▸rfl
 |cons m r ih=>cases m with
  |tup us=>exact fun e=>bT e fun x z_ e=>gh e fun l' e1 e2=>e2▸congrArg Nat.succ (ih e1)
  |_=>exact fun e=>bD e
theorem ya{α:Type}[BEq α][LawfulBEq α]:∀(x y:List α),x.length=y.length→(x==y)=(aE x.length).all fun j=>x[j]?==y[j]?:=fun x y hl=>by
 (refine(fP).mpr ?_;rw[beq_iff_eq,bd])
 constructor
 ·rintro rfl j _;exact beq_self_eq_true _
 ·intro h
  apply bK
  intro j
  by_cases hj:j < x.length
  ·exact eq_of_beq (h j (cg.mpr hj))
  ·rw[cF (by omega),cF (by omega)]
theorem zr{h:Heap}{a:Addr}{i j:Array Value}(x:h.IsTuple a i)(y:h.IsTuple a j):i=j:=by
 (refine mh x fun o ho z_ n hd=>?_;clear x)
 (refine mh y fun o' ho' z_ n' hd'=>?_;clear y)
 rw[ho]at ho';(obtain rfl:=ab ho';clear ho')
 replace hd':=(hd)▸hd';cases hd';rfl
theorem CH{P:bE}{s:Shared}{A:Around}{la lb:List MV}{ia ib:List Value}{x y:List (List Int)}(hu:A.units+1 < cLine)(ex:jv la=some x)(ey:jv lb=some y)(va:dy B P s.heap la ia)(vb:dy B P s.heap lb ib):
 ∀j (h1:j < ia.toArray.size) (h2:j < ib.toArray.size),SeqAt.EqAt A.in1 s ia.toArray[j] ib.toArray[j] (x[j]?==y[j]?):=by
 intro j h1 h2
 simp only[aP]at h1 h2
 obtain⟨x',a,its,e1,e2,e3,e4⟩:=AU (j:=j) (v:=ia[j]) ex va (an h1)
 obtain⟨y',b,jts,f1,f2,f3,f4⟩:=AU (j:=j) (v:=ib[j]) ey vb (an h2)
 simp only[BR]
 (erw[e2,f2,e1,f1])
 by_cases hab:a=b
 ·subst hab
  have:=zr e3 f3
  have h5:its=jts:=by simpa using this
  subst h5
  (erw[yj e4 f4];rw[beq_self_eq_true])
  exact SeqAt.EqAt.same _
 ·refine SeqAt.EqAt.of_refs hab ?_
  have hlen1:=qO e4
  have hlen2:=qO f4
  have:=SeqAt.RcAt.tuples (A:=A.in1) (e:=fun k=>x'[k]?==y'[k]?) e3 f3 (by simpa using hu) (fun k g1 g2=>by
   simp only[aP]at g1 g2
   refine rN (sU (j:=k) (v:=its[k]) e4 (an g1)) fun i t q1 q2=>?_
   refine rN (sU (j:=k) (v:=jts[k]) f4 (an g2)) fun i' t' q3 q4=>?_
   simp only[BR]
   (erw[q2,q4,q1,q3])
   have:=SeqAt.EqAt.int_int (A:=A.in1.in1) (s:=s) i t i' t'
   (erw[show(some i==some i')=(i==i')from rfl])
   exact this)
  have key:(((aE (min its.toArray.size jts.toArray.size)).all fun k=>x'[k]?==y'[k]?)&&(its.toArray.size==jts.toArray.size))=(some x'==some y'):=by
   simp only[aP,hlen1,hlen2]
   show _=(x'==y')
   by_cases hl:x'.length=y'.length
   ·(erw[ya x' y' hl,hl];rw[Nat.min_self,beq_self_eq_true,lp])
   ·have h6:(x'.length==y'.length)=false:=beq_eq_false_iff_ne.mpr hl
    (erw[h6];rw[d7])
    symm
    exact beq_eq_false_iff_ne.mpr fun q=>hl (by(erw[q];with_reducible rfl))
  (erw[←key])
  exact this
theorem Gh{P:bE}{h:Heap}{k:Str}{es:List (MV×MV)}{kvs:List (Str×Value)}(p:dF B P h es kvs):∀{r:Option MV},gR (.str k) es=some r→
 match r with
 |some m=>∃v,valueAt kvs k=some v∧VR B P h m v
 |none=>valueAt kvs k=none:=by
 induction p with
 |nil=>intro r e;(obtain rfl:=ab e;clear e);rfl
 | @cons k' m' v' es kvs a b ih=>
  intro r e
  unfold gR at e
  by_cases q:k'=k
  ·subst q
   rw[show iE (.str k') (.str k')=some true from congrArg some (beq_self_eq_true k')]at e
   (obtain rfl:=ab e;clear e)
   exact⟨v',by unfold valueAt;simp,a⟩
  ·replace e:=(show iE (.str k') (.str k)=some false from congrArg some (beq_eq_false_iff_ne.mpr q))▸e
   have:=ih e
   have z:valueAt ((k',v')::kvs) k=valueAt kvs k:=by unfold valueAt;simp[q]
   cases r with
   |some m=>(refine aM this fun v e1 e2=>?_;clear this);exact⟨v,z.trans e1,e2⟩
   |none=>exact z.trans this
theorem Gi{P:bE}{h:Heap}{k:Int}{es:List (MV×MV)}{kvs:List (Int×Value)}(p:dj B P h es kvs):∀{r:Option MV},gR (.int k) es=some r→
 match r with
 |some m=>∃v,valueAt kvs k=some v∧VR B P h m v
 |none=>valueAt kvs k=none:=by
 induction p with
 |nil=>intro r e;(obtain rfl:=ab e;clear e);rfl
 | @cons k' m' v' es kvs a b ih=>
  intro r e
  unfold gR at e
  by_cases q:k'=k
  ·subst q
   rw[show iE (.int k') (.int k')=some true from congrArg some (beq_self_eq_true k')]at e
   (obtain rfl:=ab e;clear e)
   exact⟨v',by unfold valueAt;simp,a⟩
  ·replace e:=(show iE (.int k') (.int k)=some false from congrArg some (beq_eq_false_iff_ne.mpr q))▸e
   have:=ih e
   have z:valueAt ((k',v')::kvs) k=valueAt kvs k:=by unfold valueAt;simp[q]
   cases r with
   |some m=>(refine aM this fun v e1 e2=>?_;clear this);exact⟨v,z.trans e1,e2⟩
   |none=>exact z.trans this
theorem Dt{P:bE}{h:Heap}{k:Int}{es:List (MV×MV)}{kvs:List (Str×Value)}{r:Option MV}(e:gR (.int k) es=some r)(p:dF B P h es kvs):kvs=[]∧es=[]∧r=none:=by
 cases p with
 |nil=>(obtain rfl:=ab e;clear e);exact⟨rfl,rfl,rfl⟩
 |cons a b=>exact bD e
theorem Du{P:bE}{h:Heap}{k:Str}{es:List (MV×MV)}{kvs:List (Int×Value)}{r:Option MV}(e:gR (.str k) es=some r)(p:dj B P h es kvs):kvs=[]∧es=[]∧r=none:=by
 cases p with
 |nil=>(obtain rfl:=ab e;clear e);exact⟨rfl,rfl,rfl⟩
 |cons a b=>exact bD e
end
section
theorem lM{K K':Type}[DecidableEq K][DecidableEq K']{knd:cS aQ w K}{knd':cS aQ w K'}{h:Heap}{a:Addr}(x:h.DictOf knd a []):h.DictOf knd' a []:=by
 obtain⟨o,es,ep,ho,hx,hd,hk,hp,hn⟩:=x
 have e:es.toList=[]:=by cases hp':es.toList with
  |nil=>rfl
  |cons y ys=>replace hp:=(hp')▸hp;cases hp
 have e':es=#[]:=by rw[←Hl];exact e
 subst e'
 exact⟨o,#[],ep,ho,hx,hd,fun y hy=>by simp at hy,.nil,dp⟩
noncomputable def PX{K:Type}[DecidableEq K](P:bE)(h:Heap)(kvs:List (K×Value))(kk:K)(q:Option MV):Prop:=match q with
 |some m=>∃z,valueAt kvs kk=some z∧VR B P h m z
 |none=>valueAt kvs kk=none
theorem pg{P:bE}{h:Heap}{p:Addr}{es:List (MV×MV)}{k:MV}{q:Option MV}{v:Value}(hd:(∃kvs,h.DictOf (strKind aQ w) p kvs∧dF B P h es kvs)∨(∃kvs,h.DictOf (intKind aQ w) p kvs∧dj B P h es kvs))(hk:i9 k=true)(e:gR k es=some q)(xk:VR B P h k v){C:Prop}
 (step:∀{K:Type}[DecidableEq K] (knd:cS aQ w K) (kk:K) (kvs:List (K×Value)),knd.is kk v=true→h.DictOf knd p kvs→PX P h kvs kk q→C):C:=by
 cases k with
 |str x=>
  refine fH xk.inv fun t hv=>?_
  have is:=hv.symm▸strKind_is aQ w x t
  rcases hd with⟨kvs,hd,hp⟩|⟨kvs,hd,hp⟩
  ·exact step (strKind aQ w) x kvs is hd (Gh hp e)
  ·obtain⟨rfl,rfl,rfl⟩:=Du e hp
   exact step (strKind aQ w) x [] is (lM hd) rfl
 |int x=>
  refine fH xk.inv fun t hv=>?_
  have is:=hv.symm▸intKind_is aQ w x t
  rcases hd with⟨kvs,hd,hp⟩|⟨kvs,hd,hp⟩
  ·obtain⟨rfl,rfl,rfl⟩:=Dt e hp
   exact step (intKind aQ w) x [] is (lM hd) rfl
  ·exact step (intKind aQ w) x kvs is hd (Gi hp e)
 |_=>exact Bool.noConfusion hk
theorem z4{P:bE}{h:Heap}{K:Type}[DecidableEq K]{kvs:List (K×Value)}{kk:K}:∀{r:Option MV},(match r with|some m=>∃v,valueAt kvs kk=some v∧VR B P h m v|none=>valueAt kvs kk=none)→(valueAt kvs kk).isSome=r.isSome
 |none,x=>congrArg vA x
 |some m,x=>aM x fun v e z_=>congrArg vA e
theorem yg{cx:Cx}(hB:∃o,B.get? sysModules=some o){a b:MV}{c neg:Bool}{u v:Value}{st:MS}{P:bE}{s:Shared}(e:rd st.hp a b=some c)(S:SR B cx P st s.heap)(xa:VR B P s.heap a u)(xb:VR B P s.heap b v){A:Around}
 {Q:Value→Shared→Prop}(k:∀n,Q (.bool (if neg then !c else c)) {s with toks:=n}):wpAny (model aQ w) A (compareOp (if neg then .NotIn else .In) u v) Q eP s:=by
 unfold rd at e
 cases b with
 |tup vs=>
  refine bT e fun x ex e=>gh e fun l e1 e=>?_
  have xa:=tD ex▸xa
  apply Ej xa
  intro t
  apply Me xb
  intro a items hi hv
  have sa:=oT e1 hv
  have k:=e.symm▸k
  cases neg
  ·exact in_tuple_strs hi (by simpa using sa) (k _)
  ·exact notin_tuple_strs hi (by simpa using sa) (k _)
 |ref n=>
  apply zC xb
  intro p ep
  dsimp only at e
  refine E9 (o:=st.hp[n]?) (fun eo=>?_) fun o eo=>?_
  ·rw[eo]at e;exact bD e
  replace e:=(eo)▸e
  cases o with
  |inst=>exact bD e
  |list vs=>
   refine iM (S.1.obj n _ p eo ep) fun z_ items hlx hv=>?_
   have hl:=hlx.isList
   cases a with
   |int i=>
    refine gh e fun l e1 e=>?_
    apply mE xa
    intro t
    have sa:=k8 e1 hv
    have k:=e.symm▸k
    cases neg
    ·exact in_list_ints hl sa (k _)
    ·exact notin_list_ints hl sa (k _)
   |str x=>
    refine gh e fun l e1 e=>?_
    apply Ej xa
    intro t
    have sa:=oT e1 hv
    have k:=e.symm▸k
    cases neg
    ·exact in_list_strs hl sa (k _)
    ·exact notin_list_strs hl sa (k _)
   |_=>exact bD e
  |dict es=>
   refine nY e fun hkey e=>gh e fun r e1 e=>?_
   have hs:=nj S.1 hB ep
   refine pg (S.1.obj n _ p eo ep).2 hkey e1 xa fun knd kk kvs hk hd x=>?_
   have he:=(z4 x).trans e
   cases neg
   ·exact wpAny_in_of hk hs hd.mapOf (he.symm▸k _)
   ·exact wpAny_notIn_of hk hs hd.mapOf (he.symm▸k _)
 |_=>exact bD e
theorem C4{cx:Cx}{la lb:List MV}{ia ib:List Value}{c neg:Bool}{p q:Addr}{P:bE}{s:Shared}(e:wD la lb=some c)(hla:s.heap.IsList p ia.toArray)(hva:dy B P s.heap la ia)(hlb:s.heap.IsList q ib.toArray)(hvb:dy B P s.heap lb ib){A:Around}(hu:A.units+1 < cLine)
 {Q:Value→Shared→Prop}(k:∀n,Q (.bool (if neg then !c else c)) {s with toks:=n}):wpAny (model aQ w) A (compareOp (if neg then .NotEq else .Eq) (.ref p) (.ref q)) Q eP s:=by
 have hl1:=Hu hu
 have l1:=hva.length
 have l2:=hvb.length
 have lens:(ia.toArray.size != ib.toArray.size)=true→c=false→wpAny (model aQ w) A (compareOp (if neg then .NotEq else .Eq) (.ref p) (.ref q)) Q eP s:=fun hne hc=>by
  subst hc
  cases neg
  ·exact SeqAt.eq_list_lengthsAt hla hlb hne hl1 (k _)
  ·exact SeqAt.RcNeAt.lists_lengths hla hlb hne hl1 aQ w _ _ (k _)
 have same:∀(f:Nat→Bool),ia.toArray.size=ib.toArray.size→(∀j (h1:j < ia.toArray.size) (h2:j < ib.toArray.size),SeqAt.EqAt A.in1 s ia.toArray[j] ib.toArray[j] (f j))→c=(aE ia.toArray.size).all f→
  wpAny (model aQ w) A (compareOp (if neg then .NotEq else .Eq) (.ref p) (.ref q)) Q eP s:=fun f hsz he hc=>by
  subst hc
  cases neg
  ·exact SeqAt.eq_listAt hla hlb hsz hl1 he (k _)
  ·exact SeqAt.RcNeAt.lists hla hlb hsz hl1 he aQ w _ _ (k _)
 have ne:¬ia.length=ib.length→(ia.toArray.size != ib.toArray.size)=true:=fun h=>by
  (erw[aP,aP];(refine(bne_iff_ne).mpr ?_));exact h
 refine rc e (fun h e=>?_) fun e=>bT e fun x ex e=>gh e fun y ey e=>?_
 ·have e:=ab e
  cases la with
  |nil=>
   cases lb with
   |nil=>
    have h1:=dA.mp l1.symm
    have h2:=dA.mp l2.symm
    subst h1;subst h2
    exact same (fun z_=>true) rfl (fun j h1=>absurd h1 (fS _)) e.symm
   |cons b lb=>exact lens (ne (by(erw[←l1,←l2]);exact Nat.noConfusion)) e.symm
  |cons a la=>
   cases lb with
   |nil=>exact lens (ne (by(erw[←l1,←l2]);exact fun q=>Nat.noConfusion q)) e.symm
   |cons b lb=>exact absurd h DU
 ·have lx:=xC ex
  have ly:=xC ey
  by_cases hl:x.length=y.length
  ·exact same (fun j=>x[j]?==y[j]?) (by(erw[aP,aP,←l1,←l2,lx,ly,hl];with_reducible rfl)) (CH hu ex ey hva hvb) (by(erw[←e,ya x y hl,aP,←l1,lx];with_reducible rfl))
  ·exact lens (ne (by(erw[←l1,←l2,lx,ly]);exact hl)) (e.symm.trans (beq_eq_false_iff_ne.mpr fun q=>hl (by(erw[q];with_reducible rfl))))
theorem AF{cx:Cx}{a b:MV}{c neg:Bool}{u v:Value}{st:MS}{P:bE}{s:Shared}(e:D0 st.hp a b=some c)(S:SR B cx P st s.heap)(xa:VR B P s.heap a u)(xb:VR B P s.heap b v){A:Around}(hu:A.units+1 < cLine)
 {Q:Value→Shared→Prop}(k:∀n,Q (.bool (if neg then !c else c)) {s with toks:=n}):wpAny (model aQ w) A (compareOp (if neg then .NotEq else .Eq) u v) Q eP s:=by
 cases a with
 |ref n=>
  refine bT e fun la ea e=>bT e fun lb eb e=>aM (jJ eb) fun m hm eb=>?_
  have xb:=hm▸xb
  apply zC xa
  intro p hp
  apply zC xb
  intro q hq
  refine iM (S.1.obj _ _ _ (ku ea) hp) fun z_ ia hla hva=>iM (S.1.obj _ _ _ eb hq) fun z_ ib hlb hvb=>?_
  exact C4 (cx:=cx) e hla.isList hva hlb.isList hvb hu k
 |int x=>
  refine gh e fun y ey e=>?_
  have xb:=cO ey▸xb
  apply mE xa
  intro t
  apply mE xb
  intro t'
  have k:=e.symm▸k
  cases neg
  ·exact PyProof.Rows.eq_int (k _)
  ·exact zd (k s.toks)
 |str x=>
  refine gh e fun y ey e=>?_
  have xb:=tD ey▸xb
  apply Ej xa
  intro t
  apply Ej xb
  intro t'
  have k:=e.symm▸k
  cases neg
  ·exact PyProof.Rows.eq_str (k _)
  ·exact PyProof.Rows.ne_str (k s.toks)
 |bool x=>
  refine gh e fun y ey e=>?_
  have xb:=yY ey▸xb
  have h1:u=.bool x:=xa.inv
  have h2:v=.bool y:=xb.inv
  (erw[h1,h2])
  have k:=e.symm▸k
  cases neg
  ·exact PyProof.Rows.eq_bool (k _)
  ·exact PyProof.Rows.ne_bool (k s.toks)
 |_=>exact bD e
theorem wk{a:MV}{c:Bool}{u:Value}{P:bE}{h:Heap}(e:Fv a=some c)(xa:VR B P h a u):L0 u .none=true∧(u==.none)=c:=by
 cases xa<;>first|((first|(exact bD e)|(obtain rfl:=ab e;clear e));done)|((obtain rfl:=ab e;clear e);exact⟨rfl,rfl⟩)
theorem Kk{a b:MV}{f:Int→Int→Bool}{c:Bool}(h:Df a b f=some c):∃x y,a=.int x∧b=.int y∧c=f x y:=by
 refine bT h fun x h1 h=>?_
 obtain⟨y,h2,rfl⟩:=az.mp h
 exact⟨x,y,cO h1,cO h2,rfl⟩
theorem sR{a b:MV}{c neg:Bool}{u v:Value}{P:bE}{s:Shared}(e:z5 a b=some c)(xa:VR B P s.heap a u)(xb:VR B P s.heap b v){A:Around}
 {Q:Value→Shared→Prop}(k:∀n,Q (.bool (if neg then !c else c)) {s with toks:=n}):wpAny (model aQ w) A (compareOp (if neg then .IsNot else .Is) u v) Q eP s:=by
 have fin:∀(hp:L0 u v=true),(u==v)=c→wpAny (model aQ w) A (compareOp (if neg then .IsNot else .Is) u v) Q eP s:=fun hp hc=>by
  cases neg
  ·exact wpAny_is_plain hp (by(erw[hc]);exact k _)
  ·exact wpAny_isNot_plain hp (by(erw[hc]);exact k _)
 cases b with
 |none=>
  cases xb.inv
  refine d9 (wk e xa) fun h1 h2=>?_
  exact fin h1 h2
 |_=>exact absurd e.symm (io _)
theorem rA{cx:Cx}(hB:∃o,B.get? sysModules=some o){op:CmpOp}{a b:MV}{c:Bool}{u v:Value}{st:MS}{P:bE}{s:Shared}(e:nB st.hp op a b=some c)(S:SR B cx P st s.heap)(xa:VR B P s.heap a u)(xb:VR B P s.heap b v)
 {A:Around}(hu:A.units+1 < cLine) {Q:Value→Shared→Prop}(k:∀n,Q (.bool c) {s with toks:=n}):wpAny (model aQ w) A (compareOp op u v) Q eP s:=by
 have iq:∀{f:Int→Int→Bool},Df a b f=some c→(∀x y t t',a=.int x→b=.int y→u=.int x t→v=.int y t'→c=f x y→wpAny (model aQ w) A (compareOp op u v) Q eP s)→wpAny (model aQ w) A (compareOp op u v) Q eP s:=fun h q=>by
  (refine eW (Kk h) fun x y q0_ q1_ q2_=>?_;subst q0_;subst q1_;subst q2_)
  (refine fH xa.inv fun t q0_=>?_;subst q0_)
  (refine fH xb.inv fun t' q0_=>?_;subst q0_)
  exact q x y t t' rfl rfl rfl rfl rfl
 cases op with
 |Eq=>exact AF (neg:=false) e S xa xb hu k
 |NotEq=>
  (refine gh e fun c' e1 q0_=>?_;subst q0_)
  exact AF (neg:=true) e1 S xa xb hu k
 |Lt=>exact iq e fun x y t t' z_ z_ h1 h2 h3=>by(erw[h1,h2]);exact PyProof.Rows.lt_int (h3▸k _)
 |LtE=>exact iq e fun x y t t' z_ z_ h1 h2 h3=>by(erw[h1,h2]);exact PyProof.Rows.le_int (h3▸k _)
 |Gt=>exact iq e fun x y t t' z_ z_ h1 h2 h3=>by(erw[h1,h2]);exact PyProof.Rows.gt_int (h3▸k _)
 |GtE=>exact iq e fun x y t t' z_ z_ h1 h2 h3=>by(erw[h1,h2]);exact PyProof.Rows.ge_int (h3▸k _)
 |Is=>exact sR (neg:=false) e xa xb k
 |IsNot=>
  (refine gh e fun c' e1 q0_=>?_;subst q0_)
  exact sR (neg:=true) e1 xa xb k
 |In=>exact yg (neg:=false) hB e S xa xb k
 |NotIn=>
  (refine gh e fun c' e1 q0_=>?_;subst q0_)
  exact yg (neg:=true) hB e1 S xa xb k
end
section
theorem VR.handed{P:bE}{h:Heap}{m:MV}{v:Value}(r:VR B P h m v):handedIn v=true:=by
 cases r<;>first|rfl|assumption
theorem kR{A:Around}{E:Value→Shared→Prop}{s:Shared}{value slice:Expr}{o i:Value}{T id:String}{Q:Value→Shared→Prop}(hT:s.TypeIs o T)
 (hl:typeLookup (.type T) "__getitem__"=pure (some (.builtin id))) (h:wpAny (model aQ w) A (getItem o i) Q E s):wpAny (model aQ w) A (subscriptTail value slice o i) Q E s:=by
 have hh:∀vs,wpAny (model aQ w) A (operate vs (getItem o i)) (fun r s₃=>wpAny (model aQ w) A (letTemporaryGo value o r >>=fun z_=>pure r) Q E s₃) E s:=fun vs=>
  wpAny_operating (wpAny_mono h (fun r s₃ h₃=>wpAny_bind (wpAny_letTemporaryGo (wpAny_pure h₃))) fun z_ z_ x=>x)
 have fin:wpAny (model aQ w) A (subscripted slice false o i) (fun r s₃=>wpAny (model aQ w) A (letTemporaryGo value o r >>=fun z_=>pure r) Q E s₃) E s:=by
  have a1:=hh [i,o]
  have a2:=hh [o,i]
  cases slice with
  |Slice l u st p=>cases st with
   |none=>exact a1
   |some=>exact a2
  |_=>exact a2
 refine wpAny_bind ?_
 (erw[getitemInPython_of_ne hT.not_modules])
 refine wpAny_bind (wpAny_specialOf hT hl ?_)
 first
  |exact wpAny_pure (wpAny_bind fin)
  |exact wpAny_bind (wpAny_pure (wpAny_bind fin))
  |exact wpAny_bind fin
theorem HA{n:Nat}{k:Int}(h0:¬k < 0)(h1:k.toNat < n):seqIndex? k n=some k.toNat:=by
 unfold seqIndex?
 (erw[if_neg h0])
 have e:(decide (0≤k)&&decide (k < (n:Int)))=true:=by
  simp only[bf,decide_eq_true_eq]
  omega
 simp only[e,if_true]
theorem Aq{k:Int}(h0:¬k < 0)(hb:¬big k=true):k < 2^63:=by
 have:=mN hb
 have e:(2:Int)^63=9223372036854775808:=by decide
 have e':(2:Nat)^62=4611686018427387904:=by decide
 (erw[e]);rw[e']at this
 omega
theorem yt{cx:Cx}(hB:∃o,B.get? sysModules=some o){a b:MV}{r:MV}{u v:Value}{st:MS}{P:bE}{s:Shared}(e:bp st.hp a b=some r)(S:SR B cx P st s.heap)(xa:VR B P s.heap a u)(xb:VR B P s.heap b v)
 {A:Around}{value slice:Expr}:wpAny (model aQ w) A (subscriptTail value slice u v) (fun z s'=>∃P',bq B cx P s P' s' st∧VR B P' s'.heap r z) eP s:=by
 unfold bp at e
 cases a with
 |tup vs=>
  refine bT e fun k ek e=>tT e fun h0 e=>tT e fun hb e=>?_
  have xb:=cO ek▸xb
  apply mE xb
  intro t
  apply Me xa
  intro a items hi hs
  refine aM (hs.get e) fun x e1 e2=>?_
  have hlt:=(ai.mp e1).1
  exact kR hi.typeIs slot_tuple_getitem.lookup (PyProof.Rows.getItem_tuple hi (kh (by decide) (fu.mp h0)) (Aq h0 hb) (HA h0 (by simpa using hlt)) (by simpa using e1) ⟨P,bq.refl S,e2⟩)
 |ref n=>
  apply zC xa
  intro p ep
  dsimp only at e
  refine E9 (o:=st.hp[n]?) (fun eo=>?_) fun o eo=>?_
  ·rw[eo]at e;exact bD e
  rw[eo]at e
  cases o with
  |inst=>exact bD e
  |list vs=>
   refine bT e fun k ek e=>tT e fun h0 e=>tT e fun hb e=>?_
   have xb:=cO ek▸xb
   apply mE xb
   intro t
   refine iM (S.1.obj n _ p eo ep) fun z_ items hlx hv=>?_
   have hl:=hlx.isList
   refine aM (hv.get e) fun x e1 e2=>?_
   exact kR hl.typeIs list_getitem_lookup (wpAny_getItem_list hl (fu.mp h0) (Aq h0 hb) (by simpa using e1) ⟨P,bq.refl S,e2⟩)
  |dict es=>
   refine nY e fun hkey e=>bT e fun q e1 e2=>?_
   refine pg (S.1.obj n _ p eo ep).2 hkey e1 xb fun knd kk kvs hk hd x=>?_
   have e2:q=some r:=e2
   rw[e2]at x
   refine aM x fun z ez hz=>?_
   exact kR hd.mapOf.typeIs slot_dict_getitem.lookup (wpAny_getItem_of hk hd.mapOf ez ⟨P,bq.toks S,hz⟩)
 |_=>exact bD e
end
section
variable{A:Around}{E:Value→Shared→Prop}{s:Shared}
theorem wP{sl:Addr}{b n:Nat}{u:Tok}{Q:Int×Int×Nat→Shared→Prop}(hs:s.heap.IsSliceOf sl .none (.int b u) .none)(hb:b≤n)(h:Q (0,1,b) s):
 wpAny (model aQ w) A (Builtin.Slice.sliceApplied (.ref sl) (pure (n:Int))) Q E s:=by
 refine dH (id hs) fun os hos hcs hds=>?_
 have ea:ki none (some (b:Int)) 1 (n:Int)=(0,(b:Int)):=by
  unfold ki
  have h1:¬((1:Int) < 0):=by omega
  have h2:¬((b:Int) < 0):=by omega
  simp only[h1,h2,if_false]
  congr 1
  omega
 have ep:ii 0 (b:Int) 1=b:=by
  unfold ii
  have h1:(1:Int) > 0:=by exact bY _
  simp only[h1,if_true,Int.ediv_one]
  split<;>lia
 refine wpAny_bind (wpAny_bind (wpAny_field hos hds (x:=.none) rfl (wpAny_bind (wpAny_field hos hds (x:=.int b u) rfl (wpAny_bind (wpAny_field hos hds (x:=.none) rfl (wpAny_pure ?_)))))))
 refine wpAny_bind (slicePart_none ?_)
 show wpAny _ _ (if((1:Int)==0)=true then _ else _) _ _ s
 rw[if_neg (by decide)]
 refine wpAny_bind (slicePart_none (wpAny_bind (slicePart_int (wpAny_bind (wpAny_pure ?_)))))
 show wpAny _ _ (match ki none (some (b:Int)) 1 (n:Int)with|(lo,hi)=>pure (lo,(1:Int),ii lo hi 1)) _ _ s
 (erw[ea])
 show wpAny _ _ (pure ((0:Int),(1:Int),ii 0 (b:Int) 1)) _ _ s
 (erw[ep])
 exact wpAny_pure h
theorem CN(xs:Array Value)(b:Nat)(hb:b≤xs.size):((aE b).filterMap fun(k:Nat)=>xs[((0:Int)+(k:Int)*1).toNat]?).toArray=(xs.toList.take b).toArray:=by
 have e:(fun(k:Nat)=>xs[((0:Int)+(k:Int)*1).toNat]?)=fun k=>xs.toList[k]?:=by
  funext k
  have:((0:Int)+(k:Int)*1).toNat=k:=by lia
  (erw[this]);simp
 (erw[e])
 congr 1
 have:∀(l:List Value) (b:Nat),b≤l.length→(aE b).filterMap (fun k=>l[k]?)=l.take b:=by
  intro l b
  induction b with
  |zero=>intro z_;exact rfl
  |succ n ih=>
   intro hn
   have hn':n < l.length:=by assumption
   (erw[cX,List.filterMap_append,ih (by exact dO ‹_›),aO])
   simp[hn']
 exact this _ _ (by simpa using hb)
theorem wv{t sl:Addr}{items:Array Value}{b:Nat}{u:Tok}{Q:Value→Shared→Prop}(ht:IsTup s.heap t items)(hs:s.heap.IsSliceOf sl .none (.int b u) .none)(hb:b≤items.size)
 (h1:b=items.size→Q (.ref t) s)
 (h:Q (.ref s.heap.objs.size) {s with heap:=s.heap.push {cls:=.type "tuple",data:=.seq (items.toList.take b).toArray}})
 (hsz:items.size≤sizeLine:=by size_fits):wpAny (model aQ w) A (getItem (.ref t) (.ref sl)) Q E s:=by
 have hok:sizeOk (.seq (items.toList.take b).toArray):=by
  show(items.toList.take b).toArray.size≤sizeLine
  (erw[aP,cK,BU])
  lia
 refine dH (id hs) fun os hos hcs hds=>?_
 have hTs:s.TypeIs (.ref sl) "slice":=⟨os,hos,hcs⟩
 unfold getItem
 try with_reducible refine wpAny_holding ?_
 first|refine wpAny_bind (wpAny_pure ?_)|skip
 refine wpAny_bind (wpAny_sequenceKey ht.typeIs (by decide) ?_)
 refine wpAny_bind (wpAny_callSpecial?_slot (name:=ag "__getitem__") ht.typeIs slot_tuple_getitem
  (wpAny_call_entry slot_tuple_getitem ht.typeIs entry_tuple_getitem ?_ (args_tuple_getitem _ _)))
 show wpAny _ _ (Builtin.Tuple.tupleItemsOf (.ref t) >>=_) _ _ s
 refine wpAny_bind (tupleItemsOf_ ht ?_)
 refine wpAny_bind (wpAny_typeOf hTs ?_)
 rw[if_pos (by decide)]
 refine wpAny_bind (wP hs hb ?_)
 show wpAny _ _ (if((0:Int)==0&&(1:Int)==1&&b==items.size)=true then _ else _) _ _ s
 by_cases hbe:b=items.size
 ·rw[if_pos (by rw[hbe];simp)]
  refine wpAny_bind (m:=Builtin.Tuple.tupleIsExact _) (wpAny_bind (wpAny_typeOf ht.typeIs (wpAny_pure ?_)))
  show wpAny _ _ (if((l7 "tuple")==l7 "tuple")=true then _ else _) _ _ s
  rw[if_pos (by decide)]
  refine wpAny_bind (wpAny_rule ?_)
  exact wpAny_pure ⟨_,rfl,wpAny_pure (h1 hbe)⟩
 ·(rw[if_neg (by simp[hbe])];erw[CN items b hb])
  first
   |exact wpAny_bind (m:=iw _) (wpAny_newObj_type (wpAny_pure ⟨_,rfl,wpAny_pure h⟩) hok)
   |exact wpAny_bind (m:=iw _) (wpAny_newObj_type (wpAny_bind (wpAny_pure (wpAny_pure ⟨_,rfl,wpAny_pure h⟩))) hok)
   |exact wpAny_bind (wpAny_bind (m:=iw _) (wpAny_newObj_type (wpAny_pure (wpAny_pure ⟨_,rfl,wpAny_pure h⟩)) hok))
   |exact wpAny_bind (wpAny_bind (m:=iw _) (wpAny_newObj_type (wpAny_pure ⟨_,rfl,wpAny_pure h⟩) hok))
end
section
theorem cA.ofGrow{L:Addr}{h h':Heap}(k:∀b o,h.get? b=some o→h'.get? b=some o):cA L h h':=⟨fun b o z_ e=>k b o e,fun m hn=>hn.at fun o e=>k _ o e⟩
theorem bq.of_toks{cx:Cx}{P P':bE}{s s':Shared}{st':MS}(x:bq B cx P s P' s' st')(k:Nat):bq B cx P s P' {s' with toks:=k} st':=by
 obtain⟨a,b,h,tk,e⟩:=x
 exact⟨a,b,h,k,by(erw[e];with_reducible rfl)⟩
noncomputable def PE{α:Type}(l:List α)(lo hi:Option Nat):List α:=((match hi with|some k=>l.take k|none=>l).drop (lo.getD 0))
theorem dy.cut{P:bE}{h:Heap}{ms:List MV}{vs:List Value}(r:dy B P h ms vs)(lo hi:Option Nat):dy B P h (Mine.Ql ms lo hi) (PE vs lo hi):=by
 cases hi with
 |none=>exact r.drop _
 |some k=>exact(r.take k).drop _
theorem tn(n a:Nat):clipAt n (a:Int)=min a n:=by
 unfold clipAt
 (erw[if_neg (fu.mpr (bY a))])
 rcases Nat.le_total a n with h|h
 ·(erw[Int.min_eq_left (mT.mpr h),j7 h,Ln (bY _)]);rfl
 ·(erw[Int.min_eq_right (mT.mpr h),tL h,Ln (bY _)]);rfl
theorem Gf{α:Type}(l:List α)(a:Nat){n:Nat}(h:l.length≤n):l.drop (min a n)=l.drop a:=by
 by_cases h1:a≤n
 ·(erw[j7 h1];with_reducible rfl)
 ·rw[tL (by omega),zh h,zh (by omega)]
theorem Ed{α:Type}(l:List α)(a:Nat):l.take (min a l.length)=l.take a:=by
 by_cases h1:a≤l.length
 ·(erw[j7 h1];with_reducible rfl)
 ·(rw[tL (by omega)];erw[jb (aY _)];exact(jb (by omega)).symm)
theorem E5(items:List Value)(lo hi:Option Nat):slicePick items.toArray (lo.map fun(n:Nat)=>(n:Int)) (hi.map fun(n:Nat)=>(n:Int)) none=(PE items lo hi).toArray:=by
 rw[slicePick_plain]
 congr 1
 (erw[←List.drop_take])
 simp only[aP]
 have el:∀l:List Value,l.length≤items.length→l.drop ((lo.map fun(n:Nat)=>(n:Int)).elim 0 (clipAt items.length))=l.drop (lo.getD 0):=fun l hl=>by
  cases lo with
  |none=>rfl
  |some a=>
   show l.drop (clipAt _ (a:Int))=_
   (rw[tn];erw[Gf _ _ hl]);rfl
 cases hi with
 |none=>
  show y7 _ (Hw items.length items)=_
  (erw[jb (aY _)])
  exact el _ (aY _)
 |some b=>
  show y7 _ (Hw (clipAt items.length (b:Int)) items)=_
  rw[tn,Ed]
  exact el _ (by(erw[cK]);omega)
inductive nU(B:Heap)(P:bE)(h:Heap):Option MV→Value→Prop
 |none:nU B P h none .none
 |some {m v}:VR B P h m v→nU B P h (some m) v
theorem A7{P:bE}{h:Heap}{m:Option MV}{v:Value}{r:Option Nat}(e:lQ m=some r)(x:nU B P h m v):IsPart v (r.map fun(n:Nat)=>(n:Int)):=by
 unfold lQ at e
 set_option tactic.hygienic true in split at e
 ·(obtain rfl:=ab e;clear e);cases x;exact .none
 ·set_option tactic.hygienic true in split at e
  ·exact bD e
  ·set_option tactic.hygienic true in split at e
   ·exact bD e
   ·(obtain rfl:=ab e;clear e)
    rename_i k h0 _
    cases x with
    |some x=>
     (refine fH x.inv fun t q_=>?_;clear x;first|apply d6 q_|apply dE q_);next=>
      show IsPart _ (some ((k.toNat:Nat):Int))
      (erw[show((k.toNat:Nat):Int)=k from by lia])
      exact IsPart.int k t
 ·exact bD e
theorem cr{h:Heap}(x:Obj):∀b o,h.get? b=some o→(h.push x).get? b=some o:=fun b o e=>zj x e
theorem sv{cx:Cx}{l h:Option Nat}{vs:List MV}{vl vu:Value}{r:MV}{st st':MS}{P:bE}{s:Shared}(S:SR B cx P st s.heap)(pl:IsPart vl (l.map fun(n:Nat)=>(n:Int)))(ph:IsPart vu (h.map fun(n:Nat)=>(n:Int))){b:Addr}{items:List Value}(hl:s.heap.IsList b items.toArray)(hv:dy B P s.heap vs items)(hn:vs.length≤1000)(em:d0 (.list (Ql vs l h)) st=some (r,st'))
 {A:Around}{value slice:Expr}:wpAny (model aQ w) A (subscriptTail value slice (.ref b) (.ref s.heap.objs.size)) (fun z s'=>∃P',bq B cx P s P' s' st'∧VR B P' s'.heap r z) eP {s with heap:=s.heap.push {cls:=.type "slice",data:=.fields #[vl,vu,.none]}}:=by
 (refine d9 (dJ em) fun q0_ q1_=>?_;apply d6 q0_;apply d6 q1_)
 refine kR (s:={s with heap:=s.heap.push {cls:=.type "slice",data:=.fields #[vl,vu,.none]}}) (Heap.IsList.typeIs (s:={s with heap:=s.heap.push {cls:=.type "slice",data:=.fields #[vl,vu,.none]}}) (hl.push _)) list_getitem_lookup
  (wpAny_getItem_list_slice (hl.push _) (DT ..) pl ph .none (by simp) ?_ (by(erw[aP,←hv.length]);exact ah hn (show 1000≤sizeLine from by decide)))
 rw[E5]
 refine⟨_,bq.newL (k:=s.toks) (a:=(s.heap.push _).objs.size) S (cA.ofGrow fun b o e=>cr _ b o (cr _ b o e)) (bA fun o e=>?_) ⟨0,bi _ rfl⟩ (hv.cut l h),iU S⟩
 exact absurd (ci e) (by rw[vC];exact aC.mpr (cN _))
theorem Cd{cx:Cx}{k:Nat}{vs:List MV}{tu:Tok}{st:MS}{P:bE}{s:Shared}(S:SR B cx P st s.heap){a:Addr}{items:List Value}(hi:IsTup s.heap a items.toArray)(hs:dy B P s.heap vs items)(hk:¬vs.length < k)(hn:¬1000 < vs.length)
 {A:Around}{value slice:Expr}:wpAny (model aQ w) A (subscriptTail value slice (.ref a) (.ref s.heap.objs.size)) (fun z s'=>∃P',bq B cx P s P' s' st∧VR B P' s'.heap (.tup (vs.take k)) z) eP {s with heap:=s.heap.push {cls:=.type "slice",data:=.fields #[.none,.int (k:Int) tu,.none]}}:=by
 have hlen:=hs.length
 have e1:=cr (h:=s.heap) {cls:=.type "slice",data:=.fields #[.none,.int (k:Int) tu,.none]}
 have hi':IsTup (s.heap.push {cls:=.type "slice",data:=.fields #[.none,.int (k:Int) tu,.none]}) a items.toArray:=hi.keeps fun z_ z_ e=>e1 _ _ e
 refine kR (s:={s with heap:=s.heap.push {cls:=.type "slice",data:=.fields #[.none,.int (k:Int) tu,.none]}}) hi'.typeIs slot_tuple_getitem.lookup
  (wv hi' (DT ..) (by(erw[aP,←hlen]);exact aC.mp hk) (fun hq=>?_) ?_ (by(erw[aP,←hlen]);exact ah (aC.mp hn) (show 1000≤sizeLine from by decide)))
 ·have g:cA cx.env.locals s.heap (s.heap.push {cls:=.type "slice",data:=.fields #[.none,.int (k:Int) tu,.none]}):=cA.ofGrow e1
  (erw[jb (by rw[aP,←hlen]at hq;exact ff hq.symm)])
  exact⟨P,bq.growL (k:=s.toks) S g,.tup hi' ((jk.growL S g).vrs hs)⟩
 ·have g:cA cx.env.locals s.heap ((s.heap.push {cls:=.type "slice",data:=.fields #[.none,.int (k:Int) tu,.none]}).push {cls:=.type "tuple",data:=.seq (items.take k).toArray}):=cA.ofGrow fun b o e=>cr _ b o (e1 b o e)
  exact⟨P,bq.growL (k:=s.toks) S g,.tup ⟨_,bi _ rfl,rfl,_,rfl⟩ ((jk.growL S g).vrs (hs.take k))⟩
theorem t7{l h:Option Nat}{k:Nat}(e:yn l h=some k):l=none∧h=some k:=by
 cases l<;>cases h<;>first|exact bD e|exact⟨rfl,congrArg some (ab e)⟩
theorem Ce{cx:Cx}{a:MV}{lo hi:Option MV}{r:MV}{u vl vu:Value}{st st':MS}{P:bE}{s:Shared}(e:iQ a lo hi st=some (r,st'))(S:SR B cx P st s.heap)(xa:VR B P s.heap a u)(xl:nU B P s.heap lo vl)(xh:nU B P s.heap hi vu)
 {A:Around}{value slice:Expr}:wpAny (model aQ w) A (subscriptTail value slice u (.ref s.heap.objs.size)) (fun z s'=>∃P',bq B cx P s P' s' st'∧VR B P' s'.heap r z) eP {s with heap:=s.heap.push {cls:=.type "slice",data:=.fields #[vl,vu,.none]}}:=by
 refine bT e fun l el e=>bT e fun h eh e=>?_
 have pl:=A7 el xl
 have ph:=A7 eh xh
 cases a with
 |tup vs=>
  refine bT e fun k ek e=>gh e fun r' e2 e=>tT e2 fun hn e2=>?_
  apply Hq e
  apply Me xa
  intro a items hi hs
  rw[cb,not_or,decide_eq_true_eq,decide_eq_true_eq]at hn
  refine d9 (t7 ek) fun hl hh=>?_
  replace pl:=(hl)▸pl
  replace ph:=(hh)▸ph
  cases pl
  cases ph with
  |int i tu=>exact ab e2▸Cd S hi hs hn.1 hn.2
 |flist vs=>
  refine tT e fun hn e=>?_
  refine eW xa.inv fun a items hu hl hs=>?_
  exact hu▸sv S pl ph (aM hl fun o ho r=>⟨o,S.1.stays _ _ ho,r⟩) hs (aC.mp hn) e
 |ref n=>
  refine bT e fun vs ev e=>tT e fun hn e=>?_
  apply zC xa
  intro p ep
  refine iM (S.1.obj n _ p (ku ev) ep) fun z_ items hlx hv=>?_
  exact sv S pl ph hlx.isList hv (aC.mp hn) e
 |_=>exact bD e
end
section
structure lS(L b₀:Addr)(h h':Heap):Prop where
 k:∀b o,b≠L→b≠b₀→h.get? b=some o→h'.get? b=some o
 n:∀m,h.Ns L m→h'.Ns L m
 alive:∃o,h'.get? b₀=some o
theorem SR.writeL{cx:Cx}{P:bE}{st:MS}{h h':Heap}(S:SR B cx P st h){n:Nat}{p:Addr×Addr}{o:MO}{b₀:Addr}(e:P[n]?=some p)(hb:b₀=p.1∨b₀=p.2)
 (W:lS cx.env.locals b₀ h h') (x:kb B P h' p o):SR B cx P {st with hp:=st.hp.set n o} h':=by
 have foot:ke P b₀:=⟨p,ak e,hb⟩
 have hL:=S.2.offL.1
 have hk:∀a o,h.get? a=some o→imm o→h'.get? a=some o:=fun a o' ea hi=>
  W.k a o' (fun q=>by subst q;refine aM S.2.notImmL fun o2 e2 n2=>?_;rw[ea]at e2;(obtain rfl:=ab e2;clear e2);exact n2 hi)
   (fun q=>by subst q;refine aM (S.1.footAlive foot) fun o2 e2 n2=>?_;rw[ea]at e2;(obtain rfl:=ab e2;clear e2);exact n2 hi) ea
 have hlt:n < st.hp.length:=by(erw[←S.1.len]);exact(ai.mp e).1
 have kf:∀b o,ke P b→b≠b₀→h.get? b=some o→h'.get? b=some o:=fun b o f hn eb=>W.k b o (fun q=>hL (q▸f)) hn eb
 refine⟨⟨fun b o' eb=>?_,by simp[S.1.len],fun m o' q e1 e2=>?_,S.1.apart,S.1.low⟩,S.2.kind,S.2.glob,S.2.blt,S.2.kinds,?_,fun x k=>?_,S.2.cinj,S.2.offL,fun x c ec=>?_⟩
 ·refine W.k b o' (fun q=>?_) (fun q=>?_) (S.1.stays b o' eb)
  ·subst q;rw[S.2.offL.2]at eb;exact bD eb
  ·subst q;have:=S.1.footB foot;rw[this]at eb;exact bD eb
 ·by_cases hm:m=n
  ·subst hm
   rw[db hlt]at e1
   rw[e]at e2
   (obtain rfl:=ab e1;clear e1);(obtain rfl:=ab e2;clear e2)
   exact x
  ·rw[cT (fun z=>hm z.symm)]at e1
   have off:Lf p q∨Lf q p:=by
    have A:=dQ.mp S.1.apart
    obtain⟨l1,g1⟩:=ai.mp e
    obtain⟨l2,g2⟩:=ai.mp e2
    rcases Hh hm with z|z
    ·right;(erw[←g1,←g2]);exact A m n l2 l1 z
    ·left;(erw[←g1,←g2]);exact A n m l1 l2 z
   have m2:=ak e2
   refine(S.1.obj m o' q e1 e2).keep hk (cR.refl P) (fun o3 e3=>kf _ _ ⟨q,m2,.inl rfl⟩ ?_ e3) fun o3 e3=>kf _ _ ⟨q,m2,.inr rfl⟩ ?_ e3
   ·rcases off with⟨a,b,c,d⟩|⟨a,b,c,d⟩<;>rcases hb with rfl|rfl<;>first|exact a|exact b|exact c|exact d|exact bS a|exact bS b|exact bS c|exact bS d
   ·rcases off with⟨a,b,c,d⟩|⟨a,b,c,d⟩<;>rcases hb with rfl|rfl<;>first|exact a|exact b|exact c|exact d|exact bS a|exact bS b|exact bS c|exact bS d
 ·obtain⟨m,hn,hm⟩:=S.2.ns
  refine⟨m,W.n m hn,fun x mv e k=>?_⟩
  refine aM (hm x mv e k) fun v e1 e2=>?_
  exact⟨v,e1,e2.mono hk (cR.refl P)⟩
 ·obtain⟨c,v₀,e1,⟨o,ho,hd⟩,e3⟩:=S.2.cel x k
  have hc:=(S.2.offC x c e1).2.2.1
  have hc2:c≠b₀:=fun q=>(S.2.offC x c e1).1 (q▸foot)
  refine⟨c,v₀,e1,⟨o,W.k c o hc hc2 ho,hd⟩,fun mv e=>?_⟩
  obtain⟨v,⟨o',ho',hd'⟩,e5⟩:=e3 mv e
  exact⟨v,⟨o',W.k c o' hc hc2 ho',hd'⟩,e5.mono hk (cR.refl P)⟩
 ·obtain⟨a,b,d,v₀,o,ho,hd⟩:=S.2.offC x c ec
  exact⟨a,b,d,v₀,o,W.k c o d (fun q=>a (q▸foot)) ho,hd⟩
theorem jk.writeL{cx:Cx}{P:bE}{st:MS}{h h':Heap}(S:SR B cx P st h){b₀:Addr}(f:ke P b₀)(W:lS cx.env.locals b₀ h h'):jk P P h h' (sE cx.sc cx.env):=
 ⟨cR.refl P,fun b o e hf ho=>W.k b o (fun q=>ho (.inl q)) (fun q=>hf (q▸f)) e,fun b o e hi=>
  W.k b o (fun q=>by subst q;refine aM S.2.notImmL fun o2 e2 n2=>?_;rw[e]at e2;(obtain rfl:=ab e2;clear e2);exact n2 hi)
   (fun q=>by subst q;refine aM (S.1.footAlive f) fun o2 e2 n2=>?_;rw[e]at e2;(obtain rfl:=ab e2;clear e2);exact n2 hi) e,fun b o e=>by
  by_cases q:b=cx.env.locals
  ·subst q
   refine aM S.2.ns fun m hn z_=>?_
   refine vF (W.n m hn) fun o' z_ z_ ho' z_=>?_
   exact⟨o',ho'⟩
  ·by_cases q2:b=b₀
   ·subst q2;exact W.alive
   ·exact⟨o,W.k b o q q2 e⟩,fun z_ hp=>.inl hp⟩
theorem bq.writeL{cx:Cx}{P:bE}{s:Shared}{st:MS}{h':Heap}{tk:Nat}(S:SR B cx P st s.heap){n:Nat}{p:Addr×Addr}{o:MO}{b₀:Addr}(e:P[n]?=some p)(hb:b₀=p.1∨b₀=p.2)
 (W:lS cx.env.locals b₀ s.heap h') (x:(∀mv v,VR B P s.heap mv v→VR B P h' mv v)→kb B P h' p o):bq B cx P s P {s with heap:=h',toks:=tk} {st with hp:=st.hp.set n o}:=by
 have E:=jk.writeL S ⟨p,ak e,hb⟩ W
 exact⟨S.writeL e hb W (x fun z_ z_ r=>E.vr r),E,h',tk,rfl⟩
theorem lS.of_same{cx:Cx}{P:bE}{st:MS}{h h':Heap}(S:SR B cx P st h){b₀:Addr}(f:ke P b₀)(x:zk b₀ h h')(al:∃o,h'.get? b₀=some o):lS cx.env.locals b₀ h h':=
 ⟨fun b o z_ hn e=>by(erw[x.2 b hn]);exact e,fun m hn=>hn.at fun o e=>by(erw[x.2 cx.env.locals (fun(q:cx.env.locals=b₀)=>S.2.offL.1 (by(refine q.symm▸?_);exact f))]);exact e,al⟩
theorem mB{n:Nat}{o:MO}{st st':MS}{u:Unit}(e:qc n o st=some (u,st')):st'={st with hp:=st.hp.set n o}:=by
 apply AO e;rfl
theorem uu{K:Type}[DecidableEq K]{k:K}{v0 v:Value}{r:List (K×Value)}(hn:∀x∈r,x.1≠k):stored ((k,v0)::r) k v=(k,v)::r:=by
 unfold stored
 simp only[dr,decide_true,Bool.true_or,if_true,bj]
 congr 1
 conv=>rhs;rw[←List.map_id r]
 exact bL fun x hx=>if_neg (hn x hx)
theorem ut{K:Type}[DecidableEq K]{k k0:K}{v0 v:Value}{r:List (K×Value)}(hk:k0≠k):stored ((k0,v0)::r) k v=(k0,v0)::stored r k v:=by
 unfold stored
 simp only[dr,hk,decide_false,iI,bj,if_false]
 split<;>rfl
theorem ld{P:bE}{h:Heap}{k:Str}{m:MV}{v:Value}(x:VR B P h m v){es es':List (MV×MV)}{kvs:List (Str×Value)}(p:dF B P h es kvs):(kvs.map (·.1)).Nodup→l6 (.str k) m es=some es'→dF B P h es' (stored kvs k v):=by
 induction p generalizing es' with
 |nil=>exact fun z_ e=>ab e▸.cons x .nil
 | @cons k0 m0 v0 r r' a b ih=>
  intro nd e
  rw[bj,cL]at nd
  unfold l6 at e
  by_cases hk:k0=k
  ·rw[show iE (.str k0) (.str k)=some true from congrArg some (beq_iff_eq.mpr hk)]at e
   (erw[←hk,uu (fun y hy q=>nd.1 (aU.mpr ⟨y,hy,q⟩))])
   exact ab e▸.cons x b
  ·rw[show iE (.str k0) (.str k)=some false from congrArg some (beq_eq_false_iff_ne.mpr hk)]at e
   refine gh e fun r2 e1 e2=>?_
   (erw[ut hk])
   exact e2▸.cons a (ih nd.2 e1)
theorem lf{P:bE}{h:Heap}{k:Int}{m:MV}{v:Value}(x:VR B P h m v){es es':List (MV×MV)}{kvs:List (Int×Value)}(p:dj B P h es kvs):(kvs.map (·.1)).Nodup→l6 (.int k) m es=some es'→dj B P h es' (stored kvs k v):=by
 induction p generalizing es' with
 |nil=>exact fun z_ e=>ab e▸.cons x .nil
 | @cons k0 m0 v0 r r' a b ih=>
  intro nd e
  rw[bj,cL]at nd
  unfold l6 at e
  by_cases hk:k0=k
  ·rw[show iE (.int k0) (.int k)=some true from congrArg some (beq_iff_eq.mpr hk)]at e
   (erw[←hk,uu (fun y hy q=>nd.1 (aU.mpr ⟨y,hy,q⟩))])
   exact ab e▸.cons x b
  ·rw[show iE (.int k0) (.int k)=some false from congrArg some (beq_eq_false_iff_ne.mpr hk)]at e
   refine gh e fun r2 e1 e2=>?_
   (erw[ut hk])
   exact e2▸.cons a (ih nd.2 e1)
theorem u6{P:bE}{h:Heap}{k:Str}{m:MV}{es es':List (MV×MV)}{kvs:List (Int×Value)}(p:dj B P h es kvs)(e:l6 (.str k) m es=some es'):kvs=[]∧es=[]:=by
 cases p with
 |nil=>exact⟨rfl,rfl⟩
 |cons a b=>exact bD e
theorem u5{P:bE}{h:Heap}{k:Int}{m:MV}{es es':List (MV×MV)}{kvs:List (Str×Value)}(p:dF B P h es kvs)(e:l6 (.int k) m es=some es'):kvs=[]∧es=[]:=by
 cases p with
 |nil=>exact⟨rfl,rfl⟩
 |cons a b=>exact bD e
theorem lL{K:Type}[DecidableEq K]{knd:cS aQ w K}{h:Heap}{a:Addr}{kvs:List (K×Value)}(x:h.DictOf knd a kvs):(kvs.map (·.1)).Nodup:=by
 obtain⟨o,es,ep,ho,hx,hd,hk,hp,hn⟩:=x
 exact hn
theorem jL{K:Type}[DecidableEq K]{knd:cS aQ w K}{h:Heap}{a:Addr}{kvs:List (K×Value)}(x:h.DictOf knd a kvs):∃o,h.get? a=some o:=by
 (refine vF x fun o es ep ho z_=>?_;clear x)
 exact⟨o,ho⟩
noncomputable abbrev qW(B:Heap)(cx:Cx)(P:bE)(s:Shared)(st':MS){α:Type}:α→Shared→Prop:=fun z_ s'=>∃P',bq B cx P s P' s' st'
theorem dF.map{P:bE}{h h':Heap}(hm:∀mv v,VR B P h mv v→VR B P h' mv v){es kvs}(x:dF B P h es kvs):dF B P h' es kvs:=by
 induction x with
 |nil=>exact .nil
 |cons a _ ih=>exact .cons (hm _ _ a) ih
theorem dj.map{P:bE}{h h':Heap}(hm:∀mv v,VR B P h mv v→VR B P h' mv v){es kvs}(x:dj B P h es kvs):dj B P h' es kvs:=by
 induction x with
 |nil=>exact .nil
 |cons a _ ih=>exact .cons (hm _ _ a) ih
theorem xt{cx:Cx}{c:MV}{z:Value}{st:MS}{P:bE}{s:Shared}{n:Nat}{p:Addr×Addr}{vs:List MV}{k:Int}{t:Tok}(S:SR B cx P st s.heap)(ep:P[n]?=some p)(eo:st.hp[n]?=some (.list vs))(h0:¬k < 0)(hb:¬big k=true)(hlen:¬vs.length≤k.toNat)(xc:VR B P s.heap c z){A:Around}:
 wpAny (model aQ w) A (setItem (.ref p.1) (.int k t) z) (qW B cx P s {st with hp:=st.hp.set n (.list (vs.set k.toNat c))}) eP s:=by
 have hmem:=ak ep
 refine iM (S.1.obj n _ p eo ep) fun hpp items hlx hv=>?_
 refine fH hlx fun nn hlx=>?_
 have up:=rl hlx (·.setIfInBounds k.toNat z)
 refine PySem.W.ki_setAt hlx (fu.mp h0) (Aq h0 hb) (by(erw[aP,←hv.length]);exact(Int.toNat_lt (fu.mp h0)).mp (wU.mp hlen)) ⟨P,?_⟩
 have W:lS cx.env.locals p.1 s.heap _:=.of_same S ⟨p,hmem,.inl rfl⟩ (DO ..) ⟨_,up⟩
 exact bq.writeL (tk:=s.toks) S ep (.inl rfl) W fun z_=>⟨hpp,items.set k.toNat z,⟨_,by rw[List.setIfInBounds_toArray]at up;exact up⟩,(jk.writeL S ⟨p,hmem,.inl rfl⟩ W).vrs (dy.set xc _ hv)⟩
theorem jF{cx:Cx}{v z:Value}{st:MS}{P:bE}{s:Shared}{n:Nat}{p:Addr×Addr}{es':List (MV×MV)}(S:SR B cx P st s.heap)(ep:P[n]?=some p){K:Type}[DecidableEq K](knd:cS aQ w K){kk:K}{kvs:List (K×Value)}(hk:knd.is kk v=true)(hd:s.heap.DictOf knd p.1 kvs)(hz:kvs.length≤1000)
 (ho:∀h',h'.DictOf knd p.1 (stored kvs kk z)→(∀mv v,VR B P s.heap mv v→VR B P h' mv v)→kb B P h' p (.dict es')) {A:Around}:
 wpAny (model aQ w) A (setItem (.ref p.1) v z) (qW B cx P s {st with hp:=st.hp.set n (.dict es')}) eP s:=by
 refine wpAny_setItem_pairs hk hd (fun h' hd' hs=>⟨P,?_⟩) (ah hz (by decide))
 have W:lS cx.env.locals p.1 s.heap h':=.of_same S ⟨p,ak ep,.inl rfl⟩ hs (jL hd')
 exact bq.writeL (tk:=s.toks+1) S ep (.inl rfl) W fun hm=>ho h' hd' hm
theorem xy{cx:Cx}{b c:MV}{v z:Value}{st:MS}{P:bE}{s:Shared}{n:Nat}{p:Addr×Addr}{es es':List (MV×MV)}(S:SR B cx P st s.heap)(ep:P[n]?=some p)(eo:st.hp[n]?=some (.dict es))(hkey:i9 b=true)(e1:l6 b c es=some es')(hsz:¬1000 < es.length)(xb:VR B P s.heap b v)(xc:VR B P s.heap c z){A:Around}:
 wpAny (model aQ w) A (setItem (.ref p.1) v z) (qW B cx P s {st with hp:=st.hp.set n (.dict es')}) eP s:=by
 refine d9 (S.1.obj n _ p eo ep) fun hpp hd=>?_
 cases b with
 |str y=>
  apply Ej xb
  intro t
  rcases hd with⟨kvs,hd,hv⟩|⟨kvs,hd,hv⟩
  ·exact jF S ep (strKind aQ w) (strKind_is aQ w y t) hd (hv.length▸aC.mp hsz) fun h' hd' hm=>⟨hpp,.inl ⟨_,hd',(ld xc hv (lL hd) e1).map hm⟩⟩
  ·obtain⟨rfl,rfl⟩:=u6 hv e1
   exact jF S ep (strKind aQ w) (strKind_is aQ w y t) (lM hd) (jM _) fun h' hd' hm=>⟨hpp,.inl ⟨_,hd',(ld xc .nil dp e1).map hm⟩⟩
 |int y=>
  apply mE xb
  intro t
  rcases hd with⟨kvs,hd,hv⟩|⟨kvs,hd,hv⟩
  ·obtain⟨rfl,rfl⟩:=u5 hv e1
   exact jF S ep (intKind aQ w) (intKind_is aQ w y t) (lM hd) (jM _) fun h' hd' hm=>⟨hpp,.inr ⟨_,hd',(lf xc .nil dp e1).map hm⟩⟩
  ·exact jF S ep (intKind aQ w) (intKind_is aQ w y t) hd (hv.length▸aC.mp hsz) fun h' hd' hm=>⟨hpp,.inr ⟨_,hd',(lf xc hv (lL hd) e1).map hm⟩⟩
 |_=>exact Bool.noConfusion hkey
theorem xx{cx:Cx}(hB:∃o,B.get? sysModules=some o){a b c:MV}{x:Unit}{u v z:Value}{st st':MS}{P:bE}{s:Shared}(e:fE a b c st=some (x,st'))(S:SR B cx P st s.heap)(xa:VR B P s.heap a u)(xb:VR B P s.heap b v)
 (xc:VR B P s.heap c z) {A:Around}:wpAny (model aQ w) A (setItem u v z) (qW B cx P s st') eP s:=by
 unfold fE at e
 cases a with
 |ref n=>
  apply zC xa
  intro p ep
  dsimp only at e
  refine E9 (o:=st.hp[n]?) (fun eo=>?_) fun o eo=>?_
  ·rw[eo]at e;exact bD e
  rw[eo]at e
  cases o with
  |inst=>exact bD e
  |list vs=>
   refine bT e fun k ek e=>tT e fun h0 e=>tT e fun hb e=>tT e fun hlen e=>?_
   have xb:=cO ek▸xb
   apply mE xb
   intro t
   have es:=mB e
   exact es▸xt S ep eo h0 hb hlen xc
  |dict es=>
   refine nY e fun hkey e=>bT e fun es' e1 e2=>tT e2 fun hsz e2=>?_
   exact mB e2▸xy S ep eo hkey e1 hsz xb xc
 |_=>exact bD e
end
section
noncomputable def G9(B:Heap)(C:Addr)(a:Str):Prop:=∃K:Frag,K.In B∧findIn K (.ref C) "__getattribute__"=some (some (.builtin "object.__getattribute__"))∧findIn K (.ref C) a=some none∧hasDictIn K C=true∧
 findIn K (.ref C) "__setattr__"=some (some (.builtin "object.__setattr__"))∧plainOver K C=true
theorem yC{P:bE}{h:Heap}{a:Str}{fs:List (Str×MV)}{es:List DictEntry}{m:MV}(f:mO B P h fs es):Mine.gv a fs=some m→∃v,j6 a es=some (some v)∧VR B P h m v:=by
 induction f with
 |nil=>exact fun e=>bD e
 | @cons x m0 t hs v r r' y b ih=>
  intro e
  unfold Mine.gv at e
  by_cases hx:x=a
  ·rw[if_pos hx]at e
   refine⟨v,?_,ab e▸y⟩
   unfold j6
   rw[List.find?_cons_of_pos (by show(x==a)=true;rw[hx];exact beq_self_eq_true a)]
  ·rw[if_neg hx]at e
   refine aM (ih e) fun v' e1 e2=>?_
   refine⟨v',?_,e2⟩
   unfold j6 at e1 ⊢
   rw[zg (by show¬(x==a)=true;exact fun q=>hx (eq_of_beq q)),dr]
   exact e1
theorem yB{P:bE}{h:Heap}{a:Str}{fs:List (Str×MV)}{es:List DictEntry}(f:mO B P h fs es):Mine.gv a fs=none→j6 a es=some none:=by
 induction f with
 |nil=>exact fun z_=>rfl
 | @cons x m0 t hs v r r' y b ih=>
  intro e
  unfold Mine.gv at e
  by_cases hx:x=a
  ·rw[if_pos hx]at e;exact bD e.symm
  ·rw[if_neg hx]at e
   have e1:=ih e
   unfold j6 at e1 ⊢
   rw[zg (by show¬(x==a)=true;exact fun q=>hx (eq_of_beq q)),dr]
   exact e1
theorem FY{P:bE}{h:Heap}{a:Str}{fs:List (Str×MV)}{es:List DictEntry}(f:mO B P h fs es):(j6 a es).isSome=true:=by
 cases e:Mine.gv a fs with
 |none=>(erw[yB f e]);rfl
 |some m=>refine aM (yC f e) fun v e1 z_=>?_;(erw[e1]);rfl
theorem KA{P:bE}{h:Heap}{a:Str}{hs:Int}{t:Tok}{m:MV}{v:Value}(x:VR B P h m v){fs:List (Str×MV)}{es:List DictEntry}(f:mO B P h fs es):mO B P h (jf a m fs) (putL a hs (.str a t) v es):=by
 induction f with
 |nil=>exact .cons x .nil
 | @cons y m0 t0 hs0 v0 r r' z b ih=>
  unfold jf putL
  by_cases hy:y=a
  ·rw[if_pos hy,if_pos (by show(y==a)=true;rw[hy];exact beq_self_eq_true a)]
   exact .cons x b
  ·rw[if_neg hy,if_neg (by show¬(y==a)=true;exact fun q=>hy (eq_of_beq q))]
   exact .cons z ih
theorem mO.length{P:bE}{h:Heap}{fs:List (Str×MV)}{es:List DictEntry}(x:mO B P h fs es):fs.length=es.length:=by
 induction x with
 |nil=>rfl
 |cons _ _ ih=>exact congrArg Nat.succ ih
theorem xu{α:Type}{x:Str}{v:α}:∀(l:List (Str×α)),(jf x v l).length≤l.length+1
 |[]=>by simp[jf]
 |(y,u)::r=>by
  unfold jf
  split
  ·simp
  ·have:=xu (x:=x) (v:=v) r
   simp only[dU];exact gB ‹_›
theorem mO.map{P P':bE}{h h':Heap}(hm:∀mv v,VR B P h mv v→VR B P' h' mv v){fs:List (Str×MV)}{es:List DictEntry}(x:mO B P h fs es):mO B P' h' fs es:=by
 induction x with
 |nil=>exact .nil
 |cons a _ ih=>exact .cons (hm _ _ a) ih
theorem yu{cx:Cx}{tb:Tb}(hF:∀C a,tb.fld C a=true→G9 B C a){o:MV}{a:Str}{r:MV}{u:Value}{st:MS}{P:bE}{s:Shared}(e:aN tb st.hp o a=some r)(S:SR B cx P st s.heap)(xo:VR B P s.heap o u)
 {A:Around}:wpAny (model aQ w) A (getAttr u a true) (fun z s'=>∃P',bq B cx P s P' s' st∧VR B P' s'.heap r z) eP s:=by
 unfold aN at e
 set_option tactic.hygienic true in split at e
 ·rename_i n
  set_option tactic.hygienic true in split at e
  ·rename_i C fs eo
   set_option tactic.hygienic true in split at e
   ·rename_i hf
    (refine aM xo.inv fun p q_ ep=>?_;clear xo;first|apply d6 q_|apply dE q_);next=>
     refine oN (S.1.obj n _ p eo ep) fun hne es n' h1 h2 hv=>?_
     obtain⟨K,hK,g1,g2,g3,g4,g5⟩:=hF C a hf
     refine aM (yC hv e) fun v e1 e2=>?_
     have X:K.In s.heap:=fun x ob q=>S.1.stays _ _ (hK x ob q)
     exact get_value (od:=some (dictOf es n')) X ⟨h1,rfl,rfl,h2⟩ g1 (findObj_own (attr:=none) g3 g2 rfl e1) e2.handed ⟨P,bq.toks S,e2⟩
   ·exact bD e
  ·exact bD e
 ·exact bD e
theorem xz{cx:Cx}{tb:Tb}(hF:∀C a,tb.fld C a=true→G9 B C a){o m:MV}{a:Str}{x:Unit}{u v:Value}{st st':MS}{P:bE}{s:Shared}(e:dY tb o a m st=some (x,st'))(S:SR B cx P st s.heap)(xo:VR B P s.heap o u)(xm:VR B P s.heap m v)
 {A:Around}:wpAny (model aQ w) A (setAttr u a v) (qW B cx P s st') eP s:=by
 unfold dY at e
 set_option tactic.hygienic true in split at e
 ·rename_i n
  set_option tactic.hygienic true in split at e
  ·rename_i C fs eo
   set_option tactic.hygienic true in split at e
   ·exact bD e
   rename_i hsz
   set_option tactic.hygienic true in split at e
   ·rename_i hf
    have est:=mB e
    apply d6 est
    (refine aM xo.inv fun p q_ ep=>?_;clear xo;first|apply d6 q_|apply dE q_);next=>
     refine oN (S.1.obj n _ p eo ep) fun hne es n' h1 h2 hv=>?_
     obtain⟨K,hK,g1,g2,g3,g4,g5⟩:=hF C a hf
     have X:K.In s.heap:=fun x ob q=>S.1.stays _ _ (hK x ob q)
     have I:InstAt s.heap p.1 (instObj C p.2) C (some (dictOf es n')):=⟨h1,rfl,rfl,h2⟩
     have hmem:=ak ep
     refine aM S.2.ns fun mm hm z_=>?_
     have hL:p.2≠cx.env.locals:=fun q=>S.2.offL.1 ⟨p,hmem,.inr q.symm⟩
     refine eW (zL hL h2) fun pre post en a1 a2=>?_
     have N:=iT s.heap cx.env.locals
     rw[en]at N
     have hlen:=hv.length
     have hlen2:=xu (x:=a) (v:=m) fs
     have hput:=KA (a:=a) (hs:=PyData.keyHash w.params a) (t:=s.toks+1) xm hv
     have hlen3:=hput.length
     refine set_plain X I g4 (osa_dict (s:={s with toks:=s.toks+1}) (wy hm) N X I rfl g5 (by unfold takerIn;(erw[g2]);rfl) g3 (FY hv) a1 a2 (putName_dict _ _ _ _ _ _) rfl (show(putL a (PyData.keyHash w.params a) (.str a (s.toks+1)) v es).length≤1000 from by lia) fun h' F N'=>⟨P,?_⟩)
     have W:lS cx.env.locals p.2 s.heap h':=⟨fun b o hb hb2 eb=>by
      have hmm:(b,o)∈kG s.heap cx.env.locals:=iA.mpr ⟨hb,eb⟩
      rw[en]at hmm
      refine(N' (b,o) ?_).1
      rcases aH.mp hmm with q|q
      ·exact nV _ q
      ·rcases aF.mp q with q|q
       ·cases q;exact absurd rfl hb2
       ·exact gX _ (br _ q),fun m' hm'=>by
      have:m'=mm:=funext fun x=>hm'.agree hm x
      (erw[this]);exact F.ns,⟨_,(N' _ (gX _ (.head _))).1⟩⟩
     refine bq.writeL (tk:=s.toks+1+1) S ep (.inr rfl) W fun hmono=>⟨hne,_,_,W.k _ _ (fun q=>S.2.offL.1 ⟨p,hmem,.inl q.symm⟩) hne h1,(N' _ (gX _ (.head _))).1,hput.map hmono⟩
   ·exact bD e
  ·exact bD e
 ·exact bD e
end
section
noncomputable def iB(e:Expr):Bool:=fY e.ctorIdx 22
theorem pV{e:Expr}{rest:List Expr}{env:Env}(h:iB e=false):starEach (e::rest) env=(false,eval e env)::starEach rest env:=by
 cases e<;>first|rfl|exact Bool.noConfusion h
theorem tw{pos:Pos}{env:Env}:∀{es:List Expr},(∀e∈es,iB e=false)→(backTo pos (starEach es env)).any (·.1)=false
 |[],_=>rfl
 |e::r,h=>by
  (erw[pV (h e (.head _))])
  show(false||(backTo pos (starEach r env)).any (·.1))=false
  (erw[tw fun x hx=>h x (.tail _ hx)]);rfl
noncomputable def Tv(B:Heap)(f:Scope→Expr→MM MV):Prop:=∀(cx:Cx) (e:Expr),fz B cx (eval e cx.env) (f cx.sc e) (RV B)
theorem pB{f:Expr→MM MV}(hs:∀e,iB e=true→f e=bP):∀{es:List Expr}{st st':MS}{vs:List MV},Bs f es st=some (vs,st')→∀e∈es,iB e=false
 |[],_,_,_,_=>fun z_ h=>by cases h
 |e::r,st,st',vs,h=>by
  refine fV h fun v s1 h1 h2=>?_
  refine fV h2 fun vs' s2 h3 h4=>?_
  have ih:=pB hs h3
  intro x hx
  rcases aF.mp hx with rfl|hx
  ·cases hh:iB x with
   |false=>rfl
   |true=>rw[hs x hh]at h1;exact bD h1
  ·exact ih x hx
theorem oX{cx:Cx}{f:Expr→MM MV}(hf:∀e,fz B cx (eval e cx.env) (f e) (RV B))(hs:∀e,iB e=true→f e=bP)(pos:Pos):∀es,fz B cx (spliced (backTo pos (starEach es cx.env))) (Bs f es) (TB B)
 |[]=>fun st a st' h P s S=>by
  apply kH h
  exact args_nil ⟨P,bq.refl S,.nil⟩
 |e::r=>fun st a st' h P s S=>by
  have hall:=pB hs h
  refine fV h fun v s1 h1 h2=>?_
  refine fV h2 fun vs' s2 h3 h4=>?_
  apply kH h4
  refine args_cons ((hf e).use h1 S fun u P₁ s₁ x₁ r₁=>?_) (pV (hall e (.head _)))
  refine(oX hf hs pos r).use h3 x₁.sr fun us P₂ s₂ x₂ r₂=>⟨P₂,x₁.trans x₂,.cons (x₂.ext.vr r₁) r₂⟩
noncomputable def kB(M:Model)(f:Value)(G:Heap→Prop):Prop:=∀h,G h→∃k,(k=Keeper.frame∨k=Keeper.machine∨k=Keeper.boundFrame)∧Looks M h (keeperOf f) k
theorem nR{M:Model}{id:String}{G:Heap→Prop}:kB M (.builtin id) G:=fun h z_=>⟨.machine,.inr (.inl rfl),Looks.now⟩
theorem sP{M:Model}{id:String}{G:Heap→Prop}:kB M (.type id) G:=fun h z_=>⟨.machine,.inr (.inl rfl),Looks.now⟩
theorem lP{cx:Cx}{f:Expr→MM MV}(hf:∀e,fz B cx (eval e cx.env) (f e) (RV B))(hs:∀e,iB e=true→f e=bP){pos:Pos}{es:List Expr}{fn:Value}{first:List Value}{G:Heap→Prop}(hk:kB (model aQ w) fn G)
 {st st':MS}{vs:List MV}(h:Bs f es st=some (vs,st')) {P:bE}{s:Shared}(S:SR B cx P st s.heap) {Q:Value→Shared→Prop}
 (k:∀us P₁ s₁,bq B cx P s P₁ s₁ st'→dy B P₁ s₁.heap vs us→G s₁.heap∧wpAny (model aQ w) cx.A (call fn (first++us)) Q eP s₁):
 wpAny (model aQ w) cx.A (callWith pos fn first (backTo pos (starEach es cx.env)) []) Q eP s:=by
 have hall:=pB hs h
 refine callWith_of (P:=G) (by(erw[tw hall]);rfl) hk ?_
 have key:wpAny (model aQ w) cx.A (spliced (backTo pos (starEach es cx.env))) (fun us s₁=>G s₁.heap∧wpAny (model aQ w) cx.A (call fn (first++us)) Q eP s₁) eP s:=
  (oX hf hs pos es).use h S fun us P₁ s₁ x r=>k us P₁ s₁ x r
 cases es with
 |nil=>exact evalArgs_nil3 (by
  have h0:=h
  (refine d9 (jg h0) fun q0_ q1_=>?_;subst q0_;subst q1_)
  exact k [] P s (bq.refl S) .nil)
 |cons e r=>
  rw[pV (hall e (.head _))]at key ⊢
  exact evalArgs_plain key
noncomputable abbrev gJ(B:Heap)(cx:Cx)(P:bE)(s:Shared)(st':MS)(r:MV):Value→Shared→Prop:=fun z s'=>∃P',bq B cx P s P' s' st'∧VR B P' s'.heap r z
theorem HI{n:Nat}(h:¬gj n=true):(n:Int) < 2^63:=by
 unfold gj at h
 simp only[decide_eq_true_eq,aC]at h
 have e:(2:Int)^63=9223372036854775808:=by decide
 omega
theorem mV{n:Nat}(h:¬gj n=true):n≤sizeLine:=by
 unfold gj at h
 simp only[decide_eq_true_eq,aC]at h
 exact ah h (by decide)
theorem Kf{cx:Cx}(hB:∃o,B.get? sysModules=some o){a:MV}{n:Nat}{u:Value}{st:MS}{P:bE}{s:Shared}(e:kW st.hp a=some n)(hm:¬gj n=true)(S:SR B cx P st s.heap)(xa:VR B P s.heap a u){A:Around}:
 wpAny (model aQ w) A (call (.builtin "len") [u]) (gJ B cx P s st (.int n)) eP s:=by
 have h63:=HI hm
 unfold kW at e
 set_option tactic.hygienic true in split at e
 ·rename_i m
  (refine aM xa.inv fun p_ q_ ep=>?_;clear xa;first|apply d6 q_|apply dE q_);next=>
   set_option tactic.hygienic true in split at e
   ·rename_i vs eo
    (obtain rfl:=ab e;clear e)
    refine iM (S.1.obj _ _ _ eo ep) fun z_ items hl hv=>?_
    have hlen:=hv.length
    refine Calls.call_len_list hl.isList (by(erw[aP,←hlen]);exact h63) ⟨P,bq.toks S,?_⟩
    (erw[aP,←hlen]);exact .int _ _
   ·rename_i es eo
    (obtain rfl:=ab e;clear e)
    have hs:=nj S.1 hB ep
    refine d9 (S.1.obj _ _ _ eo ep) fun z_ hd=>?_
    rcases hd with⟨kvs,hd,hv⟩|⟨kvs,hd,hv⟩
    ·have hlen:=hv.length
     refine call_len_dict hs hd (by(erw[←hlen]);exact h63) ⟨P,bq.toks S,?_⟩
     (erw[←hlen]);exact .int _ _
    ·have hlen:=hv.length
     refine call_len_dict hs hd (by(erw[←hlen]);exact h63) ⟨P,bq.toks S,?_⟩
     (erw[←hlen]);exact .int _ _
   ·exact bD e
 ·(obtain rfl:=ab e;clear e)
  (refine eW xa.inv fun a_ items_ q_ hi hv=>?_;clear xa;first|apply d6 q_|apply dE q_);next=>
   have hlen:=hv.length
   refine PyProof.Rows.len_tuple hi (by(erw[aP,←hlen]);exact h63) ⟨P,bq.toks S,?_⟩
   (erw[aP,←hlen]);exact .int _ _
 ·rename_i x0
  (obtain rfl:=ab e;clear e)
  (refine fH xa.inv fun t q_=>?_;clear xa;first|apply d6 q_|apply dE q_);next=>exact PyProof.Rows.len_str (by show¬((x0.cps.size:Int)≥2^63);omega) ⟨P,bq.toks S,.int _ _⟩
 ·exact bD e
theorem Be{cx:Cx}{P:bE}{s:Shared}{st:MS}{h':Heap}{k:Nat}{a:Addr}{vs:List MV}{items:List Value}(S:SR B cx P st s.heap)(g:cA cx.env.locals s.heap h')(ht:IsTup h' a items.toArray)(hv:dy B P s.heap vs items):
 ∃P',bq B cx P s P' {s with heap:=h',toks:=k} st∧VR B P' h' (.tup vs) (.ref a):=⟨P,bq.growL S g,.tup ht ((jk.growL S g).vrs hv)⟩
theorem nQ{H:MH}{a:MV}{l:List MV}(e:cy H a=some l):∃n,a=.ref n∧H[n]?=some (.list l):=by
 unfold cy at e
 set_option tactic.hygienic true in split at e
 ·rename_i n
  set_option tactic.hygienic true in split at e
  ·rename_i vs eo;(obtain rfl:=ab e;clear e);exact⟨n,rfl,eo⟩
  ·exact bD e
 ·exact bD e
theorem B1{cx:Cx}{a:MV}{l:List MV}{u:Value}{st:MS}{P:bE}{s:Shared}(e:cy st.hp a=some l)(hm:¬gj l.length=true)(S:SR B cx P st s.heap)(xa:VR B P s.heap a u){A:Around}:
 wpAny (model aQ w) A (call (.type "tuple") [u]) (gJ B cx P s st (.tup l)) eP s:=by
 (refine aM (nQ e) fun n q0_ eo=>?_;subst q0_)
 (refine aM xa.inv fun p_ q_ ep=>?_;clear xa;first|apply d6 q_|apply dE q_);next=>
  refine iM (S.1.obj _ _ _ eo ep) fun z_ items hl hv=>?_
  have hlen:=hv.length
  refine call_tuple_list hl.isList (fun h' k=>?_) (by(erw[aP,←hlen]);exact mV hm)
  exact Be (k:=s.toks) S (cA.ofGrow fun b o q=>cr _ b o (k b o q)) ⟨_,bi _ rfl,rfl,_,rfl⟩ hv
theorem dy.of_get{P:bE}{h:Heap}:∀{ms:List MV}{vs:List Value},ms.length=vs.length→(∀(j:Nat) m v,ms[j]?=some m→vs[j]?=some v→VR B P h m v)→dy B P h ms vs
 |[],[],_,_=>.nil
 |[],_::_,e,_=>by simp at e
 |_::_,[],e,_=>by simp at e
 |m::ms,v::vs,e,k=>.cons (k 0 m v (by simp) (by simp)) (dy.of_get (by simpa using e) fun j m' v' e1 e2=>k (j+1) m' v' (by simpa using e1) (by simpa using e2))
theorem oi(a b:Int):Builtin.Range.rangeSize a b 1=((b - a).toNat:Int):=by
 rw[rangeSize_one]
 split<;>omega
theorem CL(a:Int):∀n:Nat,((aE n).map fun(i:Nat)=>MV.int (a+(i:Int))).length=n:=fun n=>by simp
theorem Bz{a:Int}(h:¬big a=true): -(2^62) < a∧a < 2^62:=by
 have:=mN h
 have h2:((2^62:Nat):Int)=2^62:=by decide
 omega
theorem xn{a b:Int}(ha:¬big a=true)(hb:¬big b=true):zl a b 1=true:=by
 have h1:=Bz ha
 have h2:=Bz hb
 have e1:(2:Int)^62=4611686018427387904:=by decide
 rw[e1]at h1 h2
 unfold zl
 rw[oi]
 have fit:∀x:Int, -9223372036854775808≤x→x < 9223372036854775808→rM x=true:=fun x p q=>by
  unfold rM
  have e2:(2:Int)^63=9223372036854775808:=by decide
  (erw[e2])
  simp[p,q]
 rw[fit a (by omega) (by omega),fit b (by omega) (by omega),fit 1 (by lia) (by omega),fit _ (by lia) (by omega),if_pos (by decide),fit _ (by omega) (by omega)]
 exact gN _
theorem Fo{cx:Cx}{a:MV}{l:List MV}{u:Value}{r:MV}{st st':MS}{P:bE}{s:Shared}(e:jI st.hp a=some l)(hm:¬gj l.length=true)(em:d0 (.list l) st=some (r,st'))(S:SR B cx P st s.heap)(xa:VR B P s.heap a u){A:Around}(hh:A.handled=none):
 wpAny (model aQ w) A (call (.type "list") [u]) (gJ B cx P s st' r) eP s:=by
 (refine d9 (dJ em) fun q0_ q1_=>?_;apply d6 q0_;apply d6 q1_)
 unfold jI at e
 have seq:∀{it:Addr}{T:String}{o:Obj}{items:List Value}{n:Nat},T="list"∨T="tuple"→s.heap.get? it=some o→o.cls=.type T→o.data=.seq items.toArray n→dy B P s.heap l items→
  wpAny (model aQ w) A (call (.type "list") [.ref it]) (gJ B cx P s {st with hp:=st.hp++[.list l]} (.ref st.hp.length)) eP s:=by
  intro it T o items n hT ho hc hd hv
  have hlen:=hv.length
  refine call_list_seq it hT ho hc hd (fun h' c' k hx=>?_) (by(erw[aP,←hlen]);exact mV hm)
  exact⟨_,bq.newL (k:=s.toks) S (cA.ofGrow k) cA.sizeNone ⟨c',hx⟩ hv,iU S⟩
 set_option tactic.hygienic true in split at e
 ·rename_i n
  set_option tactic.hygienic true in split at e
  ·rename_i vs eo
   (obtain rfl:=ab e;clear e)
   (refine aM xa.inv fun p_ q_ ep=>?_;clear xa;first|apply d6 q_|apply dE q_);next=>
    refine iM (S.1.obj _ _ _ eo ep) fun z_ items hl hv=>?_
    refine fH hl fun k hl=>?_
    exact seq (.inl rfl) hl rfl rfl hv
  ·exact bD e
 ·(obtain rfl:=ab e;clear e)
  (refine eW xa.inv fun a_ items_ q_ hi hv=>?_;clear xa;first|apply d6 q_|apply dE q_);next=>
   (refine mh hi fun o ho hc n hd=>?_;clear hi)
   exact seq (.inr rfl) ho hc hd hv
 ·rename_i a b
  set_option tactic.hygienic true in split at e
  ·exact bD e
  rename_i hb
  simp only[cb,not_or,decide_eq_true_eq,fu]at hb
  (obtain rfl:=ab e;clear e)
  have b1:=mN hb.1.1
  have b2:=mN hb.1.2
  (refine oK xa.inv fun r_ t_ u_ y_ q_ hr=>?_;clear xa;first|apply d6 q_|apply dE q_);next=>
   refine call_list_range hh hr ?_ (n:=(b - a).toNat) ?_ (by omega) fun h' tk acc c' k hx hi=>?_
   ·exact xn hb.1.1 hb.1.2
   ·exact oi a b
   ·refine⟨_,bq.newL (k:=tk) (items:=acc.toList) S (cA.ofGrow k) cA.sizeNone ⟨c',by simpa using hx⟩ ?_,iU S⟩
    refine dy.of_get (by(rw[CL];erw[BU,hi.1];with_reducible rfl)) fun j m v e1 e2=>?_
    (refine fH (hi.2 j v (by(refine(zm)▸?_);exact e2)) fun t q0_=>?_;first|apply dE q0_|apply d6 q0_)
    rw[aq]at e1
    obtain⟨i,e3,rfl⟩:=az.mp e1
    have:i=j:=by
     obtain⟨hl,e4⟩:=ai.mp e3
     rw[List.getElem_range]at e4
     exact e4.symm
    apply dE this
    rw[Int.mul_one]
    exact .int _ t
 ·exact bD e
end
theorem oQ{α:Type}{r:α→α→Prop}(anti:∀a b,r a b→r b a→a=b):∀{a b:List α},a.Perm b→a.Pairwise r→b.Pairwise r→a=b
 |[],_,p,_,_=>p.nil_eq
 |x::t,b,p,ha,hb=>by
  cases b with
  |nil=>exact absurd p.length_eq (by simp)
  |cons y u=>
   have hx:x∈y::u:=p.mem_iff.mp (.head _)
   have hy:y∈x::t:=p.mem_iff.mpr (.head _)
   have e:x=y:=by
    rcases aF.mp hx with h|h
    ·exact h
    ·rcases aF.mp hy with h'|h'
     ·exact h'.symm
     ·exact anti x y ((bz.mp ha).1 y h') ((bz.mp hb).1 x h)
   subst e
   (erw[oQ anti (List.Perm.cons_inv p) (bz.mp ha).2 (bz.mp hb).2];with_reducible rfl)
theorem qj(i:Int):∀l,(tY i l).Perm (i::l)
 |[]=>.refl _
 |j::r=>by
  unfold tY
  split
  ·exact .refl _
  ·exact((qj i r).cons j).trans (.swap i j r)
theorem lC:∀l,(jR l).Perm l
 |[]=>.refl _
 |i::r=>by exact(qj i _).trans ((lC r).cons i)
theorem qQ(i:Int):∀{l:List Int},l.Pairwise (· ≤ ·)→(tY i l).Pairwise (· ≤ ·)
 |[],_=>by exact bX _ _
 |j::r,h=>by
  unfold tY
  have h1:=bz.mp h
  set_option tactic.hygienic true in split
  ·rename_i hij
   refine bz.mpr ⟨fun x hx=>?_,h⟩
   rcases aF.mp hx with rfl|hx
   ·exact hij
   ·exact kh hij (h1.1 x hx)
  ·rename_i hij
   refine bz.mpr ⟨fun x hx=>?_,qQ i h1.2⟩
   rcases aF.mp ((qj i r).mem_iff.mp hx)with rfl|hx
   ·lia
   ·exact h1.1 x hx
theorem lB:∀l,(jR l).Pairwise (· ≤ ·)
 |[]=>.nil
 |i::r=>by exact qQ i (lB r)
noncomputable abbrev LZ(a b:Str):Prop:=a.cps.toList≤b.cps.toList
theorem yb(a b:Str)(h:LZ a b)(k:LZ b a):a=b:=by
 have e:=List.le_antisymm h k
 cases a;cases b
 congr 1
 exact Hl.mp e
theorem qi(i:Str):∀l,(tX i l).Perm (i::l)
 |[]=>.refl _
 |j::r=>by
  unfold tX
  split
  ·exact .refl _
  ·exact((qi i r).cons j).trans (.swap i j r)
theorem lA:∀l,(oW l).Perm l
 |[]=>.refl _
 |i::r=>by exact(qi i _).trans ((lA r).cons i)
theorem qP(i:Str):∀{l:List Str},l.Pairwise LZ→(tX i l).Pairwise LZ
 |[],_=>by unfold tX;exact bX _ _
 |j::r,h=>by
  unfold tX
  have h1:=bz.mp h
  set_option tactic.hygienic true in split
  ·rename_i hij
   unfold Pd at hij
   simp only[decide_eq_true_eq]at hij
   refine bz.mpr ⟨fun x hx=>?_,h⟩
   rcases aF.mp hx with rfl|hx
   ·exact hij
   ·exact List.le_trans hij (h1.1 x hx)
  ·rename_i hij
   unfold Pd at hij
   simp only[decide_eq_true_eq]at hij
   refine bz.mpr ⟨fun x hx=>?_,qP i h1.2⟩
   rcases aF.mp ((qi i r).mem_iff.mp hx)with rfl|hx
   ·exact(List.le_total _ _).resolve_left hij
   ·exact h1.1 x hx
theorem lz:∀l,(oW l).Pairwise LZ
 |[]=>.nil
 |i::r=>by exact qP i (lz r)
theorem Fs{a b:Str}(h:(!Spec.ltCps b.cps.toList a.cps.toList)=true):LZ a b:=by
 rw[ltCps_eq]at h
 simp only[dN,decide_eq_false_iff_not]at h
 exact h
theorem nN:∀{l:List Str}{p:Str},risingS p l=true→(p::l).Pairwise LZ
 |[],p,_=>bX _ _
 |x::r,p,h=>by
  unfold risingS at h
  simp only[bf]at h
  have h1:=Fs h.1
  have ih:=nN h.2
  refine bz.mpr ⟨fun y hy=>?_,ih⟩
  rcases aF.mp hy with rfl|hy
  ·exact h1
  ·exact List.le_trans h1 ((bz.mp ih).1 y hy)
theorem nM:∀{l:List Str},sortedS l=true→l.Pairwise LZ
 |[],_=>.nil
 |x::r,h=>nN h
section
theorem yi{P:bE}{h:Heap}{vs:List Value}{l:List Int}(x:IntsAre vs l):dy B P h (l.map .int) vs:=by
 induction x with
 |nil=>exact .nil
 |cons n t _ ih=>exact .cons (.int n t) ih
theorem xg{P:bE}{h:Heap}{vs:List Value}{l:List Str}(x:StrsAre vs l):dy B P h (l.map .str) vs:=by
 induction x with
 |nil=>exact .nil
 |cons n t _ ih=>exact .cons (.str n t) ih
theorem En{A:Around}{E:Value→Shared→Prop}{s:Shared}{P:bE}{h:Heap}{D:Addr}{vs:List Value}{n:Nat}{l r:List MV}(ho:s.heap.get? D=some (seqObj "list" vs.toArray n))(hv:dy B P h l vs)(hr:kU l=some r)(h64:vs.length < 64)
 {Q:Value→Shared→Prop}(k:∀out:List Value,dy B P h r out→Q .none {s with heap:=sortedHeap s.heap D vs out.toArray}):wpAny (model aQ w) A (call (.builtin "list.sort") [.ref D]) Q E s:=by
 unfold kU at hr
 set_option tactic.hygienic true in split at hr
 ·rename_i il ei
  (obtain rfl:=ab hr;clear hr)
  refine wpAny_call_entry slot_list_sort ⟨_,ho,rfl⟩ entry_list_sort (list_sort_tree ho (k8 ei hv) h64 fun out ns' a1 a2 a3=>⟨_,rfl,?_⟩) (args_list_sort _)
  have:ns'=jR il:=oQ (fun a b h k=>uf h k) (a2.trans (lC il).symm) a3 (lB il)
  subst this
  have:=k out.toList (yi a1)
  rw[AC]at this
  exact this
 ·obtain⟨sl,es,rfl⟩:=az.mp hr
  have hS:=oT es hv
  refine wpAny_call_entry slot_list_sort ⟨_,ho,rfl⟩ entry_list_sort (list_sort_treeK strKind_oneLt ho hS.keysOf (fun v₁ v₂ rest e=>keyKind_strs (by rw[←e];exact hS)) h64 fun st' hp hs=>⟨_,rfl,?_⟩) (args_list_sort _)
  refine dH (sorted_out_str hS hp hs) fun ss' a1 a2 a3=>?_
  have:ss'=oW sl:=oQ yb (a2.trans (lA sl).symm) (nM a3) (lz sl)
  subst this
  have:=k _ (xg a1)
  rw[AC]at this
  exact this
end
section
theorem Bd{h:Heap}{a:Addr}(ha:h.objs.size≤a):h.get? a=none:=bA fun o e=>absurd (ci e) (aC.mpr ha)
theorem OA{l r:List MV}(e:kU l=some r):r.length=l.length:=by
 unfold kU at e
 set_option tactic.hygienic true in split at e
 ·rename_i il ei
  (obtain rfl:=ab e;clear e)
  (rw[aj];erw[(lC il).length_eq,FB ei];with_reducible rfl)
 ·obtain⟨sl,es,rfl⟩:=az.mp e
  (rw[aj];erw[(lA sl).length_eq])
  clear e
  have:∀{vs:List MV}{l:List Str},je vs=some l→vs.length=l.length:=by
   intro vs
   induction vs with
   |nil=>intro l e;(obtain rfl:=ab e;clear e);rfl
   |cons m r ih=>
    intro l e
    cases m with
    |str i=>
     refine gh e fun l' e1 e2=>?_
     apply dE e2
     simp[ih e1]
    |_=>exact bD e
  exact(this es).symm
theorem zH{P:bE}{h:Heap}{es:List (MV×MV)}{kvs:List (Str×Value)}{j:Nat}{mv:MV×MV}{k:Str}{x:Value}(p:dF B P h es kvs):es[j]?=some mv→kvs[j]?=some (k,x)→mv.1=.str k:=by
 induction p generalizing j with
 |nil=>exact fun e=>bD e
 |cons a b ih=>cases j with
  |zero=>exact fun e e2=>(congrArg BM (ab e)).symm.trans (congrArg MV.str (congrArg BM (ab e2)))
  |succ j=>exact fun e e2=>ih e e2
theorem zI{P:bE}{h:Heap}{es:List (MV×MV)}{kvs:List (Int×Value)}{j:Nat}{mv:MV×MV}{k:Int}{x:Value}(p:dj B P h es kvs):es[j]?=some mv→kvs[j]?=some (k,x)→mv.1=.int k:=by
 induction p generalizing j with
 |nil=>exact fun e=>bD e
 |cons a b ih=>cases j with
  |zero=>exact fun e e2=>(congrArg BM (ab e)).symm.trans (congrArg MV.int (congrArg BM (ab e2)))
  |succ j=>exact fun e e2=>ih e e2
theorem zw{cx:Cx}(hB:∃o,B.get? sysModules=some o){a r:MV}{l q:List MV}{u:Value}{st st':MS}{P:bE}{s:Shared}(e:gA st.hp a=some l)(hm:¬60 < l.length)(eq:kU l=some q)(em:d0 (.list q) st=some (r,st'))(S:SR B cx P st s.heap)(xa:VR B P s.heap a u)
 {A:Around}(hh:A.handled=none):wpAny (model aQ w) A (call (.builtin "sorted") [u]) (gJ B cx P s st' r) eP s:=by
 (refine d9 (dJ em) fun q0_ q1_=>?_;subst q0_;subst q1_)
 refine aM S.2.ns fun m hns z_=>?_
 unfold gA at e
 set_option tactic.hygienic true in split at e
 ·rename_i n
  (refine aM xa.inv fun p q_ ep=>?_;clear xa;first|apply d6 q_|apply dE q_);next=>
   set_option tactic.hygienic true in split at e
   ·rename_i vs eo
    (obtain rfl:=ab e;clear e)
    refine iM (S.1.obj _ _ _ eo ep) fun z_ items hl hv=>?_
    have hlen:=hv.length
    have eq0:=eq
    unfold kU at eq
    set_option tactic.hygienic true in split at eq
    ·rename_i il ei
     (obtain rfl:=ab eq;clear eq)
     refine sorted_N (wy hns) (iT _ _) hl.isList (k8 ei hv) (by omega) fun h' vs' ns' c F N a1 a2 a3=>?_
     have:ns'=jR il:=oQ (fun a b h k=>uf h k) (a2.trans (lC il).symm) a3 (lB il)
     subst this
     exact⟨_,bq.newL (k:=s.toks) S (cA.of1 hns F N) (Bd (cN _)) ⟨c,(N _ (.head _)).1⟩ (yi a1),iU S⟩
    ·obtain⟨sl,es,rfl⟩:=az.mp eq
     refine sorted_N_str (wy hns) (iT _ _) hl.isList (oT es hv) (by omega) fun h' vs' ns' c F N a1 a2 a3=>?_
     have:ns'=oW sl:=oQ yb (a2.trans (lA sl).symm) (nM a3) (lz sl)
     subst this
     exact⟨_,bq.newL (k:=s.toks) S (cA.of1 hns F N) (Bd (cN _)) ⟨c,(N _ (.head _)).1⟩ (xg a1),iU S⟩
   ·rename_i es eo
    (obtain rfl:=ab e;clear e)
    have hs:=nj S.1 hB ep
    refine d9 (S.1.obj _ _ _ eo ep) fun z_ hd=>?_
    have fin:∀{K:Type}[DecidableEq K] (knd:cS aQ w K) (kvs:List (K×Value)),s.heap.DictOf knd p.1 kvs→es.length=kvs.length→
     (∀(j:Nat) (mv:MV×MV) (k:K) (x v:Value),es[j]?=some mv→kvs[j]?=some (k,x)→knd.is k v=true→VR B P s.heap mv.1 v)→
     wpAny (model aQ w) A (call (.builtin "sorted") [.ref p.1]) (gJ B cx P s {st with hp:=st.hp++[.list q]} (.ref st.hp.length)) eP s:=by
     intro K _ knd kvs ⟨o,es',epo,ho,hx,hda,hk,hp,hn⟩ hlen hkey
     refine kdu_sorted (kdl_dict (knd:=knd) hs) hh (wy hns) (iT _ _) (⟨o,es',ho,hx,hda,hk,hp,hn⟩:s.heap.DictAt knd p.1 kvs epo) (by rw[aj]at hm;exact ah (by omega) (show 60≤sizeLine from by decide)) fun D h' tk vs F N hlt hlen2 hP=>?_
     have hDL:D≠cx.env.locals:=(N _ (.head _)).2.1
     have ho':=(N _ (.head _)).1
     refine En (s:={s with heap:=h',toks:=tk}) (P:=P) (h:=s.heap) (l:=es.map (·.1)) ho' (dy.of_get (by(rw[aj];erw[hlen2,hlen];with_reducible rfl)) fun j mv v e1 e2=>?_) eq (by rw[aj]at hm;omega) fun out hv=>?_
     ·obtain⟨k,x,e3,e4⟩:=hP j v e2
      replace e1:=(aq)▸e1
      (refine gh e1 fun mv' e5 q0_=>?_;subst q0_)
      exact hkey j mv' k x v e5 e3 e4
     ·obtain⟨c,hc⟩:=sortedHeap_at (out:=out.toArray) ho'
      have g0:cA cx.env.locals s.heap h':=cA.of1 hns F N
      have g:cA cx.env.locals s.heap (sortedHeap h' D vs out.toArray):=⟨fun b ob hb eb=>by
       have e1:=g0.k b ob hb eb
       rw[sortedHeap_old (fun q=>by subst q;exact absurd (hlt _ (iA.mpr ⟨hb,eb⟩)) (gp _)) (ci e1)]
       exact e1,fun m' hm'=>(g0.n m' hm').at fun ob eb=>by
       (erw[sortedHeap_old (bS hDL) (ci eb)]);exact eb⟩
      exact⟨_,bq.newL (k:=tk) S g (bA fun ob eb=>absurd (hlt _ (iA.mpr ⟨hDL,eb⟩)) (gp _)) ⟨c,hc⟩ hv,iU S⟩
    rcases hd with⟨kvs,hd,hv⟩|⟨kvs,hd,hv⟩
    ·refine fin (strKind aQ w) kvs hd hv.length ?_
     intro j mv k x v e1 e2 e3
     (erw[zH hv e1 e2])
     (refine fH (Value.isStrOf_shape e3) fun t q0_=>?_;first|apply dE q0_|apply d6 q0_)
     exact .str _ _
    ·refine fin (intKind aQ w) kvs hd hv.length ?_
     intro j mv k x v e1 e2 e3
     (erw[zI hv e1 e2])
     (refine fH (kO e3) fun t q0_=>?_;first|apply dE q0_|apply d6 q0_)
     exact .int _ _
   ·exact bD e
 ·exact bD e
theorem uP:∀(r:List Int) (a:Int),xZ a r∈a::r∧∀b∈a::r,xZ a r≤b
 |[],a=>⟨.head _,fun b hb=>by rcases aF.mp hb with rfl|hb;exact Int.le_refl _;cases hb⟩
 |c::r,a=>by
  refine d9 (uP r (if c < a then c else a)) fun h1 h2=>?_
  have hle:=h2 _ (.head _)
  refine⟨?_,fun b hb=>?_⟩
  ·rcases aF.mp h1 with h|h
   ·(erw[h]);split
    ·exact .tail _ (.head _)
    ·exact .head _
   ·exact .tail _ (.tail _ h)
  ·rcases aF.mp hb with rfl|hb
   ·refine kh hle ?_;split<;>omega
   ·rcases aF.mp hb with rfl|hb
    ·refine kh hle ?_;split<;>omega
    ·exact h2 b (.tail _ hb)
theorem Ka{cx:Cx}{a:MV}{l:List MV}{i:Int}{r:List Int}{u:Value}{st:MS}{P:bE}{s:Shared}(e:cy st.hp a=some l)(ei:gY l=some (i::r))(S:SR B cx P st s.heap)(xa:VR B P s.heap a u){A:Around}(hh:A.handled=none):
 wpAny (model aQ w) A (call (.builtin "min") [u]) (gJ B cx P s st (.int (xZ i r))) eP s:=by
 (refine aM (nQ e) fun n q0_ eo=>?_;subst q0_)
 (refine aM xa.inv fun p_ q_ ep=>?_;clear xa;first|apply d6 q_|apply dE q_);next=>
  refine iM (S.1.obj _ _ _ eo ep) fun z_ items hl hv=>?_
  refine aM S.2.ns fun m hns z_=>?_
  refine min_list_N hh (wy hns) (iT _ _) hl.isList (k8 ei hv) (by simp) fun h' M t tk F N h1 h2=>?_
  refine d9 (uP r i) fun g1 g2=>?_
  have:M=xZ i r:=uf (h2 _ g1) (g2 _ h1)
  apply d6 this
  exact⟨P,bq.growL S (cA.of (more:=[]) hns F N),.int _ t⟩
theorem Kb{cx:Cx}{a b:Int}{t t':Tok}{st:MS}{P:bE}{s:Shared}(S:SR B cx P st s.heap){A:Around}(hh:A.handled=none):
 wpAny (model aQ w) A (call (.builtin "max") [.int a t,.int b t']) (gJ B cx P s st (.int (if a < b then b else a))) eP s:=by
 refine aM S.2.ns fun m hns z_=>?_
 exact max_two_N hh (wy hns) (iT _ _) fun h' tk F N=>⟨P,bq.growL S (cA.of (more:=[]) hns F N),.int _ _⟩
theorem K5{cx:Cx}{a:Int}{t:Tok}{st:MS}{P:bE}{s:Shared}(S:SR B cx P st s.heap){A:Around}:
 wpAny (model aQ w) A (call (.builtin "abs") [.int a t]) (gJ B cx P s st (.int a.natAbs)) eP s:=
 call_abs_int fun u tk=>⟨P,bq.toks S,by
  rw[show((a.natAbs:Nat):Int)=if a < 0 then -a else a from by split<;>omega]
  exact .int _ u⟩
theorem zG{cx:Cx}{a:Int}{t:Tok}{st:MS}{P:bE}{s:Shared}(S:SR B cx P st s.heap){A:Around}:
 wpAny (model aQ w) A (call (.type "range") [.int a t]) (gJ B cx P s st (.range 0 a)) eP s:=
 call_range_1 ⟨P,bq.growL S (cA.ofGrow fun b o e=>cr _ b o e),.range (bi _ rfl)⟩
theorem zF{cx:Cx}{a b:Int}{t t':Tok}{st:MS}{P:bE}{s:Shared}(S:SR B cx P st s.heap){A:Around}:
 wpAny (model aQ w) A (call (.type "range") [.int a t,.int b t']) (gJ B cx P s st (.range a b)) eP s:=
 call_range_2 ⟨P,bq.growL S (cA.ofGrow fun b o e=>cr _ b o e),.range (bi _ rfl)⟩
end
section
theorem C9:typeLookup (.type "list") "keys"=pure none:=by(rw[typeLookup_type];erw[builtinLookup_eq_fast]);kernel_rfl
theorem Da{A:Around}{E:Value→Shared→Prop}{s:Shared}{a:Addr}{xs:Array Value}{k:Nat}{Q:Option Value→Shared→Prop}(hx:s.heap.get? a=some {cls:=.type "list",dict:=none,data:=.seq xs k,slots:=#[]})(hA:A.handled=none)
 (h:∀h' tk,(∀b o,s.heap.get? b=some o→h'.get? b=some o)→Q none {s with heap:=h',toks:=tk}):wpAny (model aQ w) A (getAttr? (.ref a) "keys") Q E s:=by
 obtain⟨hp,g,d,tk,os⟩:=s
 have hT:∀tk',(⟨hp,g,d,tk',os⟩:Shared).TypeIs (.ref a) "list":=fun z_=>⟨_,hx,rfl⟩
 have f1:=sub_AttributeError
 have f3:=F.slot_list_getattribute.lookup
 have f4:=F.slot_list_getattribute.bind (.ref a)
 have f5:=am_list_getattr_none
 refine wpAny_bind (wpAny_mkText ?_)
 refine wpAny_bind (wpAny_attempt ?_)
 repeat(any_goals(first|assumption|exact hT _|((with_reducible show wpAny _ _ (call (Value.builtin "list.__getattribute__") _ _) _ _ _);refine call_meets F.slot_list_getattribute (hT _) am_entry_list_getattribute (F.args_list_getattribute_2 _ _) (meets_getattribute_miss_list a xs k #[] "keys" _ C9 (by decide+kernel)) ⟨hx,hA,fun h' tk' e hx'=>?_⟩)|wp_step))
 refine vE hx'.there fun t' u' he=>?_
 have hTe:∀tk',(⟨h',g,d,tk',os⟩:Shared).TypeIs (.ref e) "AttributeError":=fun z_=>⟨_,he,rfl⟩
 show wpAny _ _ (getattributeRaised _ _ _ _ _ _ _) _ _ _
 repeat(any_goals(first|assumption|wp_step))
 exact h _ _ hx'.keeps
theorem lZ:entryFor table "dict.update.loop"=some Builtin.«dict.update.loop»:=entryFor_of_tree (by kernel_rfl)
inductive oF{K:Type}[DecidableEq K](knd:cS aQ w K)(h:Heap):List Value→List (K×Value)→Prop
 |nil:oF knd h [] []
 |cons {t key x k vs ps}:IsTup h t #[key,x]→knd.is k key=true→oF knd h vs ps→oF knd h (.ref t::vs) ((k,x)::ps)
theorem oF.at{K:Type}[DecidableEq K]{knd:cS aQ w K}{h h':Heap}(k:∀a o,h.get? a=some o→imm o→h'.get? a=some o){vs ps}(x:oF knd h vs ps):oF knd h' vs ps:=by
 induction x with
 |nil=>exact .nil
 |cons t a _ ih=>exact .cons (rZ k t) a ih
theorem Br{a b:Addr}{h h':Heap}{o:Obj}(x:Heap.ExtBut a h h')(hn:b≠a)(e:h.get? b=some o):h'.get? b=some o:=x b o hn e
theorem zu{K:Type}[DecidableEq K](kvs:List (K×Value))(k:K)(v:Value):(stored kvs k v).length≤kvs.length+1:=by
 unfold stored
 split<;>simp
theorem AT{A:Around}{E:Value→Shared→Prop}{s:Shared}{t:Addr}{items:Array Value}{Q:Option (Array Value)→Shared→Prop}(ht:IsTup s.heap t items)(h:Q (some items) s):wpAny (model aQ w) A (seqItems? (.ref t)) Q E s:=by
 (refine mh ht fun o ho hc n hd=>?_;clear ht)
 refine wpAny_bind (wpAny_loadPart ho ?_)
 (erw[hd])
 exact wpAny_pure h
set_option tactic.hygienic true in
theorem zV{K:Type}[DecidableEq K]{knd:cS aQ w K}{A:Around}{R:Result→Shared→Prop}{D it l:Addr}{items:Array Value}{result:Value}(hh:A.handled=none)(hit0:it≠D)(hlD:l≠D)(hlI:l≠it):
 ∀(rest:List Value) (ps kvs:List (K×Value)) (i:Nat) (tk:Tok) (s:Shared),oF knd s.heap rest ps→items.toList.drop i=rest→s.heap.IsListIter it l i→s.heap.IsList l items→s.heap.DictOf knd D kvs→kvs.length+rest.length≤2000→
  (∀h' tk,h'.DictOf knd D (ps.foldl (fun a p=>stored a p.1 p.2) kvs)→(∀b o,b≠D→b≠it→s.heap.get? b=some o→h'.get? b=some o)→R (.ok (.ret result)) {s with heap:=h',toks:=tk})→
  codeAny (model aQ w) A (.builtin "dict.update.loop" ⟨[.ref D,.ref it,.int (i:Int) tk,result],[]⟩) R s:=by
 intro rest
 induction rest generalizing A R with
 |nil=>
  intro ps kvs i tk s T hr hit hl hd hz k
  have hx:items[i]?=none:=by
   have:=List.drop_eq_nil_iff.mp hr
   (refine(Array.getElem?_eq_none_iff).mpr ?_);simpa using this
  cases T
  refine codeAny_builtin lZ ?_
  show wpAny _ _ (do
   let some item←pyNext (.ref it)|(do ug D [];ret result)
   _) _ _ _
  refine wpAny_bind (wpAny_pyNext_list_end hh hit hl hx fun h' he=>?_)
  have hd':h'.DictOf knd D kvs:=hd.at fun o e=>Br he (bS hit0) e
  exact wpAny_bind (wpAny_pure (wpAny_pure (k h' s.toks hd' fun b o z_ h2 e=>Br he h2 e)))
 |cons v vs ih=>
  intro ps kvs i tk s T hr hit hl hd hz k
  cases T with
  |cons ht hk hrest=>
  rename_i t key x k0 ps
  have hx:items[i]?=some (.ref t):=by
   (refine(zm)▸?_)
   have:=congrArg (·[0]?) hr
   simpa using this
  have hr':items.toList.drop (i+1)=vs:=by
   have:=congrArg List.tail hr
   simpa using this
  refine codeAny_builtin lZ ?_
  show wpAny _ _ (do
   let some item←pyNext (.ref it)|(do ug D [];ret result)
   _) _ _ _
  refine wpAny_bind (wpAny_pyNext_list_item hit hl hx fun h' hit' hs=>?_)
  have g1:∀b o,b≠it→s.heap.get? b=some o→h'.get? b=some o:=fun b o hn e=>by(erw[hs.2 b hn]);exact e
  have hitimm:∀b o,s.heap.get? b=some o→imm o→b≠it:=fun b o e hi q=>by
   subst q
   (refine dH hit fun o1 e1 c1 z_=>?_;clear hit)
   rw[e]at e1;(obtain rfl:=ab e1;clear e1)
   rcases hi with⟨a,_⟩|⟨a,_⟩<;>(rw[c1]at a;exact absurd a (by decide))
  have hDimm:∀b o,h'.get? b=some o→imm o→b≠D:=fun b o e hi q=>by
   subst q
   obtain⟨o1,es1,ep1,e1,c1,d1,_⟩:=hd.at fun o e=>g1 _ o (bS hit0) e
   rw[e]at e1;(obtain rfl:=ab e1;clear e1)
   rcases hi with⟨_,_,_,a⟩|⟨_,_,a⟩<;>(replace a:=(d1)▸a;cases a)
  have ht':IsTup h' t #[key,x]:=by
   (refine mh ht fun o ho hc n hdt=>?_;clear ht)
   exact⟨o,g1 _ _ (hitimm _ _ ho (.inl ⟨hc,_,n,hdt⟩)) ho,hc,n,hdt⟩
  have hd':h'.DictOf knd D kvs:=hd.at fun o e=>g1 _ o (bS hit0) e
  have hrest':oF knd h' vs ps:=hrest.at fun a o e hi=>g1 a o (hitimm a o e hi) e
  refine wpAny_bind (wpAny_holding (wpAny_bind (wpAny_tryCatch ?_)))
  show wpAny _ _ (Builtin.Dict.pairItems (.ref t)) _ _ _
  refine wpAny_bind (wpAny_typeOf ht'.typeIs ?_)
  rw[if_pos (by decide)]
  refine wpAny_bind (AT ht' ?_)
  refine wpAny_pure ?_
  show wpAny _ _ (holding [key,x] (dictSet D key x)) _ _ _
  refine wpAny_holding (wpAny_dictSet_pairs hk hd' (fun h2 hd2 hs2=>?_) (ah (by simp at hz;omega) (show 2000≤sizeLine from by decide)))
  refine wpAny_pure ⟨Code.quiet_builtin _ (by decide+kernel),?_⟩
  have g2:∀b o,b≠D→h'.get? b=some o→h2.get? b=some o:=fun b o hn e=>by(erw[hs2.2 b hn]);exact e
  have e3:((i:Int)+1)=((i+1:Nat):Int):=by rfl
  show codeAny _ _ (.builtin "dict.update.loop" ⟨[.ref D,.ref it,rawInt ((i:Int)+1),result],[]⟩) _ _
  (erw[e3])
  refine ih (A:=A) hh ps (stored kvs k0 x) (i+1) 0 {s with heap:=h2,toks:=s.toks+1} (hrest'.at fun a o e hi=>g2 a o (hDimm a o e hi) e) hr' ?_ ?_ hd2 ?_ fun h3 tk3 hd3 hk3=>?_
  ·obtain⟨o,ho,r⟩:=hit'
   exact⟨o,g2 _ _ hit0 ho,r⟩
  ·exact hl.at fun o e=>g2 _ _ hlD (g1 _ _ hlI e)
  ·have:=zu kvs k0 x
   simp at hz;lia
  ·exact k h3 tk3 hd3 fun b o n1 n2 e=>hk3 b o n1 n2 (g2 b o n1 (g1 b o n2 e))
theorem Ah{K:Type}[DecidableEq K]{knd:cS aQ w K}{A:Around}{E:Value→Shared→Prop}{s:Shared}{l:Addr}{items:List Value}{n:Nat}{ps:List (K×Value)}{Q:Value→Shared→Prop}(hh:A.handled=none)(hl:Hf s.heap l items.toArray n)(T:oF knd s.heap items ps)(hz:items.length≤2000)
 (k:∀h' tk,h'.DictOf knd s.heap.objs.size (ps.foldl (fun a p=>stored a p.1 p.2) [])→(∀b o,s.heap.get? b=some o→h'.get? b=some o)→Q (.ref s.heap.objs.size) {s with heap:=h',toks:=tk}):
 wpAny (model aQ w) A (call (.type "dict") [.ref l]) Q E s:=by
 refine callType_codes (Q₁:=fun obj s₁=>obj=.ref s.heap.objs.size∧s₁={s with heap:=s.heap.push {cls:=.type "dict",data:=.dict #[]}}) F.kt_called_dict (F.kt_typeCall_dict_1 _) F.entry_dict_init (kt_code_dict_new _ ⟨rfl,rfl⟩) ?_
 rintro obj s₁ ⟨rfl,rfl⟩
 have p1:=cr (h:=s.heap) {cls:=.type "dict",data:=.dict #[]}
 have hnew:(s.heap.push {cls:=.type "dict",data:=.dict #[]}).DictOf knd s.heap.objs.size []:=tO s.heap
 have hl1:=p1 _ _ hl
 have hlD:l≠s.heap.objs.size:=fun q=>absurd (ci hl) (by(erw[q]);exact gp _)
 have hnewT:(⟨s.heap.push {cls:=.type "dict",data:=.dict #[]},s.gens,s.drawn,s.toks,s.os⟩:Shared).TypeIs (.ref s.heap.objs.size) "dict":=⟨_,bi _ rfl,rfl⟩
 refine⟨hnewT,F.args_dict_init_2 _ _,?_⟩
 unfold Builtin.«dict.__init__»
 refine wpAny_bind ?_
 refine wpAny_bind (wpAny_notOrdered_dict hnewT ?_)
 show wpAny _ _ (pure (s.heap.objs.size,[He l])) _ _ _
 refine wpAny_pure ?_
 show wpAny _ _ (Builtin.Dict.updateFrom "dict.__init__" s.heap.objs.size (.ref l) [] .none) _ _ _
 refine wpAny_bind (wpAny_typeOf (T:="list") ⟨_,hl1,rfl⟩ ?_)
 rw[if_pos (by decide)]
 refine wpAny_bind (Da hl1 hh fun h2 tk2 k2=>?_)
 rw[if_pos (by decide)]
 refine wpAny_bind (wpAny_rule ?_)
 have hl2:=k2 _ _ hl1
 refine wpAny_bind (wpAny_pyIter_list (rm hl2) ?_)
 refine wpAny_pure ⟨Code.quiet_builtin _ (by decide+kernel),?_⟩
 have p2:=cr (h:=h2) {cls:=.type "list_iterator",data:=.fields #[.ref l,.int 0 0]}
 have hdt:h2.DictOf knd s.heap.objs.size []:=hnew.at fun o e=>k2 _ o e
 have lt2:s.heap.objs.size < h2.objs.size:=by
  refine fH (jL hdt) fun o ho=>?_
  exact ci ho
 have T':oF knd (h2.push {cls:=.type "list_iterator",data:=.fields #[.ref l,.int 0 0]}) items ps:=T.at fun a o e z_=>p2 _ _ (k2 _ _ (p1 _ _ e))
 refine zV (A:=A.in1) hh (bS (aS lt2)) hlD (aS (ci hl2)) items ps [] 0 0 _ T' (by simp) ⟨_,bi _ rfl,rfl,rfl⟩ (rm (p2 _ _ hl2)) (hdt.at fun o e=>p2 _ _ e) (by simpa using hz) fun h3 tk3 hd3 hk3=>⟨rfl,?_⟩
 refine k h3 tk3 hd3 fun b o e=>?_
 have hb:=ci e
 exact hk3 b o (aS hb) (aS (ck hb lt2)) (p2 _ _ (k2 _ _ (p1 _ _ e)))
end
section
theorem bq.newO{cx:Cx}{P:bE}{s:Shared}{st:MS}{h':Heap}{k:Nat}{p:Addr×Addr}{o:MO}(S:SR B cx P st s.heap)(g:cA cx.env.locals s.heap h')(f1:s.heap.get? p.1=none)(f2:s.heap.get? p.2=none)
 (xo:kb B (P++[p]) h' p o):bq B cx P s (P++[p]) {s with heap:=h',toks:=k} {st with hp:=st.hp++[o]}:=by
 obtain⟨m,⟨oL,es,ep,hoL,r⟩,_⟩:=S.2.ns
 have ha1:p.1≠cx.env.locals:=fun q=>by(replace f1:=(q)▸f1;rw[hoL]at f1);cases f1
 have ha2:p.2≠cx.env.locals:=fun q=>by(rw[q]at f2;replace f2:=(hoL)▸f2);cases f2
 have S':=S.growL g
 refine⟨?_,?_,h',k,rfl⟩
 ·have off:∀q∈P,Lf q p:=fun q hq=>by
   refine aM (S.1.footAlive ⟨q,hq,.inl rfl⟩) fun o1 e1 z_=>?_
   refine aM (S.1.footAlive ⟨q,hq,.inr rfl⟩) fun o2 e2 z_=>?_
   refine⟨fun e=>?_,fun e=>?_,fun e=>?_,fun e=>?_⟩
   ·rw[e,f1]at e1;exact bD e1
   ·rw[e,f2]at e1;exact bD e1
   ·rw[e,f1]at e2;exact bD e2
   ·rw[e,f2]at e2;exact bD e2
  have b1:B.get? p.1=none:=bA fun o e=>by have:=S.1.stays _ _ e;rw[f1]at this;exact bD this
  have b2:B.get? p.2=none:=bA fun o e=>by have:=S.1.stays _ _ e;rw[f2]at this;exact bD this
  refine⟨⟨S'.1.stays,by simp[S.1.len],fun n o' q e1 e2=>?_,?_,fun q hq=>?_⟩,?_⟩
  ·by_cases hn:n < P.length
   ·rw[aI hn]at e2
    rw[aI (by(erw[←S.1.len]);exact hn)]at e1
    exact(S'.1.obj n o' q e1 e2).keep (fun z_ z_ e z_=>e) (cR.app P _) (fun o e=>e) (fun o e=>e)
   ·have hn':n=P.length:=by
     have:=(ai.mp e2).1
     simp only[aJ,dU,iK]at this
     lia
    subst hn'
    rw[aX (aY _)]at e2
    rw[S.1.len,aX (aY _)]at e1
    simp at e1 e2
    subst e1;subst e2
    exact xo
  ·(refine(ic).mpr ?_)
   exact⟨S.1.apart,bX _ _,fun z hz y hy=>by replace hy:=(ax).mp hy;(erw[hy]);exact off z hz⟩
  ·rcases aH.mp hq with q'|q'
   ·exact S.1.low q q'
   ·rw[ax]at q';subst q';exact⟨b1,b2⟩
  ·have F':=S'.2
   refine⟨F'.kind,F'.glob,F'.blt,F'.kinds,?_,fun x k=>?_,F'.cinj,⟨?_,F'.offL.2⟩,fun x c e=>?_⟩
   ·obtain⟨m,hn,hm⟩:=F'.ns
    exact⟨m,hn,fun x mv e k=>by refine aM (hm x mv e k) fun v e1 e2=>?_;exact⟨v,e1,e2.mono (fun z_ z_ e z_=>e) (cR.app P _)⟩⟩
   ·obtain⟨c,v₀,e1,e2,e3⟩:=F'.cel x k
    exact⟨c,v₀,e1,e2,fun mv e=>by refine aM (e3 mv e) fun v e4 e5=>?_;exact⟨v,e4,e5.mono (fun z_ z_ e z_=>e) (cR.app P _)⟩⟩
   ·rintro⟨q,hq,hb⟩
    rcases aH.mp hq with q'|q'
    ·exact F'.offL.1 ⟨q,q',hb⟩
    ·replace q':=(ax).mp q';subst q'
     rcases hb with hb|hb
     ·exact ha1 hb.symm
     ·exact ha2 hb.symm
   ·obtain⟨x1,x2,x3,v₀,x4⟩:=F'.offC x c e
    refine⟨?_,x2,x3,v₀,x4⟩
    rintro⟨q,hq,hb⟩
    rcases aH.mp hq with q'|q'
    ·exact x1 ⟨q,q',hb⟩
    ·replace q':=(ax).mp q';rw[q']at hb
     obtain⟨_,_,_,_,o,ho,_⟩:=S.2.offC x c e
     rcases hb with hb|hb
     ·rw[hb,f1]at ho;exact bD ho
     ·rw[hb,f2]at ho;exact bD ho
 ·have E:=jk.growL S g
  exact⟨cR.app P _,E.keep,E.imm,E.alive,fun q hq=>by
   rcases aH.mp hq with x|x
   ·exact .inl x
   ·rw[ax]at x;subst x;exact .inr ⟨f1,f2⟩⟩
theorem mA{cx:Cx}{P:bE}{st:MS}{h:Heap}(S:SR B cx P st h){p:Addr×Addr}{h':Heap}:VR B (P++[p]) h' (.ref st.hp.length) (.ref p.1):=by
 have:(P++[p])[st.hp.length]?=some p:=by(erw[←S.1.len,aX (aY _)]);simp
 exact .ref this
theorem fB{K:Type}[DecidableEq K]{kvs:List (K×Value)}(h:(kvs.map (·.1)).Nodup)(k:K)(v:Value):((stored kvs k v).map (·.1)).Nodup:=by
 unfold stored
 set_option tactic.hygienic true in split
 ·have:(kvs.map fun kv=>if kv.1=k then(kv.1,v)else kv).map (·.1)=kvs.map (·.1):=by
   (erw[bc])
   exact bL fun x z_=>by dsimp only[Function.comp];set_option tactic.hygienic true in split<;>rfl
  (erw[this]);exact h
 ·rename_i hn
  (erw[aB];(refine(dL).mpr ?_))
  refine⟨h,by simp,fun a ha b hb q=>?_⟩
  simp at hb
  subst hb;subst q
  refine hn ?_
  refine aM (aU.mp ha) fun x hx hx2=>?_
  (refine(dW).mpr ?_)
  exact⟨x,hx,by simp[hx2]⟩
theorem eM{K:Type}[DecidableEq K]{kvs:List (K×Value)}{k:K}{v:Value}:stored kvs k v≠[]:=by
 unfold stored
 set_option tactic.hygienic true in split
 ·rename_i h
  intro q
  have:kvs=[]:=List.map_eq_nil_iff.mp q
  rw[this]at h;exact Bool.noConfusion h
 ·simp
theorem tc{P:bE}{h:Heap}{es es':List (MV×MV)}{kvs:List (Str×Value)}{i:Int}{m:MV}(p:dF B P h es kvs)(hn:kvs≠[])(e:l6 (.int i) m es=some es'):False:=
 hn (u5 p e).1
theorem td{P:bE}{h:Heap}{es es':List (MV×MV)}{kvs:List (Int×Value)}{i:Str}{m:MV}(p:dj B P h es kvs)(hn:kvs≠[])(e:l6 (.str i) m es=some es'):False:=
 hn (u6 p e).1
theorem vY{P:bE}{h:Heap}{m:MV}{r:List MV}{ps:List (MV×MV)}{v:Value}(e:jw (m::r)=some ps)(x:VR B P h m v):∃k y ps' t key z,ps=(k,y)::ps'∧jw r=some ps'∧v=.ref t∧IsTup h t #[key,z]∧VR B P h k key∧VR B P h y z:=by
 refine bT e fun l el e=>bT e fun p ep e=>gh e fun ps' e1 e2=>?_
 have x:=tC el▸x
 rw[D7 ep]at x
 refine eW x.inv fun t items hv hi hs=>?_
 refine eW hs.inv2 fun key z hk ha hb=>?_
 exact⟨p.1,p.2,ps',t,key,z,e2.symm,e1,hv,hk▸hi,ha,hb⟩
theorem Dp{P:bE}{h:Heap}{l:List MV}{items:List Value}(x:dy B P h l items):∀{ps es es':List (MV×MV)}{kvs:List (Str×Value)},jw l=some ps→dF B P h es kvs→(kvs.map (·.1)).Nodup→kvs≠[]→iF ps es=some es'→∃qs,oF (strKind aQ w) h items qs∧dF B P h es' (qs.foldl (fun a p=>stored a p.1 p.2) kvs):=by
 refine dy.ind (C:=fun l items=>∀{ps es es':List (MV×MV)}{kvs:List (Str×Value)},jw l=some ps→dF B P h es kvs→(kvs.map (·.1)).Nodup→kvs≠[]→iF ps es=some es'→∃qs,oF (strKind aQ w) h items qs∧dF B P h es' (qs.foldl (fun a p=>stored a p.1 p.2) kvs)) ?_ ?_ x
 ·intro ps es es' kvs e p nd hn d
  rw[←ab e]at d
  exact⟨[],.nil,ab d▸p⟩
 ·intro m v ms vs a _ ih ps es es' kvs e p nd hn d
  obtain⟨k,y,ps',t,key,z,hps,e1,hv,hi,rk,ry⟩:=vY e a
  rw[hps]at d
  refine nY d fun hk d=>bT d fun e2 d1 d2=>?_
  cases k with
  |str x=>
   refine fH rk.inv fun tk hkey=>?_
   refine aM (ih e1 (ld ry p nd d1) (fB nd _ _) eM d2) fun qs t1 t2=>?_
   exact⟨(x,z)::qs,hv▸.cons hi (hkey.symm▸strKind_is aQ w x tk) t1,t2⟩
  |int i=>exact(tc p hn d1).elim
  |_=>exact Bool.noConfusion hk
theorem Dq{P:bE}{h:Heap}{l:List MV}{items:List Value}(x:dy B P h l items):∀{ps es es':List (MV×MV)}{kvs:List (Int×Value)},jw l=some ps→dj B P h es kvs→(kvs.map (·.1)).Nodup→kvs≠[]→iF ps es=some es'→∃qs,oF (intKind aQ w) h items qs∧dj B P h es' (qs.foldl (fun a p=>stored a p.1 p.2) kvs):=by
 refine dy.ind (C:=fun l items=>∀{ps es es':List (MV×MV)}{kvs:List (Int×Value)},jw l=some ps→dj B P h es kvs→(kvs.map (·.1)).Nodup→kvs≠[]→iF ps es=some es'→∃qs,oF (intKind aQ w) h items qs∧dj B P h es' (qs.foldl (fun a p=>stored a p.1 p.2) kvs)) ?_ ?_ x
 ·intro ps es es' kvs e p nd hn d
  rw[←ab e]at d
  exact⟨[],.nil,ab d▸p⟩
 ·intro m v ms vs a _ ih ps es es' kvs e p nd hn d
  obtain⟨k,y,ps',t,key,z,hps,e1,hv,hi,rk,ry⟩:=vY e a
  rw[hps]at d
  refine nY d fun hk d=>bT d fun e2 d1 d2=>?_
  cases k with
  |int x=>
   refine fH rk.inv fun tk hkey=>?_
   refine aM (ih e1 (lf ry p nd d1) (fB nd _ _) eM d2) fun qs t1 t2=>?_
   exact⟨(x,z)::qs,hv▸.cons hi (hkey.symm▸intKind_is aQ w x tk) t1,t2⟩
  |str i=>exact(td p hn d1).elim
  |_=>exact Bool.noConfusion hk
theorem Gg{cx:Cx}{n:Nat}{l:List MV}{ps es:List (MV×MV)}{r:MV}{u:Value}{st st':MS}{P:bE}{s:Shared}(e:st.hp[n]?=some (.list l))(hm:¬gj l.length=true)(ep:jw l=some ps)(ed:iF ps []=some es)(em:d0 (.dict es) st=some (r,st'))
 (S:SR B cx P st s.heap) (xa:VR B P s.heap (.ref n) u) {A:Around}(hh:A.handled=none):wpAny (model aQ w) A (call (.type "dict") [u]) (gJ B cx P s st' r) eP s:=by
 (refine d9 (dJ em) fun q0_ q1_=>?_;apply d6 q0_;apply d6 q1_)
 (refine aM xa.inv fun p_ q_ epn=>?_;clear xa;first|apply d6 q_|apply dE q_);next=>
  obtain⟨_,items,⟨c,hl⟩,hv⟩:=S.1.obj _ _ _ e epn
  have hlen:=hv.length
  have hz:items.length≤2000:=by
   unfold gj at hm
   simp only[decide_eq_true_eq,aC]at hm
   lia
  have fin:∀{K:Type}[DecidableEq K] (knd:cS aQ w K) (qs:List (K×Value)),oF knd s.heap items qs→
   (∀h',h'.DictOf knd s.heap.objs.size (qs.foldl (fun a p=>stored a p.1 p.2) [])→(∀b o,s.heap.get? b=some o→h'.get? b=some o)→kb B (P++[(s.heap.objs.size,s.heap.objs.size)]) h' (s.heap.objs.size,s.heap.objs.size) (.dict es))→
   wpAny (model aQ w) A (call (.type "dict") [.ref _]) (gJ B cx P s {st with hp:=st.hp++[.dict es]} (.ref st.hp.length)) eP s:=fun knd qs T x=>
   Ah hh hl T hz fun h' tk hd k=>⟨_,bq.newO (p:=(s.heap.objs.size,s.heap.objs.size)) S (cA.ofGrow k) cA.sizeNone cA.sizeNone (x h' hd k),mA S⟩
  have up:∀{h':Heap}(k:∀b o,s.heap.get? b=some o→h'.get? b=some o) (p:Addr×Addr) (mv:MV) (v:Value),VR B P s.heap mv v→VR B (P++[p]) h' mv v:=fun k p mv v x=>x.mono (fun a o e z_=>k a o e) (cR.app P _)
  cases hv with
  |nil=>
   (obtain rfl:=ab ep;clear ep);(obtain rfl:=ab ed;clear ed)
   exact fin (strKind aQ w) [] .nil fun h' hd k=>⟨rfl,.inl ⟨_,hd,.nil⟩⟩
  |cons a b=>
   obtain⟨k,y,ps',t,key,z,rfl,e1,rfl,hi,rk,ry⟩:=vY ep a
   unfold iF at ed
   set_option tactic.hygienic true in split at ed
   ·rename_i hk
    refine bT ed fun e2 d1 d2=>?_
    cases rk with
    |int x tk=>
     refine aM (Dq b e1 (lf ry .nil (by simp) d1) (fB (by simp) _ _) eM d2) fun qs t1 t2=>?_
     exact fin (intKind aQ w) ((x,z)::qs) (.cons hi (intKind_is aQ w x tk) t1) fun h' hd k=>⟨rfl,.inr ⟨_,hd,t2.mono (fun a o e z_=>k a o e) (cR.app P _)⟩⟩
    |str x tk=>
     refine aM (Dp b e1 (ld ry .nil (by simp) d1) (fB (by simp) _ _) eM d2) fun qs t1 t2=>?_
     exact fin (strKind aQ w) ((x,z)::qs) (.cons hi (strKind_is aQ w x tk) t1) fun h' hd k=>⟨rfl,.inl ⟨_,hd,t2.mono (fun a o e z_=>k a o e) (cR.app P _)⟩⟩
    |_=>exact Bool.noConfusion hk
   ·exact bD ed
theorem yk{l:List MV}{p:Int×Int}(h:FC l=some p):l=[.int p.1,.int p.2]:=by
 refine bT h fun q e h=>?_
 refine bT h fun a e1 h=>?_
 refine aM (k5 h) fun b e2 h=>?_
 (erw[D7 e,cO e1,cO e2,h];with_reducible rfl)
theorem I6{l:List MV}{p:Int×Int}(h:Nf l=some p):(l=[.int p.2]∧p.1=0)∨l=[.int p.1,.int p.2]:=by
 unfold Nf at h
 cases e:one l with
 |none=>rw[e]at h;exact .inr (yk h)
 |some v=>
  rw[e]at h
  refine aM (k5 h) fun b e2 h=>?_
  (erw[Fa e,cO e2,h])
  exact .inl ⟨rfl,rfl⟩
theorem DC{cx:Cx}(hB:∃o,B.get? sysModules=some o){f:Value}{args:List MV}{us:List Value}{r:MV}{st st':MS}{P:bE}{s:Shared}(e:iG f args st=some (r,st'))(S:SR B cx P st s.heap)(xs:dy B P s.heap args us){A:Around}(hh:A.handled=none):
 wpAny (model aQ w) A (call f us) (gJ B cx P s st' r) eP s:=by
 cases f with
 |builtin n=>
  refine rc e (fun h e=>?_) fun e=>rc e (fun h e=>?_) fun e=>rc e (fun h e=>?_) fun e=>rc e (fun h e=>?_) fun e=>nY e fun h e=>?_
  ·refine q9 e fun v ha e=>bT e fun k e1 e=>tT e fun hm e=>?_
   apply AO e
   have xs:=ha▸xs
   apply k6 xs
   exact fun u x=>h▸Kf hB e1 hm S x
  ·refine q9 e fun v ha e=>gh e fun i e1 e=>?_
   apply Hq e
   have xs:=ha▸xs
   apply k6 xs
   intro u x
   have x:=cO e1▸x
   apply mE x
   exact fun t=>h▸K5 S
  ·refine gh e fun p e1 e=>?_
   apply Hq e
   have xs:=yk e1▸xs
   apply Fz xs
   intro u u' x y
   apply mE x
   intro t
   apply mE y
   exact fun t'=>h▸Kb S hh
  ·refine q9 e fun v ha e=>bT e fun l e1 e=>bT e fun q e2 e=>gh e fun i e3 e=>?_
   apply Hq e
   have xs:=ha▸xs
   apply k6 xs
   intro u x
   cases q with
   |nil=>exact bD e3
   |cons a q=>exact tT e3 fun hm e3=>ab e3▸h▸Ka e1 e2 S x hh
  ·refine q9 e fun v ha e=>bT e fun l e1 e=>tT e fun hm e=>bT e fun q e3 e4=>?_
   have xs:=ha▸xs
   apply k6 xs
   exact fun u x=>h▸zw hB e1 hm e3 e4 S x hh
 |type n=>
  refine rc e (fun h e=>?_) fun e=>rc e (fun h e=>?_) fun e=>rc e (fun h e=>?_) fun e=>rc e (fun h e=>?_) fun e=>nY e fun h e=>?_
  ·refine bT e fun p e1 e=>tT e fun hm e=>?_
   apply AO e
   rcases I6 e1 with⟨e1,e2⟩|e1
   ·have xs:=e1▸xs
    apply k6 xs
    intro u x
    apply mE x
    exact fun t=>e2.symm▸h▸zG S
   ·have xs:=e1▸xs
    apply Fz xs
    intro u u' x y
    apply mE x
    intro t
    apply mE y
    exact fun t'=>h▸zF S
  ·refine q9 e fun v ha e=>gh e fun i e1 e=>?_
   apply Hq e
   have xs:=ha▸xs
   apply k6 xs
   intro u x
   have x:=cO e1▸x
   apply mE x
   exact fun t=>h▸call_int_int ⟨P,bq.refl S,.int _ _⟩
  ·refine q9 e fun v ha e=>bT e fun l e1 e=>tT e fun hm e=>?_
   have xs:=ha▸xs
   apply k6 xs
   exact fun u x=>h▸Fo e1 hm e S x hh
  ·refine q9 e fun v ha e=>bT e fun l e1 e=>tT e fun hm e=>?_
   apply AO e
   have xs:=ha▸xs
   apply k6 xs
   exact fun u x=>h▸B1 e1 hm S x
  ·refine q9 e fun v ha e=>bT e fun l e1 e=>tT e fun hm e=>bT e fun ps e2 e=>bT e fun es e3 e4=>?_
   refine aM (jJ e1) fun n hn e5=>?_
   have xs:=ha▸xs
   apply k6 xs
   exact fun u x=>h▸Gg e5 hm e2 e3 e4 S (hn▸x) hh
 |_=>exact bD e
end
section
noncomputable def nO(name:Str):String:=
 if name="append" then"list.append" else if name="extend" then"list.extend" else if name="index" then"list.index" else if name="reverse" then"list.reverse" else if name="get" then"dict.get" else"int.bit_length"
theorem bq.upd{cx:Cx}{P:bE}{s:Shared}{st:MS}(S:SR B cx P st s.heap){n:Nat}{p:Addr×Addr}{vs vs':List MV}{items items':List Value}{c:Nat}(eo:st.hp[n]?=some (.list vs))(ep:P[n]?=some p)(hpp:p.2=p.1)(hl:Hf s.heap p.1 items.toArray c)
 (f:Array Value→Array Value) (hf:f items.toArray=items'.toArray) (hv:dy B P s.heap vs' items') {tk:Nat}:
 bq B cx P s P {s with heap:=s.heap.update p.1 (Hg f),toks:=tk} {st with hp:=st.hp.set n (.list vs')}:=by
 have hmem:=ak ep
 have up:=rl hl f
 have W:lS cx.env.locals p.1 s.heap _:=.of_same S ⟨p,hmem,.inl rfl⟩ (DO ..) ⟨_,up⟩
 rw[hf]at up
 exact bq.writeL S ep (.inl rfl) W fun z_=>⟨hpp,items',⟨_,up⟩,(jk.writeL S ⟨p,hmem,.inl rfl⟩ W).vrs hv⟩
theorem uW{x:Int}:∀{l:List Int}{i r:Nat},wo x l i=some r→x∈l∧r=i+l.idxOf x
 |[],_,_,e=>by exact bD e
 |y::t,i,r,e=>by
  unfold wo at e
  by_cases h:y=x
  ·rw[if_pos h]at e;(obtain rfl:=ab e;clear e)
   apply dE h
   exact⟨.head _,by rw[List.idxOf_cons_self];rfl⟩
  ·rw[if_neg h]at e
   refine d9 (uW e) fun h1 h2=>?_
   refine⟨.tail _ h1,?_⟩
   simp only[List.idxOf_cons,beq_eq_false_iff_ne.mpr h,cond_false];lia
theorem FO{K:Type}[DecidableEq K]{P:bE}{h:Heap}{kvs:List (K×Value)}{kk:K}{q:Option MV}{d:MV}{dv:Value}(x:match q with|some m=>∃v,valueAt kvs kk=some v∧VR B P h m v|none=>valueAt kvs kk=none)(hd:VR B P h d dv):VR B P h (q.getD d) ((valueAt kvs kk).getD dv):=by
 cases q with
 |none=>(erw[x]);exact hd
 |some m=>(refine aM x fun v e r=>?_;clear x);(erw[e]);exact r
theorem FN{cx:Cx}{P:bE}{s:Shared}{st:MS}{p:Addr×Addr}{es:List (MV×MV)}{k d:MV}{q:Option MV}{v dv:Value}(S:SR B cx P st s.heap)(hs:(p.1==sysModules)=false)
 (hd:(∃kvs,s.heap.DictOf (strKind aQ w) p.1 kvs∧dF B P s.heap es kvs)∨(∃kvs,s.heap.DictOf (intKind aQ w) p.1 kvs∧dj B P s.heap es kvs)) (hk:i9 k=true) (e:gR k es=some q) (xk:VR B P s.heap k v) (xd:VR B P s.heap d dv) {A:Around}:
 wpAny (model aQ w) A (call (.builtin "dict.get") [.ref p.1,v,dv]) (gJ B cx P s st (q.getD d)) eP s:=by
 exact pg hd hk e xk fun knd kk kvs h1 h2 x=>
  call_meetsIn F.slot_dict_get h2.mapOf.typeIs F.entry_dict_get (F.args_dict_get_3 _ _ _) (meets_dict_get_default knd p.1 h1 hs dv) ⟨_,h2.mapOf,P,bq.toks S,FO x xd⟩
theorem Kp{cx:Cx}{P:bE}{s:Shared}{st:MS}{p:Addr×Addr}{es:List (MV×MV)}{k d:MV}{q:Option MV}{v:Value}(S:SR B cx P st s.heap)(hs:(p.1==sysModules)=false)
 (hd:(∃kvs,s.heap.DictOf (strKind aQ w) p.1 kvs∧dF B P s.heap es kvs)∨(∃kvs,s.heap.DictOf (intKind aQ w) p.1 kvs∧dj B P s.heap es kvs)) (hk:i9 k=true) (e:gR k es=some q) (xk:VR B P s.heap k v) (xd:VR B P s.heap d .none) {A:Around}:
 wpAny (model aQ w) A (call (.builtin "dict.get") [.ref p.1,v]) (gJ B cx P s st (q.getD d)) eP s:=by
 exact pg hd hk e xk fun knd kk kvs h1 h2 x=>
  call_meetsIn F.slot_dict_get h2.mapOf.typeIs F.entry_dict_get (F.args_dict_get_2 _ _) (meets_dict_get knd p.1 h1 hs) ⟨_,h2.mapOf,P,bq.toks S,FO x xd⟩
theorem rP{n k:Nat}{l:List MV}{st st':MS}{r:MV}(h:Hn n l k st=some (r,st')):¬gj k=true∧r=.none∧st'={st with hp:=st.hp.set n (.list l)}:=by
 refine d9 (ix h) fun h1 h2=>?_
 apply AO h2
 exact⟨h1,rfl,rfl⟩
theorem Kq:∀{l:List MV}{p:MV×MV},Pr l=some p→(l=[p.1]∧p.2=.none)∨l=[p.1,p.2]
 |[_],_,rfl=>.inl ⟨rfl,rfl⟩
 |[_,_],_,rfl=>.inr rfl
theorem KW(i:Int):(im i:Int)=(Nat.log2 i.natAbs:Int)+(if i=0 then 0 else 1):=by
 unfold im
 by_cases h:i=0
 ·apply d6 h;rfl
 ·(erw[if_neg h];rw[if_neg (by simpa using h)]);rfl
theorem xP{n:Nat}(h:¬gj n=true):n≤1000:=by
 unfold gj at h
 rw[decide_eq_true_eq]at h
 exact aC.mp h
variable{cx:Cx}{u:Value}{st:MS}{P:bE}{s:Shared}{A:Around}{n:Nat}{p:Addr×Addr}{vs:List MV}
theorem K4(S:SR B cx P st s.heap)(eo:st.hp[n]?=some (.list vs))(ep:P[n]?=some p){v:MV}(hm:¬gj vs.length=true)(xa:VR B P s.heap v u):
 wpAny (model aQ w) A (call (.builtin (nO "append")) [.ref p.1,u]) (gJ B cx P s {st with hp:=st.hp.set n (.list (vs++[v]))} .none) eP s:=by
 obtain⟨hpp,items,⟨c,hl⟩,hv⟩:=S.1.obj _ _ _ eo ep
 exact call_meets F.slot_list_append ⟨_,hl,rfl⟩ F.entry_list_append (F.args_list_append_2 _ _) (list_append p.1 items.toArray c _ (by(erw[aP,←hv.length]);exact mV hm)) ⟨hl,P,bq.upd S eo ep hpp hl _ (by simp) (hv.append (.cons xa .nil)),.none⟩
theorem KE(S:SR B cx P st s.heap)(eo:st.hp[n]?=some (.list vs))(ep:P[n]?=some p){m:Nat}{us:List MV}(eu:st.hp[m]?=some (.list us))(hm:¬gj (vs.length+us.length)=true)(xa:VR B P s.heap (.ref m) u):
 wpAny (model aQ w) A (call (.builtin (nO "extend")) [.ref p.1,u]) (gJ B cx P s {st with hp:=st.hp.set n (.list (vs++us))} .none) eP s:=by
 obtain⟨hpp,items,⟨c,hl⟩,hv⟩:=S.1.obj _ _ _ eo ep
 (refine aM xa.inv fun p2 q0_ ep2=>?_;first|apply dE q0_|apply d6 q0_)
 obtain⟨_,items2,⟨c2,hl2⟩,hv2⟩:=S.1.obj _ _ _ eu ep2
 have hlen:=hv.length
 have hlen2:=hv2.length
 have hm2:=xP hm
 have hc:1000≤sizeLine:=by decide
 refine call_meets F.slot_list_extend ⟨_,hl,rfl⟩ F.entry_list_extend (F.args_list_extend_2 _ _) (AutoSeq1.list_extend_list_list_0 p.1 items.toArray c p2.1 items2.toArray c2 ?_ (by(erw[aP]);omega) (by(erw[aP,aP]);omega)) ⟨hl,hl2,P,bq.upd S eo ep hpp hl _ (by simp) (hv.append hv2),.none⟩
 unfold Builtin.List.listTooLong
 have e4:sizeLine=16777216:=by decide
 simp only[aP,bf,decide_eq_true_eq,not_and]
 intro z_
 (erw[e4]);omega
theorem OV(S:SR B cx P st s.heap)(eo:st.hp[n]?=some (.list vs))(ep:P[n]?=some p)(hm:¬gj vs.length=true):
 wpAny (model aQ w) A (call (.builtin (nO "reverse")) [.ref p.1]) (gJ B cx P s {st with hp:=st.hp.set n (.list vs.reverse)} .none) eP s:=by
 obtain⟨hpp,items,⟨c,hl⟩,hv⟩:=S.1.obj _ _ _ eo ep
 exact call_meets F.slot_list_reverse ⟨_,hl,rfl⟩ F.entry_list_reverse (F.args_list_reverse_1 _) (AutoSeq1.list_reverse_list_0 p.1 items.toArray c (by(erw[aP,←hv.length]);exact mV hm)) ⟨hl,P,bq.upd S eo ep hpp hl _ (by simp) hv.reverse,.none⟩
theorem Km(S:SR B cx P st s.heap)(eo:st.hp[n]?=some (.list vs))(ep:P[n]?=some p){x:Int}{l:List Int}{i:Nat}(el:gY vs=some l)(hm:¬gj l.length=true)(e1:wo x l 0=some i)(xa:VR B P s.heap (.int x) u):
 wpAny (model aQ w) A (call (.builtin (nO "index")) [.ref p.1,u]) (gJ B cx P s st (.int (i:Int))) eP s:=by
 obtain⟨hpp,items,⟨c,hl⟩,hv⟩:=S.1.obj _ _ _ eo ep
 (refine fH xa.inv fun t q0_=>?_;first|apply dE q0_|apply d6 q0_)
 refine d9 (uW e1) fun h1 h2=>?_
 have hi:=k8 el hv
 have hl1:=hi.length
 have h3:l.idxOf x < l.length:=List.idxOf_lt_length_iff.mpr h1
 rw[mP]at h2
 apply d6 h2
 have hm2:=xP hm
 refine call_meets PySem.F.slot_list_index ⟨_,hl,rfl⟩ PySem.F.entry_list_index (PySem.F.args_list_index_2 _ _) (PySem.SeqAt.list_indexAt p.1 items.toArray c none #[] (.int x t) (isInt x) (l.idxOf x) (by simpa[hl1] using h3) (by omega) ?_ ?_) ⟨hl,fun y hy=>(eq_isInt x t hi y (by simpa using hy)).at _ _,P,bq.toks S,.int _ _⟩
 ·show isInt x items[l.idxOf x]=true
  (erw[isInt_at x hi _ (by omega) h3])
  simpa using List.getElem_idxOf h3
 ·intro j hjs hlt
  show isInt x items[j]=false
  (erw[isInt_at x hi j (by simpa using hjs) (by omega)])
  exact ne_of_lt_idxOf hlt _
theorem DB{cx:Cx}(hB:∃o,B.get? sysModules=some o){ov:MV}{name:Str}{args:List MV}{u:Value}{us:List Value}{r:MV}{st st':MS}{P:bE}{s:Shared}(e:iX ov name args st=some (r,st'))(S:SR B cx P st s.heap)(xo:VR B P s.heap ov u)(xs:dy B P s.heap args us){A:Around}:
 wpAny (model aQ w) A (call (.builtin (nO name)) (u::us)) (gJ B cx P s st' r) eP s:=by
 unfold iX at e
 cases ov with
 |int i=>
  refine nY e fun h e=>tT e fun hb e=>?_
  apply AO e
  apply mE xo
  intro t
  refine(cZ.mp h.2▸xs).nil_inv.symm▸h.1.symm▸?_
  exact call_int_bit_length ⟨P,bq.toks S,KW i▸.int _ _⟩
 |ref n=>
  apply zC xo
  intro p ep
  dsimp only at e
  refine E9 (o:=st.hp[n]?) (fun eo=>?_) fun o eo=>?_
  ·rw[eo]at e;exact bD e
  rw[eo]at e
  cases o with
  |inst=>exact bD e
  |list vs=>
   refine rc e (fun h e=>?_) fun e=>rc e (fun h e=>?_) fun e=>rc e (fun h e=>?_) fun e=>nY e fun h e=>?_
   ·refine q9 e fun v ha e=>oO (rP e) fun hm h1 h2=>?_
    have xs:=ha▸xs
    apply k6 xs
    exact fun u x=>h1.symm▸h2.symm▸h▸K4 S eo ep hm x
   ·refine q9 e fun v ha e=>tT e fun z_ e=>bT e fun us e1 e=>oO (rP e) fun hm h1 h2=>?_
    refine aM (jJ e1) fun m hm2 eu=>?_
    have xs:=ha▸xs
    apply k6 xs
    exact fun u x=>h1.symm▸h2.symm▸h▸KE S eo ep eu hm (hm2▸x)
   ·refine q9 e fun v ha e=>bT e fun y e1 e=>bT e fun l e2 e=>tT e fun hm e=>gh e fun i e3 e=>?_
    apply Hq e
    have xs:=ha▸xs
    apply k6 xs
    exact fun u x=>h▸Km S eo ep e2 hm e3 (cO e1▸x)
   ·refine oO (rP e) fun hm h1 h2=>?_
    exact(cZ.mp h.2▸xs).nil_inv.symm▸h1.symm▸h2.symm▸h.1▸OV S eo ep hm
  |dict es=>
   have hs:=nj S.1 hB ep
   have hd:=(S.1.obj _ _ _ eo ep).2
   refine nY e fun h e=>bT e fun q eq e=>nY e fun hkey e=>gh e fun v e1 e=>?_
   apply Hq e
   rcases Kq eq with⟨ha,hq⟩|ha
   ·have xs:=ha▸xs
    apply k6 xs
    exact fun u x=>hq.symm▸h▸Kp S hs hd hkey e1 x .none
   ·have xs:=ha▸xs
    apply Fz xs
    exact fun u u' x y=>h▸FN S hs hd hkey e1 x y
 |_=>exact bD e
end
section
structure Hd(B:Heap)(P:bE)(s:Shared)(P':bE)(s':Shared)(H':MH):Prop where
 hr:HR B P' H' s'.heap
 ext:jk P P' s.heap s'.heap (fun z_=>False)
 shape:∃h' tk,s'={s with heap:=h',toks:=tk}
noncomputable def Hc(B:Heap)(cf:CF)(A:Around):Prop:=∀a args H r H',cf a args H=some (r,H')→∀us P s,HR B P H s.heap→dy B P s.heap args us→
 ∀R:Result→Shared→Prop,(∀u s' P',Hd B P s P' s' H'→VR B P' s'.heap r u→R (.ok (.ret u)) s')→codeAny (model aQ w) A (.call (.ref a) ⟨us,[]⟩) R s
theorem jk.weaken{P P':bE}{h h':Heap}{own own':Addr→Prop}(x:jk P P' h h' own)(k:∀b,own b→own' b):jk P P' h h' own':=
 ⟨x.pre,fun b o e hf hn=>x.keep b o e hf fun q=>hn (k b q),x.imm,x.alive,x.fresh⟩
theorem bq.ofCall{cx:Cx}{P P':bE}{s s':Shared}{st:MS}{H':MH}(S:SR B cx P st s.heap)(c:Hd B P s P' s' H'):bq B cx P s P' s' {st with hp:=H'}:=by
 refine⟨⟨c.hr,S.2.keep c.ext.imm c.ext.pre (fun o e=>c.ext.keep _ o e S.2.offL.1 (fun q=>q)) (fun x b o e1 e2=>c.ext.keep b o e2 (S.2.offC x b e1).1 (fun q=>q)) fun b o e f=>?_⟩,c.ext.weaken (fun z_ q=>q.elim),c.shape⟩
 (refine aM f fun p hp hb=>?_;clear f)
 rcases c.ext.fresh p hp with q|⟨q1,q2⟩
 ·exact⟨p,q,hb⟩
 ·rcases hb with rfl|rfl
  ·rw[q1]at e;exact bD e
  ·rw[q2]at e;exact bD e
theorem vg{cx:Cx}{cf:CF}{A:Around}(hc:Hc B cf A){a:Addr}{args:List MV}{r:MV}{st st':MS}(e:tv cf a args st=some (r,st')){us:List Value}{P:bE}{s:Shared}(S:SR B cx P st s.heap)(xs:dy B P s.heap args us):
 wpAny (model aQ w) A (call (.ref a) us) (gJ B cx P s st' r) eP s:=by
 obtain⟨⟨r',H'⟩,e1,e2⟩:=az.mp e
 cases e2
 exact wpAny_call (hc a args st.hp _ H' e1 us P s S.1 xs _ fun u s' P' c x=>⟨P',bq.ofCall S c,x⟩)
noncomputable def Lh(B:Heap)(a:Addr):Prop:=∃K:Frag,K.In B∧keepIn K (.ref a)=true
noncomputable def Aw(B:Heap)(C i:Addr):Prop:=∃K:Frag,K.In B∧makesIn K C=true∧keepIn K (.ref C)=true∧findIn K (.ref C) "__init__"=some (some (.ref i))∧typeIn K (.ref i)=some (.type "function")
noncomputable def G7(B:Heap)(C:Addr)(name:Str)(f:Addr):Prop:=∃K:Frag,K.In B∧findIn K (.ref C) "__getattribute__"=some (some (.builtin "object.__getattribute__"))∧findIn K (.ref C) "__getattr__"=some none∧
 findIn K (.ref C) name=some (some (.ref f))∧typeIn K (.ref f)=some (.type "function")∧keepIn K (.ref f)=true
structure qy(B:Heap)(tb:Tb):Prop where
 gl:PY B tb
 fld:∀C a,tb.fld C a=true→G9 B C a
 fn:∀a,tb.isFn a=true→Lh B a
 init:∀C i,tb.init C=some i→Aw B C i
 meth:∀C n f,tb.meth C n=some f→G7 B C n f
 sys:∃o,B.get? sysModules=some o
theorem K1{o:Expr}{name:Str}{env:Env}{W:Sem Value}(hb:qh o=false):attributeBase o name env W=W:=by
 cases o with
 |Call f as ks p=>cases f with
  |Name x q=>cases as with
   |nil=>cases ks with
    |nil=>exact if_pos (d6 (C:=fun b=>(((b||_)||_)||_)=true) (show(x != ("super":Str))=true from congrArg (!·) hb) rfl)
    |cons=>rfl
   |cons=>rfl
  |_=>rfl
 |_=>rfl
theorem yX{cx:Cx}{A:Around}{o:Expr}{name:Str}{env:Env}{E:Value→Shared→Prop}{s:Shared}{Q:Value→Shared→Prop}(hb:qh o=false)(h:wpAny (model aQ w) A (eval o env) Q E s):wpAny (model aQ w) A (attributeBase o name env (eval o env)) Q E s:=d6 (C:=fun z=>wpAny (model aQ w) A z Q E s) (K1 hb) h
theorem yd{M:Model}{K:Frag}{f:Value}(hk:keepIn K f=true):kB M f (fun h=>K.In h):=fun h X=>keeps_K hk h X
theorem CX{name:Str}:(name="append"∨name="extend"∨name="index"∨name="reverse")→Slot "list" name (nO name)∧typeOf (.builtin (nO name))=pure (.type "method_descriptor"):=by
 rintro(rfl|rfl|rfl|rfl)
 ·exact⟨F.slot_list_append,F.type_list_append⟩
 ·exact⟨F.slot_list_extend,F.type_list_extend⟩
 ·exact⟨F.slot_list_index,F.type_list_index⟩
 ·exact⟨F.slot_list_reverse,F.type_list_reverse⟩
end
section
theorem Lh.keeps{a:Addr}{M:Model}(h:Lh B a):kB M (.ref a) (fun h=>B.StaysIn h):=fun hp st=>by
 (refine aM h fun K hK hk=>?_;clear h)
 exact yd (M:=M) hk hp fun x ob q=>st _ _ (hK x ob q)
theorem t8{cx:Cx}{tb:Tb}(T:qy B tb){ov:MV}{name:Str}{mf:Option Addr}{u:Value}{st:MS}{P:bE}{s:Shared}(e:iV tb st.hp ov name=some mf)(S:SR B cx P st s.heap)(xo:VR B P s.heap ov u)
 {A:Around}{pl:Sem Bool}{Q:Value×List Value→Shared→Prop}
 (k1:∀f C,mf=some f→G7 B C name f→Q (.ref f,[u]) s) (k2:mf=none→Q (.builtin (nO name),[u]) s):
 wpAny (model aQ w) A (getMethod u name pl) Q eP s:=by
 unfold iV at e
 set_option tactic.hygienic true in split at e
 ·rename_i n
  (refine aM xo.inv fun p q_ ep=>?_;clear xo;subst q_);next=>
   set_option tactic.hygienic true in split at e
   ·rename_i C fs eo
    set_option tactic.hygienic true in split at e
    ·rename_i f em en
     (obtain rfl:=ab e;clear e)
     have mo:=T.meth C name f em
     obtain⟨K,hK,g1,g2,g3,g4,g5⟩:=mo
     refine oN (S.1.obj n _ p eo ep) fun hne es n' h1 h2 hv=>?_
     have X:K.In s.heap:=fun x ob q=>S.1.stays _ _ (hK x ob q)
     refine method_fn (od:=some (dictOf es n')) X ⟨h1,rfl,rfl,h2⟩ g1 g2 g3 g4 ?_ (k1 f C rfl ⟨K,hK,g1,g2,g3,g4,g5⟩)
     show(lookIn name (dictOf es n')).map (·.isSome)=some false
     (rw[lookIn_dict];erw[yB hv en]);rfl
    ·exact bD e
   ·rename_i vs eo
    set_option tactic.hygienic true in split at e
    ·rename_i hn
     (obtain rfl:=ab e;clear e)
     simp only[cb,or_assoc,beq_iff_eq,decide_eq_true_eq]at hn
     refine d9 (CX hn) fun sl ty=>?_
     obtain⟨_,items,⟨c,hl⟩,hv⟩:=S.1.obj _ _ _ eo ep
     refine getMethod_builtin ⟨_,hl,rfl⟩ F.plainAttrs_list sl ty (fun a ea=>?_) (k2 rfl)
     cases ea
     exact⟨_,hl,rfl⟩
    ·exact bD e
   ·rename_i es eo
    set_option tactic.hygienic true in split at e
    ·rename_i hn
     (obtain rfl:=ab e;clear e)
     subst hn
     refine d9 (S.1.obj _ _ _ eo ep) fun z_ hd=>?_
     rcases hd with⟨kvs,hd,hv⟩|⟨kvs,hd,hv⟩
     ·exact getMethod_builtin hd.typeIs F.plainAttrs_dict F.slot_dict_get F.type_dict_get hd.mapOf.noDict (k2 rfl)
     ·exact getMethod_builtin hd.typeIs F.plainAttrs_dict F.slot_dict_get F.type_dict_get hd.mapOf.noDict (k2 rfl)
    ·exact bD e
   ·exact bD e
 ·rename_i i
  set_option tactic.hygienic true in split at e
  ·rename_i hn
   (obtain rfl:=ab e;clear e)
   subst hn
   (refine fH xo.inv fun t q_=>?_;clear xo;subst q_);next=>
    have k3:=k2 rfl
    rw[show nO "bit_length"="int.bit_length" from by decide+kernel]at k3
    with_reducible exact getMethod_builtin (typeIs_int _ _ _) F.plainAttrs_int F.slot_int_bit_length F.type_int_bit_length (fun a ea=>by cases ea) k3
  ·exact bD e
 ·exact bD e
theorem v9{cx:Cx}{tb:Tb}{cf:CF}(T:qy B tb)(hc:Hc B cf cx.A){f:Expr→MM MV}(hf:∀e,fz B cx (eval e cx.env) (f e) (RV B))(hs:∀e,iB e=true→f e=bP)
 {o:Expr}{name:Str}{ap pos:Pos}{args:List Expr}:
 fz B cx (eval (.Call (.Attribute o name ap) args [] pos) cx.env)
  (if qh o||ap.endLine != pos.line||decide (20 < args.length)then bP else aR (f o) fun ov=>aR (iJ fun s=>iV tb s.hp ov name) fun mf=>aR (Bs f args) fun vs=>(match mf with
   |some f=>tv cf f (ov::vs)
   |none=>iX ov name vs)) (RV B):=by
 intro st a st' e P s S
 set_option tactic.hygienic true in split at e
 ·exact bD e
 rename_i hcond
 simp only[cb,not_or,decide_eq_true_eq,aC,ca,bne_eq_false_iff_eq]at hcond
 obtain⟨⟨hb,hl⟩,hn⟩:=hcond
 refine fV e fun ov s1 e1 e=>?_
 refine fV e fun mf s2 e2' e=>?_
 (refine d9 (fx e2') fun e2 q0_=>?_;subst q0_)
 refine fV e fun vs s3 e3 e4=>?_
 have hall:=pB hs e3
 have hform:methodCallForm (args.length+0) (backTo pos (starEach args cx.env)) []=true:=by
  unfold methodCallForm
  have:=tw (pos:=pos) (env:=cx.env) hall
  replace this:=(List.any_eq_false).mp this
  simp only[List.all_nil,List.isEmpty_nil,if_true,lp,Nat.add_zero,bf,decide_eq_true_eq,bd]
  refine⟨fun x hx=>?_,by omega⟩
  have:=this x hx
  simpa using this
 rw[arm_eval_Call]
 refine wpAny_bind (yX (cx:=cx) hb ((hf o).use e1 S fun u P₁ S₁ x₁ r₁=>?_))
 refine wpAny_bind (wpAny_standAt ?_)
 show wpAny (model aQ w) cx.A (methodCall o name ap pos cx.env u (args.length+0) (backTo pos (starEach args cx.env)) []) _ eP S₁
 unfold methodCall
 (erw[hform])
 refine wpAny_bind (wpAny_holding ?_)
 unfold calleeOf
 (erw[if_pos rfl])
 have tail:∀(fn:Value) {G:Heap→Prop},kB (model aQ w) fn G→
  (∀us P₂ S₂,bq B cx P₁ S₁ P₂ S₂ s3→dy B P₂ S₂.heap vs us→VR B P₂ S₂.heap ov u→G S₂.heap∧wpAny (model aQ w) cx.A (call fn ([u]++us)) (gJ B cx P₂ S₂ st' a) eP S₂)→
  wpAny (model aQ w) cx.A (do let callPos←methodCallPos true o cx.env ap pos;callWith callPos fn [u] (backTo pos (starEach args cx.env)) []) (gJ B cx P s st' a) eP S₁:=by
  intro fn G hk k
  refine wpAny_bind ?_
  unfold methodCallPos
  rw[if_pos (by rw[hl];show(false||(pos.line==pos.line))=true;rw[beq_self_eq_true];rfl)]
  refine wpAny_pure ?_
  refine lP hf hs hk e3 x₁.sr fun us P₂ S₂ x₂ r₂=>?_
  refine d9 (k us P₂ S₂ x₂ r₂ (x₂.ext.vr r₁)) fun g c=>?_
  exact⟨g,wpAny_mono c (fun z s' ⟨P',y,r⟩=>⟨P',(x₁.trans x₂).trans y,r⟩) fun z_ z_ x=>x⟩
 refine t8 T e2 x₁.sr r₁ (fun g C eg mo=>?_) fun eg=>?_
 ·subst eg
  obtain⟨K,hK,g1,g2,g3,g4,g5⟩:=mo
  exact tail (.ref g) (Lh.keeps ⟨K,hK,g5⟩) fun us P₂ S₂ x₂ r₂ r₁'=>⟨x₂.sr.1.stays,vg hc e4 x₂.sr (.cons r₁' r₂)⟩
 ·subst eg
  exact tail (.builtin (nO name)) (nR (G:=fun z_=>True)) fun us P₂ S₂ x₂ r₂ r₁'=>⟨trivial,DB T.sys e4 x₂.sr r₁' r₂⟩
end
set_option backward.match.sparseCases false
section
theorem Aw.keeps{C i:Addr}{M:Model}(h:Aw B C i):kB M (.ref C) (fun h=>B.StaysIn h):=fun hp st=>by
 (refine gO h fun K hK z_ hk z_=>?_;clear h)
 exact yd (M:=M) hk hp fun x ob q=>st _ _ (hK x ob q)
noncomputable def BK(B:Heap)(cf:CF)(A:Around):Prop:=∀A':Around,A'.handled=A.handled→A'.depth≤A.depth+1→A'.units≤A.units+5→Hc B cf A'
theorem DA{cx:Cx}{tb:Tb}{cf:CF}{A:Around}(T:qy B tb)(hc:BK B cf A)(hh:A.handled=none){fv:MV}{u:Value}{args:List MV}{us:List Value}{r:MV}{st st':MS}{P:bE}{s:Shared}
 (e:e9 tb cf fv args st=some (r,st')) (S:SR B cx P st s.heap) (xf:VR B P s.heap fv u) (xs:dy B P s.heap args us):
 wpAny (model aQ w) A (call u us) (gJ B cx P s st' r) eP s:=by
 cases xf with
 |stat v hv=>
  by_cases hr:∃a,u=.ref a
  ·obtain⟨a,rfl⟩:=hr
   unfold e9 at e
   dsimp only at e
   by_cases hfn:tb.isFn a=true
   ·rw[if_pos hfn]at e
    exact vg (hc A rfl (cN _) (jy _ _)) e S xs
   ·rw[if_neg hfn]at e
    cases ei:tb.init a with
    |none=>rw[ei]at e;exact(dD e).elim
    |some i=>
     rw[ei]at e
     refine oM (T.init a i ei) fun K hK hm hk hi hf=>?_
     have X:K.In s.heap:=fun x ob q=>S.1.stays _ _ (hK x ob q)
     refine fV e fun x s1 e1 e=>?_
     (refine d9 (dJ e1) fun q0_ q1_=>?_;subst q0_;subst q1_)
     refine fV e fun q s2 e2 e3=>?_
     cases q with
     |none=>
      apply kH e3
      refine wpAny_call ?_
      obtain⟨hh',g,d,t,os⟩:=s
      refine make_core (makes_of X hm) (looks_findIn X hi) (fun self=>bind_fn X self hf) (.inl rfl) ?_
      have g0:∀b o,hh'.get? b=some o→((hh'.push emptyDict).push (instObj a hh'.objs.size)).get? b=some o:=fun b o q=>cr _ b o (cr _ b o q)
      have x₁:=bq.newO (k:=t) (p:=(hh'.objs.size+1,hh'.objs.size)) (o:=.inst a []) S (cA.ofGrow g0) (bA fun o q=>absurd (ci q) (aC.mpr (cN _))) cA.sizeNone
       ⟨Lj _,[],0,by(refine(vC hh' emptyDict)▸?_);exact bi _ rfl,cr _ _ _ (bi _ rfl),.nil⟩
      obtain⟨⟨r',H'⟩,e4,e5⟩:=az.mp e2
      cases e5
      have hw:(A.under (.builtin "type.__call__" ⟨.ref a::us,[]⟩)).depth≤A.depth+1:=by
       show A.depth+Code.weight _≤A.depth+1
       refine eS ?_ _
       exact ff (by kernel_rfl)
      have hu:(A.under (.builtin "type.__call__" ⟨.ref a::us,[]⟩)).units≤A.units+5:=by
       show A.units+Code.cUnits _≤A.units+5
       refine eS ?_ _
       exact aA (by kernel_rfl)
      refine hc (A.under (.builtin "type.__call__" ⟨.ref a::us,[]⟩)) rfl hw hu i _ _ _ H' e4 _ _ _ x₁.sr.1 (.cons (mA S) (x₁.ext.vrs xs)) _ fun v s' P' c y=>?_
      cases y
      exact⟨rfl,P',x₁.trans (bq.ofCall x₁.sr c),c.ext.vr (mA S)⟩
     |_=>exact bD e3
  ·have e':iG u args st=some (r,st'):=by
    cases u with
    |ref a=>exact absurd ⟨a,rfl⟩ hr
    |_=>exact e
   exact DC T.sys e' S xs hh
 |_=>exact(dD (st:=st) e).elim
noncomputable def Fy:Expr→Bool
 | .Attribute .. =>true
 |_=>false
theorem Bx{f:Expr}{args:List Expr}{pos:Pos}{env:Env}(h:Fy f=false):eval (.Call f args [] pos) env=(do callWith pos (←eval f env) [] (backTo pos (starEach args env)) (backToKw pos (keywordEach [] env))):=by
 cases f<;>first|rfl|exact Bool.noConfusion h
theorem Ft{tb:Tb}{cf:CF}{M:Model}(T:qy B tb){fv r:MV}{vs:List MV}{st st':MS}(e:e9 tb cf fv vs st=some (r,st')){u:Value}{P:bE}{h:Heap}(x:VR B P h fv u):
 ∃(G:Heap→Prop),kB M u G∧∀h,B.StaysIn h→G h:=by
 cases x with
 |stat v hv=>
  cases u with
  |ref a=>
   unfold e9 at e
   dsimp only at e
   by_cases hfn:tb.isFn a=true
   ·exact⟨_,(T.fn a hfn).keeps,fun z_ q=>q⟩
   ·rw[if_neg hfn]at e
    cases ei:tb.init a with
    |none=>rw[ei]at e;exact(dD (st:=st) e).elim
    |some i=>exact⟨_,(T.init a i ei).keeps,fun z_ q=>q⟩
  |builtin id=>exact⟨fun z_=>True,nR,fun z_ z_=>trivial⟩
  |type id=>exact⟨fun z_=>True,sP,fun z_ z_=>trivial⟩
  |_=>exact bD e
 |_=>exact(dD (st:=st) e).elim
theorem Gx{cx:Cx}{tb:Tb}{cf:CF}(T:qy B tb)(hc:BK B cf cx.A)(hh:cx.A.handled=none){f:Expr→MM MV}(hf:∀e,fz B cx (eval e cx.env) (f e) (RV B))(hs:∀e,iB e=true→f e=bP)
 {g:Expr}(ha:Fy g=false) {pos:Pos}{args:List Expr}:
 fz B cx (eval (.Call g args [] pos) cx.env) (aR (f g) fun fv=>aR (Bs f args) fun vs=>e9 tb cf fv vs) (RV B):=by
 intro st a st' e P s S
 refine fV e fun fv s1 e1 e=>?_
 refine fV e fun vs s3 e3 e4=>?_
 refine Call_ ((hf g).use e1 S fun u P₁ S₁ x₁ r₁=>?_) (Bx ha)
 refine aM (Ft (M:=model aQ w) T e4 r₁) fun G hk hG=>?_
 refine lP hf hs hk e3 x₁.sr fun us P₂ S₂ x₂ r₂=>⟨hG _ x₂.sr.1.stays,?_⟩
 exact wpAny_mono (DA T hc hh e4 x₂.sr (x₂.ext.vr r₁) r₂) (fun z s' ⟨P',y,r⟩=>⟨P',(x₁.trans x₂).trans y,r⟩) fun z_ z_ x=>x
end
set_option backward.match.sparseCases true
section
theorem BY{cx:Cx}(hB:∃o,B.get? sysModules=some o){op:UnaryOp}{x:Expr}{pos:Pos}{m:MM MV}(h:fz B cx (eval x cx.env) m (RV B)):
 fz B cx (eval (.UnaryOp op x pos) cx.env) (aR m fun v=>w7 op v) (RV B):=fun st a st' e P s S=>by
 refine fV e fun v s1 e1 e2=>?_
 exact UnaryOp_ (h.use e1 S fun u P₁ S₁ x₁ r₁=>x₁.after (D5 hB e2 x₁.sr r₁))
theorem Ap{cx:Cx}{op:Operator}{x y:Expr}{pos:Pos}{m n:MM MV}(h:fz B cx (eval x cx.env) m (RV B))(h2:fz B cx (eval y cx.env) n (RV B)):
 fz B cx (eval (.BinOp x op y pos) cx.env) (aR m fun a=>aR n fun b=>gT op a b) (RV B):=fun st a st' e P s S=>by
 refine fV e fun v s1 e1 e=>?_
 refine fV e fun v2 s2 e2 e3=>?_
 exact wpAny_BinOp (h.use e1 S fun u P₁ S₁ x₁ r₁=>h2.use e2 x₁.sr fun u2 P₂ S₂ x₂ r₂=>(x₁.trans x₂).after (DD e3 x₂.sr (x₂.ext.vr r₁) r₂))
theorem qv{cx:Cx}(hB:∃o,B.get? sysModules=some o){f:Expr→MM MV}(hf:∀e,fz B cx (eval e cx.env) (f e) (RV B)){op:BoolOp}{pos:Pos}:∀es,fz B cx (eval (.BoolOp op es pos) cx.env) (Ad f op es) (RV B)
 |[]=>fun st a st' e P s S=>(dD e).elim
 |[e]=>fun st a st' h P s S=>BoolOp_one (hf e st a st' h P s S)
 |e::y::r=>fun st a st' h P s S=>by
  refine fV h fun v s1 e1 h=>?_
  refine fV h fun c s2 e2' h=>?_
  (refine d9 (fx e2') fun e2 q0_=>?_;subst q0_)
  have tk:∀{P₁:bE}{S₁:Shared}{n:Nat},bq B cx P s P₁ S₁ s1→bq B cx P s P₁ {S₁ with toks:=n} s1:=fun x=>x.of_toks _
  cases op with
  |And=>
   refine BoolOp_and ((hf e).use e1 S fun u P₁ S₁ x₁ r₁=>lu hB x₁.sr e2 r₁ fun n=>?_)
   cases c with
   |false=>
    (refine d9 (jg h) fun q0_ q1_=>?_;subst q0_;subst q1_)
    exact⟨P₁,x₁.of_toks n,r₁⟩
   |true=>exact(x₁.of_toks n).after (qv hB hf (y::r) _ _ _ h _ _ (x₁.of_toks n).sr)
  |Or=>
   refine BoolOp_or ((hf e).use e1 S fun u P₁ S₁ x₁ r₁=>lu hB x₁.sr e2 r₁ fun n=>?_)
   cases c with
   |true=>
    apply kH h
    exact⟨P₁,x₁.of_toks n,r₁⟩
   |false=>exact(x₁.of_toks n).after (qv hB hf (y::r) _ _ _ h _ _ (x₁.of_toks n).sr)
theorem Bj{ops:List CmpOp}:∀{es:List Expr},es.any jj=false→lastMarks ops es=false:=by
 induction ops with
 |nil=>intro es _;rfl
 |cons op ops ih=>
  intro es h
  cases es with
  |nil=>cases ops<;>rfl
  |cons e r=>
   (rw[dr]at h;replace h:=(b9).mp h)
   cases ops with
   |nil=>
    cases r with
    |nil=>
     show behindInMarks op e=false
     cases e<;>first|rfl|(exact absurd h.1 Bool.noConfusion)
    |cons _ _=>simp[lastMarks]
   |cons op2 ops2=>
    cases r with
    |nil=>show lastMarks (op2::ops2) []=false;cases ops2<;>rfl
    |cons _ _=>exact ih h.2
theorem lN{cx:Cx}(hB:∃o,B.get? sysModules=some o)(hu:cx.A.units+1 < cLine){f:Expr→MM MV}(hf:∀e,fz B cx (eval e cx.env) (f e) (RV B)){pos:Pos}:∀(ops:List CmpOp) (es:List Expr) (a:MV) (st:MS) (b:Bool) (st':MS),ny f a ops es st=some (b,st')→
 ∀P s u,SR B cx P st s.heap→VR B P s.heap a u→
  wpAny (model aQ w) cx.A (compareChain pos u ops (evalEach es cx.env)) (fun z s'=>∃P',bq B cx P s P' s' st'∧VR B P' s'.heap (.bool b) z) eP s∧
  wpAny (model aQ w) cx.A (testChain pos u ops (evalEach es cx.env)) (fun z s'=>∃P',bq B cx P s P' s' st'∧b=z) eP s
 |[op],[r],a,st,b,st',e,P,s,u,S,xa=>by
  refine fV e fun v s1 e1 e=>?_
  obtain⟨e2,rfl⟩:=fx e
  refine⟨chain_last ((hf r).use e1 S fun z P₁ S₁ x₁ r₁=>?_),test_last ((hf r).use e1 S fun z P₁ S₁ x₁ r₁=>?_)⟩
  ·exact rA hB e2 x₁.sr (x₁.ext.vr xa) r₁ hu fun n=>⟨P₁,x₁.of_toks n,.bool b⟩
  ·exact rA hB e2 x₁.sr (x₁.ext.vr xa) r₁ hu fun n=>wpAny_truthy_bool ⟨P₁,x₁.of_toks n,rfl⟩
 |op::op'::ops,r::r'::rs,a,st,b,st',e,P,s,u,S,xa=>by
  refine fV e fun v s1 e1 e=>?_
  refine fV e fun c s2 e2' e=>?_
  (refine d9 (fx e2') fun e2 q0_=>?_;subst q0_)
  refine⟨chain_link ((hf r).use e1 S fun z P₁ S₁ x₁ r₁=>?_),test_link ((hf r).use e1 S fun z P₁ S₁ x₁ r₁=>?_)⟩
  ·refine rA hB e2 x₁.sr (x₁.ext.vr xa) r₁ hu fun n=>wpAny_truthy_bool ?_
   cases c with
   |true=>exact(x₁.of_toks n).after (R:=RV B) (x:=.bool b) (lN hB hu hf (op'::ops) (r'::rs) v s1 b st' e P₁ _ z (x₁.of_toks n).sr r₁).1
   |false=>
    apply kH e
    exact⟨P₁,x₁.of_toks n,.bool false⟩
  ·refine rA hB e2 x₁.sr (x₁.ext.vr xa) r₁ hu fun n=>wpAny_truthy_bool ?_
   cases c with
   |true=>exact(x₁.of_toks n).after (R:=RB) (x:=b) (lN hB hu hf (op'::ops) (r'::rs) v s1 b st' e P₁ _ z (x₁.of_toks n).sr r₁).2
   |false=>
    apply kH e
    exact⟨P₁,x₁.of_toks n,rfl⟩
 |[],_,_,_,_,_,e,_,_,_,_,_=>by exact bD e
 |[_],[],_,_,_,_,e,_,_,_,_,_=>by exact bD e
 |[_],_::_::_,_,_,_,_,e,_,_,_,_,_=>by exact bD e
 |_::_::_,[],_,_,_,_,e,_,_,_,_,_=>by exact bD e
 |_::_::_,[_],_,_,_,_,e,_,_,_,_,_=>by exact bD e
theorem wI{cx:Cx}(hB:∃o,B.get? sysModules=some o)(hu:cx.A.units+1 < cLine){f:Expr→MM MV}(hf:∀e,fz B cx (eval e cx.env) (f e) (RV B)){l:Expr}{ops:List CmpOp}{es:List Expr}{pos:Pos}:
 fz B cx (eval (.Compare l ops es pos) cx.env) (if es.any jj then bP else aR (f l) fun x=>aR (ny f x ops es) fun b=>bO (.bool b)) (RV B):=fun st a st' e P s S=>by
 set_option tactic.hygienic true in split at e
 ·exact(dD e).elim
 rename_i hs
 refine fV e fun v s1 e1 e=>?_
 refine fV e fun b s2 e2 e=>?_
 apply kH e
 (rw[arm_eval_Compare];erw[markedEach_of_false _ _ _ (Bj (lh.mpr hs))])
 exact wpAny_bind ((hf l).use e1 S fun u P₁ S₁ x₁ r₁=>x₁.after (R:=RV B) (x:=.bool b) (lN hB hu hf ops es v s1 b _ e2 P₁ S₁ u x₁.sr r₁).1)
theorem wH{cx:Cx}(hB:∃o,B.get? sysModules=some o)(hu:cx.A.units+1 < cLine){f:Expr→MM MV}(hf:∀e,fz B cx (eval e cx.env) (f e) (RV B)){l:Expr}{ops:List CmpOp}{es:List Expr}{pos:Pos}{whole:Sem Value}:
 fz B cx (isTrue (.Compare l ops es pos) cx.env whole) (if es.any jj then bP else aR (f l) fun x=>ny f x ops es) RB:=fun st a st' e P s S=>by
 set_option tactic.hygienic true in split at e
 ·exact(dD e).elim
 rename_i hs
 refine fV e fun v s1 e1 e=>?_
 (rw[arm_isTrue_Compare];erw[markedEach_of_false _ _ _ (Bj (lh.mpr hs))])
 exact wpAny_bind ((hf l).use e1 S fun u P₁ S₁ x₁ r₁=>x₁.after (R:=RB) (x:=a) (lN hB hu hf ops es v s1 a _ e P₁ S₁ u x₁.sr r₁).2)
end
section
theorem tE{cx:Cx}{t:Expr→MM Bool}(ht:∀e,fz B cx (isTrue e cx.env (eval e cx.env)) (t e) RB){op:BoolOp}{pos:Pos}{whole:Sem Value}:∀es,fz B cx (isTrue (.BoolOp op es pos) cx.env whole) (nT t op es) RB
 |[]=>fun st a st' h P s S=>by
  cases op with
  |And=>
   apply kH h
   exact isTrue_and_nil ⟨P,bq.refl S,rfl⟩
  |Or=>
   apply kH h
   exact isTrue_or_nil ⟨P,bq.refl S,rfl⟩
 |e::r=>fun st a st' h P s S=>by
  refine fV h fun c s1 e1 h=>?_
  cases op with
  |And=>
   refine isTrue_and ((ht e).use e1 S fun u P₁ S₁ x₁ r₁=>?_)
   apply dE r₁
   cases c with
   |false=>
    apply kH h
    exact⟨P₁,x₁,rfl⟩
   |true=>exact x₁.after (tE ht r _ _ _ h _ _ x₁.sr)
  |Or=>
   refine isTrue_or ((ht e).use e1 S fun u P₁ S₁ x₁ r₁=>?_)
   apply dE r₁
   cases c with
   |true=>
    apply kH h
    exact⟨P₁,x₁,rfl⟩
   |false=>exact x₁.after (tE ht r _ _ _ h _ _ x₁.sr)
theorem sD{cx:Cx}(hB:∃o,B.get? sysModules=some o){e:Expr}{m:MM MV}(h:fz B cx (eval e cx.env) m (RV B))(he:isTrue e cx.env (eval e cx.env)=(do let v←eval e cx.env;standAt e.pos;holding [v] (PySem.truthy v))):
 fz B cx (isTrue e cx.env (eval e cx.env)) (aR m fun v=>iJ fun s=>iN s.hp v) RB:=fun st a st' h' P s S=>by
 refine fV h' fun v s1 e1 h'=>?_
 obtain⟨e2,rfl⟩:=fx h'
 exact isTrue_plain (h.use e1 S fun u P₁ S₁ x₁ r₁=>lu hB x₁.sr e2 r₁ fun n=>⟨P₁,x₁.of_toks n,rfl⟩) he
theorem B7{cx:Cx}(hB:∃o,B.get? sysModules=some o)(hu:cx.A.units+1 < cLine){r:Ev}(hf:∀e,fz B cx (eval e cx.env) (r.e cx.sc e) (RV B))(ht:∀e,fz B cx (isTrue e cx.env (eval e cx.env)) (r.t cx.sc e) RB)(e:Expr):
 fz B cx (isTrue e cx.env (eval e cx.env)) (Ls r cx.sc e) RB:=by
 cases e with
 |BoolOp op vs p=>exact tE ht _
 |UnaryOp op x p=>
  cases op with
  |Not=>
   intro st a st' h P s S
   have h:aR (r.t cx.sc x) (fun b=>bO (!b)) st=some (a,st'):=h
   refine fV h fun v s1 e1 h=>?_
   apply kH h
   exact isTrue_not ((ht _).use e1 S fun u P₁ S₁ x₁ r₁=>by apply dE r₁;exact⟨P₁,x₁,rfl⟩)
  |_=>exact sD hB (hf _) rfl
 |IfExp t x y p=>
  intro st a st' h P s S
  have h:aR (r.t cx.sc t) (fun c=>if c then r.t cx.sc x else r.t cx.sc y) st=some (a,st'):=h
  refine fV h fun c s1 e1 h=>?_
  refine isTrue_IfExp ((ht _).use e1 S fun u P₁ S₁ x₁ r₁=>?_)
  apply dE r₁
  cases c with
  |true=>exact x₁.after (ht _ _ _ _ h _ _ x₁.sr)
  |false=>exact x₁.after (ht _ _ _ _ h _ _ x₁.sr)
 |Compare a ops bs p=>exact wH hB hu hf
 |_=>exact sD hB (hf _) rfl
theorem z6{cx:Cx}{r:Ev}(hf:∀e,fz B cx (eval e cx.env) (r.e cx.sc e) (RV B))(ht:∀e,fz B cx (isTrue e cx.env (eval e cx.env)) (r.t cx.sc e) RB){t a b:Expr}{pos:Pos}:
 fz B cx (eval (.IfExp t a b pos) cx.env) (aR (r.t cx.sc t) fun c=>if c then r.e cx.sc a else r.e cx.sc b) (RV B):=fun st z st' h P s S=>by
 refine fV h fun c s1 e1 h=>?_
 refine IfExp_ ((ht _).use e1 S fun u P₁ S₁ x₁ r₁=>?_)
 apply dE r₁
 cases c with
 |true=>exact x₁.after (hf _ _ _ _ h _ _ x₁.sr)
 |false=>exact x₁.after (hf _ _ _ _ h _ _ x₁.sr)
theorem DH{cx:Cx}{tb:Tb}(T:qy B tb){o:Expr}{name:Str}{pos:Pos}{m:MM MV}(h:fz B cx (eval o cx.env) m (RV B)):
 fz B cx (eval (.Attribute o name pos) cx.env) (if qh o then bP else aR m fun ov=>iJ fun s=>aN tb s.hp ov name) (RV B):=fun st z st' e P s S=>by
 set_option tactic.hygienic true in split at e
 ·exact(dD e).elim
 rename_i hb
 refine fV e fun v s1 e1 e=>?_
 obtain⟨e2,rfl⟩:=fx e
 rw[arm_eval_Attribute]
 refine wpAny_bind (yX (cx:=cx) (lh.mpr hb) (h.use e1 S fun u P₁ S₁ x₁ r₁=>?_))
 refine wpAny_bind (wpAny_standAt (wpAny_bind (wpAny_holding (wpAny_mono (yu T.fld e2 x₁.sr r₁) (fun z s' hz=>?_) fun z_ z_ x=>x))))
 (refine aM hz fun P' y q=>?_;clear hz)
 exact wpAny_bind (wpAny_letTemporaryGo (wpAny_pure ⟨P',x₁.trans y,q⟩))
theorem uT{cx:Cx}(hB:∃o,B.get? sysModules=some o){v i:Expr}{pos:Pos}{m n:MM MV}(h:fz B cx (eval v cx.env) m (RV B))(h2:fz B cx (eval i cx.env) n (RV B)):
 fz B cx (eval (.Subscript v i pos) cx.env) (aR m fun a=>aR n fun k=>iJ fun s=>bp s.hp a k) (RV B):=fun st z st' e P s S=>by
 refine fV e fun a s1 e1 e=>?_
 refine fV e fun k s2 e2 e=>?_
 obtain⟨e3,rfl⟩:=fx e
 exact Subscript_ (h.use e1 S fun u P₁ S₁ x₁ r₁=>h2.use e2 x₁.sr fun u2 P₂ S₂ x₂ r₂=>(x₁.trans x₂).after (R:=RV B) (x:=z) (yt hB e3 x₂.sr (x₂.ext.vr r₁) r₂))
noncomputable def A8(f:Expr→MM MV):Option Expr→MM (Option MV)
 |some e=>aR (f e) fun x=>bO (some x)
 |none=>bO none
theorem nU.ext{cx:Cx}{P P':bE}{h h':Heap}{own:Addr→Prop}(x:jk P P' h h' own){m:Option MV}{v:Value}(r:nU B P h m v):nU B P' h' m v:=by
 cases r with
 |none=>exact .none
 |some r=>exact .some (x.vr r)
theorem xL{cx:Cx}{f:Expr→MM MV}(hf:∀e,fz B cx (eval e cx.env) (f e) (RV B)):∀(e:Option Expr),fz B cx (evalPart e cx.env) (A8 f e) (fun P h a u=>nU B P h a u)
 |none=>fun st a st' h P s S=>by
  apply kH h
  exact wpAny_pure ⟨P,bq.refl S,.none⟩
 |some e=>fun st a st' h P s S=>by
  unfold A8 at h
  refine fV h fun v s1 e1 h=>?_
  apply kH h
  exact(hf e).use e1 S fun u P₁ S₁ x₁ r₁=>⟨P₁,x₁,.some r₁⟩
theorem zz{cx:Cx}{v:Expr}{lo hi:Option Expr}{p pos:Pos}{f:Expr→MM MV}(hf:∀e,fz B cx (eval e cx.env) (f e) (RV B)):
 fz B cx (eval (.Subscript v (.Slice lo hi none p) pos) cx.env) (aR (f v) fun a=>aR (A8 f lo) fun l=>aR (A8 f hi) fun h=>iQ a l h) (RV B):=fun st z st' e P s S=>by
 refine fV e fun a s1 e1 e=>?_
 refine fV e fun l s2 e2 e=>?_
 refine fV e fun h s3 e3 e4=>?_
 refine Subscript_ ((hf v).use e1 S fun u P₁ S₁ x₁ r₁=>wpAny_Slice ((xL hf lo).use e2 x₁.sr fun ul P₂ S₂ x₂ r₂=>(xL hf hi).use e3 x₂.sr fun uh P₃ S₃ x₃ r₃=>?_))
 rw[evalPart_none]
 refine wpAny_pure ?_
 refine wpAny_mono (Ce e4 x₃.sr (x₃.ext.vr (x₂.ext.vr r₁)) (nU.ext (cx:=cx) x₃.ext r₂) r₃) (fun z' s' hz=>?_) fun z_ z_ x=>x
 (refine aM hz fun P' y q=>?_;clear hz)
 exact⟨P',((x₁.trans x₂).trans x₃).trans y,q⟩
theorem wC{f:Expr→MM MV}:∀{es:List Expr}{st st':MS}{vs:List MV},Bs f es st=some (vs,st')→vs.length=es.length
 |[],_,_,_,h=>by
  apply kH h
  rfl
 |e::r,st,st',vs,h=>by
  refine fV h fun v s1 h1 h2=>?_
  refine fV h2 fun vs' s2 h3 h4=>?_
  apply kH h4
  simp[wC h3]
theorem C5{cx:Cx}{f:Expr→MM MV}(hf:∀e,fz B cx (eval e cx.env) (f e) (RV B))(hs:∀e,iB e=true→f e=bP){es:List Expr}{pos:Pos}:
 fz B cx (eval (.List es pos) cx.env) (if gj es.length then bP else aR (Bs f es) fun vs=>d0 (.list vs)) (RV B):=fun st z st' e P s S=>by
 set_option tactic.hygienic true in split at e
 ·exact(dD e).elim
 rename_i hm
 refine fV e fun vs s1 e1 e=>?_
 (refine d9 (dJ e) fun q0_ q1_=>?_;apply d6 q0_;apply d6 q1_)
 have hl:=wC e1
 refine wpAny_List ((oX hf hs pos es).use e1 S fun us P₁ S₁ x₁ r₁=>⟨by(erw[←r₁.length,hl]);exact mV hm,?_⟩)
 exact⟨_,x₁.trans (bq.newL (k:=S₁.toks) x₁.sr (cA.ofGrow (cr _)) cA.sizeNone ⟨0,bi _ rfl⟩ r₁),iU x₁.sr⟩
theorem zs{cx:Cx}{f:Expr→MM MV}(hf:∀e,fz B cx (eval e cx.env) (f e) (RV B))(hs:∀e,iB e=true→f e=bP){es:List Expr}{k:Nat}{pos:Pos}:
 fz B cx (eval (.Tuple es k pos) cx.env) (if gj es.length then bP else aR (Bs f es) fun vs=>bO (.tup vs)) (RV B):=fun st z st' e P s S=>by
 set_option tactic.hygienic true in split at e
 ·exact(dD e).elim
 rename_i hm
 refine fV e fun vs s1 e1 e=>?_
 apply kH e
 have hl:=wC e1
 refine wpAny_Tuple ((oX hf hs pos es).use e1 S fun us P₁ S₁ x₁ r₁=>⟨by(erw[←r₁.length,hl]);exact mV hm,?_⟩)
 refine aM (Be (cx:=cx) (k:=S₁.toks) x₁.sr (cA.ofGrow (cr _)) ⟨{cls:=.type "tuple",data:=.seq us.toArray},bi _ rfl,rfl,0,rfl⟩ r₁) fun P' y q=>?_
 exact⟨P',x₁.trans y,q⟩
end
section
structure eL(B:Heap)(cx:Cx)(P:bE)(h:Heap)(D:Addr):Prop where
 ob:∃o,h.get? D=some o∧¬imm o
 nf:¬ke P D
 nl:D≠cx.env.locals
 nc:∀x c,cx.env.cells.lookup x=some c→c≠D
 nb:B.get? D=none
theorem SR.aliveC{cx:Cx}{P:bE}{st:MS}{h:Heap}(S:SR B cx P st h){x:Str}{c:Addr}(e:cx.env.cells.lookup x=some c):∃o,h.get? c=some o:=by
 obtain⟨_,_,_,v₀,o,ho,_⟩:=S.2.offC x c e
 exact⟨o,ho⟩
theorem eL.new{cx:Cx}{P:bE}{st:MS}{h h':Heap}{D:Addr}(S:SR B cx P st h)(f:h.get? D=none)(ob:∃o,h'.get? D=some o∧¬imm o):eL B cx P h' D where
 ob:=ob
 nf:=fun q=>by refine aM (S.1.footAlive q) fun o e z_=>?_;rw[f]at e;exact bD e
 nl:=fun q=>by refine aM S.2.notImmL fun o e z_=>?_;rw[←q,f]at e;exact bD e
 nc:=fun x c e q=>by refine fH (S.aliveC e) fun o e'=>?_;rw[q,f]at e';exact bD e'
 nb:=bA fun o e=>by have:=S.1.stays _ _ e;rw[f]at this;exact bD this
theorem ke.back{P P':bE}{h h':Heap}{own:Addr→Prop}(x:jk P P' h h' own){b:Addr}{o:Obj}(e:h.get? b=some o)(f:ke P' b):ke P b:=by
 (refine aM f fun p hp hb=>?_;clear f)
 rcases x.fresh p hp with q|⟨q1,q2⟩
 ·exact⟨p,q,hb⟩
 ·rcases hb with rfl|rfl
  ·rw[q1]at e;exact bD e
  ·rw[q2]at e;exact bD e
theorem eL.ext{cx:Cx}{P P':bE}{h h':Heap}{own:Addr→Prop}{D:Addr}(F:eL B cx P h D)(x:jk P P' h h' own)(hn:¬own D):eL B cx P' h' D∧h'.get? D=h.get? D:=by
 refine aM F.ob fun o e n=>?_
 have e':=x.keep D o e F.nf hn
 exact⟨⟨⟨o,e',n⟩,fun f=>F.nf (ke.back x e f),F.nl,F.nc,F.nb⟩,e'.trans e.symm⟩
theorem eL.notOwn{cx:Cx}{P:bE}{h:Heap}{D:Addr}(F:eL B cx P h D):¬sE cx.sc cx.env D:=by
 rintro(q|⟨x,_,q⟩)
 ·exact F.nl q
 ·exact F.nc x D q rfl
theorem eL.put{cx:Cx}{P:bE}{h h':Heap}{D:Addr}(F:eL B cx P h D)(ob:∃o,h'.get? D=some o∧¬imm o):eL B cx P h' D:=⟨ob,F.nf,F.nl,F.nc,F.nb⟩
theorem SR.put{cx:Cx}{P:bE}{st:MS}{h h':Heap}{D:Addr}(S:SR B cx P st h)(F:eL B cx P h D)(k:∀b o,b≠D→h.get? b=some o→h'.get? b=some o):SR B cx P st h':=by
 refine aM F.ob fun oD eD nD=>?_
 have hk:∀a o,h.get? a=some o→imm o→h'.get? a=some o:=fun a o e hi=>k a o (fun q=>by subst q;rw[eD]at e;(obtain rfl:=ab e;clear e);exact nD hi) e
 refine⟨⟨fun b o e=>k b o (fun q=>by subst q;rw[F.nb]at e;exact bD e) (S.1.stays b o e),S.1.len,fun n o p e1 e2=>(S.1.obj n o p e1 e2).keep hk (cR.refl P)
  (fun o e=>k _ o (fun q=>F.nf ⟨p,ak e2,.inl q.symm⟩) e) (fun o e=>k _ o (fun q=>F.nf ⟨p,ak e2,.inr q.symm⟩) e),S.1.apart,S.1.low⟩,
  S.2.keep hk (cR.refl P) (fun o e=>k _ o (bS F.nl) e) (fun x c o ec e=>k _ o (F.nc x c ec) e) fun z_ z_ z_ f=>f⟩
theorem SR.adopt{cx:Cx}{P:bE}{st:MS}{h:Heap}{D:Addr}{o:MO}(S:SR B cx P st h)(F:eL B cx P h D)(x:kb B (P++[(D,D)]) h (D,D) o):SR B cx (P++[(D,D)]) {st with hp:=st.hp++[o]} h:=by
 have off:∀q∈P,Lf q (D,D):=fun q hq=>⟨fun e=>F.nf ⟨q,hq,.inl e.symm⟩,fun e=>F.nf ⟨q,hq,.inl e.symm⟩,fun e=>F.nf ⟨q,hq,.inr e.symm⟩,fun e=>F.nf ⟨q,hq,.inr e.symm⟩⟩
 have up:∀{mv v},VR B P h mv v→VR B (P++[(D,D)]) h mv v:=fun x=>x.mono (fun z_ z_ e z_=>e) (cR.app P _)
 refine⟨⟨S.1.stays,by simp[S.1.len],fun n o' q e1 e2=>?_,?_,fun q hq=>?_⟩,⟨S.2.kind,S.2.glob,S.2.blt,S.2.kinds,?_,fun x k=>?_,S.2.cinj,⟨?_,S.2.offL.2⟩,fun x c e=>?_⟩⟩
 ·by_cases hn:n < P.length
  ·rw[aI hn]at e2
   rw[aI (by(erw[←S.1.len]);exact hn)]at e1
   exact(S.1.obj n o' q e1 e2).keep (fun z_ z_ e z_=>e) (cR.app P _) (fun o e=>e) (fun o e=>e)
  ·have hn':n=P.length:=by
    have:=(ai.mp e2).1
    simp only[aJ,dU,iK]at this
    lia
   subst hn'
   rw[aX (aY _)]at e2
   rw[S.1.len,aX (aY _)]at e1
   simp at e1 e2
   apply dE e1;apply dE e2
   exact x
 ·(refine(ic).mpr ?_)
  exact⟨S.1.apart,bX _ _,fun x hx y hy=>by replace hy:=(ax).mp hy;subst hy;exact off x hx⟩
 ·rcases aH.mp hq with q'|q'
  ·exact S.1.low q q'
  ·replace q':=(ax).mp q';subst q';exact⟨F.nb,F.nb⟩
 ·obtain⟨m,hn,hm⟩:=S.2.ns
  exact⟨m,hn,fun x mv e k=>by refine aM (hm x mv e k) fun v e1 e2=>?_;exact⟨v,e1,up e2⟩⟩
 ·obtain⟨c,v₀,e1,e2,e3⟩:=S.2.cel x k
  exact⟨c,v₀,e1,e2,fun mv e=>by refine aM (e3 mv e) fun v e4 e5=>?_;exact⟨v,e4,up e5⟩⟩
 ·rintro⟨q,hq,hb⟩
  rcases aH.mp hq with q'|q'
  ·exact S.2.offL.1 ⟨q,q',hb⟩
  ·replace q':=(ax).mp q';subst q'
   rcases hb with hb|hb<;>exact F.nl hb.symm
 ·obtain⟨x1,x2,x3,v₀,x4⟩:=S.2.offC x c e
  refine⟨?_,x2,x3,v₀,x4⟩
  rintro⟨q,hq,hb⟩
  rcases aH.mp hq with q'|q'
  ·exact x1 ⟨q,q',hb⟩
  ·rw[ax]at q';subst q'
   rcases hb with hb|hb<;>exact F.nc x c e hb
structure dK(B:Heap)(cx:Cx)(ow:Addr→Prop)(P:bE)(s:Shared)(P':bE)(s':Shared)(st':MS):Prop where
 sr:SR B cx P' st' s'.heap
 ext:jk P P' s.heap s'.heap (fun b=>sE cx.sc cx.env b∨ow b)
 shape:∃h' tk,s'={s with heap:=h',toks:=tk}
theorem dK.refl{cx:Cx}{ow:Addr→Prop}{P:bE}{s:Shared}{st:MS}(S:SR B cx P st s.heap):dK B cx ow P s P s st:=⟨S,jk.refl _ _ _,s.heap,s.toks,rfl⟩
theorem bq.o{cx:Cx}{ow:Addr→Prop}{P P':bE}{s s':Shared}{st':MS}(x:bq B cx P s P' s' st'):dK B cx ow P s P' s' st':=⟨x.sr,x.ext.weaken fun z_ q=>.inl q,x.shape⟩
theorem dK.trans{cx:Cx}{ow:Addr→Prop}{P P₁ P₂:bE}{s s₁ s₂:Shared}{st₁ st₂:MS}(a:dK B cx ow P s P₁ s₁ st₁)(b:dK B cx ow P₁ s₁ P₂ s₂ st₂):dK B cx ow P s P₂ s₂ st₂:=by
 refine⟨b.sr,a.ext.trans b.ext,?_⟩
 (refine vE a.shape fun h1 k1 q0_=>?_;subst q0_)
 refine vE b.shape fun h2 k2 e=>?_
 exact⟨h2,k2,e⟩
theorem jk.drop{P P':bE}{h h':Heap}{own own':Addr→Prop}(x:jk P P' h h' own')(k:∀b,own' b→own b∨h.get? b=none):jk P P' h h' own:=
 ⟨x.pre,fun b o e hf hn=>x.keep b o e hf fun q=>by
  rcases k b q with q|q
  ·exact hn q
  ·rw[q]at e;exact(nomatch e),x.imm,x.alive,x.fresh⟩
theorem dK.done{cx:Cx}{ow:Addr→Prop}{P P':bE}{s s':Shared}{st':MS}(x:dK B cx ow P s P' s' st')(k:∀b,ow b→s.heap.get? b=none):bq B cx P s P' s' st':=
 ⟨x.sr,x.ext.drop fun b q=>q.imp id (k b),x.shape⟩
theorem dK.weaken{cx:Cx}{ow ow':Addr→Prop}{P P':bE}{s s':Shared}{st':MS}(x:dK B cx ow P s P' s' st')(k:∀b,ow b→ow' b∨s.heap.get? b=none):dK B cx ow' P s P' s' st':=
 ⟨x.sr,x.ext.drop fun b q=>by
  rcases q with q|q
  ·exact .inl (.inl q)
  ·rcases k b q with q|q
   ·exact .inl (.inr q)
   ·exact .inr q,x.shape⟩
theorem dK.put{cx:Cx}{ow:Addr→Prop}{P:bE}{s:Shared}{st:MS}{h':Heap}{tk:Nat}{D:Addr}(S:SR B cx P st s.heap)(F:eL B cx P s.heap D)(hD:ow D)(k:∀b o,b≠D→s.heap.get? b=some o→h'.get? b=some o)
 (al:∃o,h'.get? D=some o):dK B cx ow P s P {s with heap:=h',toks:=tk} st:=
 ⟨S.put F k,⟨cR.refl P,fun b o e z_ hn=>k b o (fun q=>hn (.inr (q▸hD))) e,fun b o e hi=>k b o (fun q=>by
  subst q;refine aM F.ob fun o' e' n'=>?_;rw[e']at e;(obtain rfl:=ab e;clear e);exact n' hi) e,fun b o e=>by
  by_cases q:b=D
  ·subst q;exact al
  ·exact⟨o,k b o q e⟩,fun z_ hp=>.inl hp⟩,h',tk,rfl⟩
theorem dK.adopt{cx:Cx}{ow:Addr→Prop}{P P₁:bE}{s s₁:Shared}{st₁:MS}{D:Addr}{o:MO}(x:dK B cx ow P s P₁ s₁ st₁)(F:eL B cx P₁ s₁.heap D)(f:s.heap.get? D=none)(r:kb B (P₁++[(D,D)]) s₁.heap (D,D) o):
 dK B cx ow P s (P₁++[(D,D)]) s₁ {st₁ with hp:=st₁.hp++[o]}:=
 ⟨x.sr.adopt F r,⟨x.ext.pre.trans (cR.app _ _),x.ext.keep,x.ext.imm,x.ext.alive,fun p hp=>by
  rcases aH.mp hp with q|q
  ·exact x.ext.fresh p q
  ·replace q:=(ax).mp q;apply d6 q;exact .inr ⟨f,f⟩⟩,x.shape⟩
theorem qw{cx:Cx}{P:bE}{st:MS}{h:Heap}(S:SR B cx P st h){p:Addr×Addr}{h':Heap}:VR B (P++[p]) h' (.ref st.hp.length) (.ref p.1):=mA S
inductive lU(B:Heap)(P:bE)(h:Heap):List (MV×MV)→List (Value×Value)→Prop
 |nil:lU B P h [] []
 |cons {k v a b ps vs}:VR B P h k a→VR B P h v b→lU B P h ps vs→lU B P h ((k,v)::ps) ((a,b)::vs)
theorem lU.length{P:bE}{h:Heap}{ps vs}(x:lU B P h ps vs):ps.length=vs.length:=by
 induction x with
 |nil=>rfl
 |cons _ _ _ ih=>exact congrArg Nat.succ ih
theorem Af{P:bE}{h:Heap}{ps es es':List (MV×MV)}{vs:List (Value×Value)}{kvs:List (Str×Value)}(x:lU B P h ps vs):dF B P h es kvs→(kvs.map (·.1)).Nodup→kvs≠[]→iF ps es=some es'→
 ∃qs,Carries (strKind aQ w) vs qs∧dF B P h es' (y5 kvs qs):=by
 induction x generalizing es kvs with
 |nil=>exact fun p nd hn d=>⟨[],trivial,ab d▸p⟩
 | @cons k v key z ps vs rk ry b ih=>
  intro p nd hn d
  refine nY d fun hk d=>bT d fun e2 d1 d2=>?_
  cases k with
  |str x=>
   refine fH rk.inv fun tk hkey=>?_
   refine aM (ih (ld ry p nd d1) (fB nd _ _) eM d2) fun qs t1 t2=>?_
   exact⟨(x,z)::qs,⟨hkey.symm▸strKind_is aQ w x tk,rfl,t1⟩,t2⟩
  |int i=>exact(tc p hn d1).elim
  |_=>exact Bool.noConfusion hk
theorem Ag{P:bE}{h:Heap}{ps es es':List (MV×MV)}{vs:List (Value×Value)}{kvs:List (Int×Value)}(x:lU B P h ps vs):dj B P h es kvs→(kvs.map (·.1)).Nodup→kvs≠[]→iF ps es=some es'→
 ∃qs,Carries (intKind aQ w) vs qs∧dj B P h es' (y5 kvs qs):=by
 induction x generalizing es kvs with
 |nil=>exact fun p nd hn d=>⟨[],trivial,ab d▸p⟩
 | @cons k v key z ps vs rk ry b ih=>
  intro p nd hn d
  refine nY d fun hk d=>bT d fun e2 d1 d2=>?_
  cases k with
  |int x=>
   refine fH rk.inv fun tk hkey=>?_
   refine aM (ih (lf ry p nd d1) (fB nd _ _) eM d2) fun qs t1 t2=>?_
   exact⟨(x,z)::qs,⟨hkey.symm▸intKind_is aQ w x tk,rfl,t1⟩,t2⟩
  |str i=>exact(td p hn d1).elim
  |_=>exact Bool.noConfusion hk
theorem qT{f:Expr→MM MV}:∀{ks:List (Option Expr)}{vs:List Expr}{st st':MS}{ps:List (MV×MV)},pA f ks vs st=some (ps,st')→ks.all (·.isSome)=true∧ks.length=vs.length∧ps.length=ks.length
 |[],[],_,_,_,e=>by
  apply kH e
  exact⟨rfl,rfl,rfl⟩
 |some k::ks,v::vs,_,_,_,e=>by
  refine fV e fun a s1 e1 e=>?_
  refine fV e fun b s2 e2 e=>?_
  refine fV e fun r s3 e3 e=>?_
  apply kH e
  refine oO (qT e3) fun x y z=>?_
  exact⟨by simpa using x,by simp[y],by simp[z]⟩
 |none::_,[],_,_,_,e=>by exact bD e
 |none::_,_::_,_,_,_,e=>by exact bD e
 |[],_::_,_,_,_,e=>by exact bD e
 |some _::_,[],_,_,_,e=>by exact bD e
theorem uM{cx:Cx}{f:Expr→MM MV}(hf:∀e,fz B cx (eval e cx.env) (f e) (RV B)){pos:Pos}:∀{ks:List (Option Expr)}{vs:List Expr},fz B cx (evalPairs (pairTrees ks vs cx.env pos)) (pA f ks vs) (fun P h a u=>lU B P h a u)
 |[],[]=>fun st a st' e P s S=>by
  apply kH e
  exact pairTrees_nil_walk ⟨P,bq.refl S,.nil⟩
 |some k::ks,v::vs=>fun st a st' e P s S=>by
  refine fV e fun a s1 e1 e=>?_
  refine fV e fun b s2 e2 e=>?_
  refine fV e fun r s3 e3 e=>?_
  apply kH e
  exact pairTrees_cons_walk ((hf k).use e1 S fun u P₁ S₁ x₁ r₁=>(hf v).use e2 x₁.sr fun u2 P₂ S₂ x₂ r₂=>(uM hf).use e3 x₂.sr fun us P₃ S₃ x₃ r₃=>
   ⟨P₃,(x₁.trans x₂).trans x₃,.cons (x₃.ext.vr (x₂.ext.vr r₁)) (x₃.ext.vr r₂) r₃⟩)
 |none::_,[]=>fun st a st' e P s S=>by exact bD e
 |none::_,_::_=>fun st a st' e P s S=>by exact bD e
 |[],_::_=>fun st a st' e P s S=>by exact bD e
 |some _::_,[]=>fun st a st' e P s S=>by exact bD e
theorem Ds{cx:Cx}{f:Expr→MM MV}(hf:∀e,fz B cx (eval e cx.env) (f e) (RV B)){ks:List (Option Expr)}{vs:List Expr}{pos:Pos}:
 fz B cx (eval (.Dict ks vs pos) cx.env) (if 15 < ks.length then bP else aR (pA f ks vs) fun ps=>aR (iJ fun z_=>iF ps []) fun es=>d0 (.dict es)) (RV B):=fun st a st' e P s S=>by
 set_option tactic.hygienic true in split at e
 ·exact(dD e).elim
 rename_i hk
 refine fV e fun ps s1 e1 e=>?_
 refine fV e fun es s2 e2' e=>?_
 (refine d9 (fx e2') fun e2 q0_=>?_;subst q0_)
 (refine d9 (dJ e) fun q0_ q1_=>?_;subst q0_;subst q1_)
 refine oO (qT e1) fun a1 a2 a3=>?_
 have sz:=cA.sizeNone (h:=s.heap)
 have x₀:bq B cx P s P {s with heap:=s.heap.push {cls:=.type "dict",data:=.dict #[]}} st:=bq.growL (k:=s.toks) S (cA.ofGrow (cr _))
 have F₀:eL B cx P (s.heap.push {cls:=.type "dict",data:=.dict #[]}) s.heap.objs.size:=eL.new S sz ⟨_,bi _ rfl,fun hi=>by rcases hi with⟨a,_⟩|⟨a,_⟩<;>exact absurd a (by show¬(l7 _=l7 _);decide)⟩
 by_cases h0:ks=[]
 ·subst h0
  have:vs=[]:=dA.mp a2.symm
  subst this
  (refine d9 (jg e1) fun q0_ q1_=>?_;subst q0_;subst q1_)
  (obtain rfl:=ab e2;clear e2)
  refine wpAny_Dict_empty ?_
  refine⟨_,(x₀.o (ow:=fun z_=>False) |>.adopt F₀ sz ?_).done (fun z_ q=>q.elim),qw S⟩
  exact⟨rfl,.inl ⟨[],tO s.heap,.nil⟩⟩
 ·have gen:∀{K:Type}[DecidableEq K] (knd:cS aQ w K) (_:∀{P₁:bE}{h:Heap}{us},lU B P₁ h ps us→∃qs,Carries knd us qs∧∀(h':Heap) (P':bE),(∀a o,h.get? a=some o→imm o→h'.get? a=some o)→cR P₁ P'→h'.DictOf knd s.heap.objs.size (y5 [] qs)→kb B P' h' (s.heap.objs.size,s.heap.objs.size) (.dict es)),
   wpAny (model aQ w) cx.A (eval (.Dict ks vs pos) cx.env) (fun u s'=>∃P',bq B cx P s P' s' {s1 with hp:=s1.hp++[.dict es]}∧VR B P' s'.heap (.ref s1.hp.length) u) eP s:=fun{K} _ knd hq=>by
   refine wpAny_Dict_walk (knd:=knd) a1 a2 h0 (by exact aC.mp ‹_›) ?_
   refine(uM hf).use e1 x₀.sr fun us P₁ S₁ x₁ r₁=>?_
   refine aM (hq r₁) fun qs c1 c2=>?_
   refine d9 (F₀.ext x₁.ext F₀.notOwn) fun F₁ g₁=>?_
   refine⟨qs,c1,(tO s.heap).at fun o e=>g₁.trans e,fun h' hd hs=>?_⟩
   have hk':∀b o,b≠s.heap.objs.size→S₁.heap.get? b=some o→h'.get? b=some o:=fun b o hn e=>(hs.2 b hn).trans e
   obtain⟨o,es',ep,ho,hx,hdd,_⟩:=id hd
   have x₂:dK B cx (fun b=>b=s.heap.objs.size) P₁ S₁ P₁ {S₁ with heap:=h',toks:=S₁.toks+us.length} s1:=dK.put x₁.sr F₁ rfl hk' ⟨o,ho⟩
   have F₂:eL B cx P₁ h' s.heap.objs.size:=F₁.put ⟨o,ho,fun hi=>by rcases hi with⟨_,_,_,a⟩|⟨_,_,a⟩<;>(replace a:=(hdd)▸a;cases a)⟩
   have x₃:=((x₀.trans x₁).o.trans x₂)
   refine⟨_,(x₃.adopt F₂ sz (c2 h' _ ?_ (cR.app _ _) hd)).done (fun b q=>q▸sz),qw x₃.sr⟩
   refine aM F₁.ob fun oD eD nD=>?_
   exact fun a o e hi=>hk' a o (fun q=>by subst q;rw[eD]at e;(obtain rfl:=ab e;clear e);exact nD hi) e
  cases ps with
  |nil=>replace a3:=(iK)▸a3;exact absurd (dA.mp a3.symm) h0
  |cons p ps=>
   obtain⟨k,y⟩:=p
   unfold iF at e2
   set_option tactic.hygienic true in split at e2
   ·rename_i hk
    refine bT e2 fun e3 d1 d2=>?_
    cases k with
    |int x=>
     refine gen (intKind aQ w) fun{P₁ h us} r=>?_
     cases r with|cons rk ry rr=>
      (refine fH rk.inv fun tk q_=>?_;clear rk;first|apply d6 q_|apply dE q_);next=>
       refine aM (Ag rr (lf ry .nil (by simp) d1) (fB (by simp) _ _) eM d2) fun qs t1 t2=>?_
       exact⟨(x,_)::qs,⟨intKind_is aQ w x tk,rfl,t1⟩,fun h' P' g1 g2 hd=>⟨rfl,.inr ⟨_,hd,t2.mono g1 g2⟩⟩⟩
    |str x=>
     refine gen (strKind aQ w) fun{P₁ h us} r=>?_
     cases r with|cons rk ry rr=>
      (refine fH rk.inv fun tk q_=>?_;clear rk;first|apply d6 q_|apply dE q_);next=>
       refine aM (Af rr (ld ry .nil (by simp) d1) (fB (by simp) _ _) eM d2) fun qs t1 t2=>?_
       exact⟨(x,_)::qs,⟨strKind_is aQ w x tk,rfl,t1⟩,fun h' P' g1 g2 hd=>⟨rfl,.inl ⟨_,hd,t2.mono g1 g2⟩⟩⟩
    |_=>exact Bool.noConfusion hk
   ·exact bD e2
end
section
inductive tH(B:Heap)(P:bE)(h:Heap)(I:Addr):MV→Nat→Prop
 |list {n p i}:P[n]?=some p→h.IsListIter I p.1 i→tH B P h I (.ref n) i
 |tup {vs a items i}:IsTup h a items.toArray→dy B P h vs items→h.IsTupleIter I a i→tH B P h I (.tup vs) i
 |range {a b i}:¬big a=true→¬big b=true→IsRangeIter h I (a+(i:Nat)) (((b - a).toNat:Int) - (i:Nat)) 1→tH B P h I (.range a b) i
theorem tH.ext{P P':bE}{h h':Heap}{own:Addr→Prop}(x:jk P P' h h' own){I:Addr}(e:h'.get? I=h.get? I){v:MV}{i:Nat}(r:tH B P h I v i):tH B P' h' I v i:=by
 cases r with
 |list ep hi=>
  (refine aM hi fun o ho q=>?_;clear hi)
  exact .list (x.pre _ _ ep) ⟨o,e.trans ho,q⟩
 |tup ht hv hi=>
  (refine mh ht fun o ho hc n hd=>?_;clear ht)
  (refine aM hi fun o2 ho2 q=>?_;clear hi)
  exact .tup ⟨o,x.imm _ _ ho (.inl ⟨hc,_,n,hd⟩),hc,n,hd⟩ (x.vrs hv) ⟨o2,e.trans ho2,q⟩
 |range b1 b2 hi=>exact .range b1 b2 (e.trans hi)
theorem kZ{T:String}{xs:Array Value}{o:Obj}(hc:o.cls=.type T)(hd:o.data=.fields xs)(hT:T≠"range"):¬imm o:=by
 rintro(⟨_,_,_,a⟩|⟨a,_⟩)
 ·rw[hd]at a;cases a
 ·rw[hc]at a;cases a;exact hT rfl
theorem sQ{cx:Cx}{P:bE}{s:Shared}{st:MS}{v:MV}{u:Value}{x:Option MV}(e:cW st.hp v 0=some x)(S:SR B cx P st s.heap)(r:VR B P s.heap v u){A:Around}{Q:Value→Shared→Prop}
 (k:∀h',(∀b o,s.heap.get? b=some o→h'.get? b=some o)→eL B cx P h' s.heap.objs.size→tH B P h' s.heap.objs.size v 0→Q (.ref s.heap.objs.size) {s with heap:=h'}):wpAny (model aQ w) A (pyIter u) Q eP s:=by
 have F:∀(T:String) (xs:Array Value),T≠"range"→eL B cx P (s.heap.push {cls:=.type T,data:=.fields xs}) s.heap.objs.size:=fun T xs hT=>
  eL.new S cA.sizeNone ⟨_,bi _ rfl,kZ (T:=T) (xs:=xs) rfl rfl hT⟩
 unfold cW at e
 set_option tactic.hygienic true in split at e
 ·set_option tactic.hygienic true in split at e
  ·rename_i vs hn
   (refine aM r.inv fun p_ q_ ep=>?_;clear r;first|apply d6 q_|apply dE q_);next=>
    refine iM (S.1.obj _ _ _ hn ep) fun z_ items hl hv=>?_
    refine wpAny_pyIter_list hl.isList (k _ (cr _) (F _ _ (by decide)) ?_)
    exact .list ep ⟨_,bi _ rfl,rfl,rfl⟩
  ·exact bD e
 ·(refine eW r.inv fun a_ items_ q_ ht hv=>?_;clear r;first|apply d6 q_|apply dE q_);next=>
   refine wpAny_pyIter_tuple ht (k _ (cr _) (F _ _ (by decide)) ?_)
   (refine aM ht fun o ho q=>?_;clear ht)
   exact .tup ⟨o,cr _ _ _ ho,q⟩ (hv.mono (fun a o e z_=>cr _ _ _ e) (cR.refl P)) ⟨_,bi _ rfl,rfl,rfl⟩
 ·set_option tactic.hygienic true in split at e
  ·exact bD e
  ·rename_i hb
   simp only[cb,not_or]at hb
   (refine oK r.inv fun r_ t_ u_ y_ q_ hr=>?_;clear r;first|apply d6 q_|apply dE q_);next=>
    refine wpAny_pyIter_range hr (xn hb.1 hb.2) (k _ (cr _) (F _ _ (by decide)) (.range hb.1 hb.2 ?_))
    show Heap.get? _ _=_
    rw[bi _ rfl,oi]
    simp
 ·exact bD e
set_option tactic.hygienic true in
theorem xT{cx:Cx}{P:bE}{s:Shared}{st:MS}{v:MV}{i:Nat}{x:Option MV}{I:Addr}(e:cW st.hp v i=some x)(S:SR B cx P st s.heap)(F:eL B cx P s.heap I)(r:tH B P s.heap I v i){A:Around}(hh:A.handled=none){Q:Option Value→Shared→Prop}
 (k1:∀m u h' tk,x=some m→(∀b o,b≠I→s.heap.get? b=some o→h'.get? b=some o)→eL B cx P h' I→VR B P h' m u→tH B P h' I v (i+1)→Q (some u) {s with heap:=h',toks:=tk})
 (k0:∀h',x=none→(∀b o,b≠I→s.heap.get? b=some o→h'.get? b=some o)→Q none {s with heap:=h'}):wpAny (model aQ w) A (pyNext (.ref I)) Q eP s:=by
 have keep:∀{h':Heap},zk I s.heap h'→∀b o,b≠I→s.heap.get? b=some o→h'.get? b=some o:=fun hs b o hn e=>(hs.2 b hn).trans e
 have hk:∀{h':Heap},zk I s.heap h'→∀a o,s.heap.get? a=some o→imm o→h'.get? a=some o:=fun hs a o e hi=>keep hs a o (fun q=>by
  subst q;refine aM F.ob fun o' e' n'=>?_;rw[e']at e;(obtain rfl:=ab e;clear e);exact n' hi) e
 unfold cW at e
 cases r with
 |list ep hi=>
  rename_i n p
  dsimp only at e
  split at e
  ·rename_i vs hn
   (obtain rfl:=ab e;clear e)
   refine iM (S.1.obj _ _ _ hn ep) fun z_ items hl hv=>?_
   cases hx:vs[i]? with
   |none=>
    refine wpAny_pyNext_list_end hh hi hl.isList (by(erw[ju]);exact hv.getN hx) fun h' hs=>?_
    exact k0 h' hx hs
   |some m=>
    refine aM (hv.get hx) fun u hu ru=>?_
    refine wpAny_pyNext_list_item hi hl.isList (by rw[ju];exact hu) fun h' hi' hs=>?_
    refine dH (id hi') fun o ho hc hd=>?_
    exact k1 m u h' s.toks hx (keep hs) (F.put ⟨o,ho,kZ hc hd (by decide)⟩) (ru.mono (hk hs) (cR.refl P)) (.list ep hi')
  ·exact bD e
 |tup ht hv hi=>
  rename_i vs a items
  (obtain rfl:=ab e;clear e)
  cases hx:vs[i]? with
  |none=>
   refine wpAny_pyNext_tuple_end hh hi ht (by rw[ju];exact hv.getN hx) fun h' hs=>?_
   exact k0 h' hx hs
  |some m=>
   refine aM (hv.get hx) fun u hu ru=>?_
   refine wpAny_pyNext_tuple_item hi ht (by rw[ju];exact hu) fun h' hi' hs=>?_
   refine dH (id hi') fun o ho hc hd=>?_
   (refine mh ht fun o2 ho2 hc2 n2 hd2=>?_;clear ht)
   exact k1 m u h' s.toks hx (keep hs) (F.put ⟨o,ho,kZ hc hd (by decide)⟩) (ru.mono (hk hs) (cR.refl P)) (.tup ⟨o2,hk hs _ _ ho2 (.inl ⟨hc2,_,n2,hd2⟩),hc2,n2,hd2⟩ (hv.mono (hk hs) (cR.refl P)) hi')
 |range b1 b2 hi=>
  rename_i a b
  dsimp only at e
  split at e
  ·exact bD e
  ·(obtain rfl:=ab e;clear e)
   by_cases hlt:a+(i:Int) < b
   ·refine wpAny_pyNext_range_item hi (by omega) fun h' hi' hs=>?_
    exact k1 (.int (a+i)) _ h' (s.toks+1) (by(erw[if_pos hlt];with_reducible rfl)) (keep hs) (F.put ⟨_,hi',kZ rfl rfl (by decide)⟩) (.int _ _) (.range b1 b2 (by
     have e1:a+((i+1:Nat):Int)=a+i+1:=by lia
     have e2:((b - a).toNat:Int) - ((i+1:Nat):Int)=(b - a).toNat - i - 1:=by omega
     (erw[e1,e2]);exact hi'))
   ·refine wpAny_pyNext_range_end hh hi (by omega) fun h' hs=>?_
    exact k0 h' (by(erw[if_neg hlt];with_reducible rfl)) hs
theorem CR{cx:Cx}{P:bE}{s:Shared}{st:MS}{v m:MV}{i:Nat}{I:Addr}(e:cW st.hp v i=some (some m))(S:SR B cx P st s.heap)(F:eL B cx P s.heap I)(r:tH B P s.heap I v i){A:Around}(hh:A.handled=none){Q:Option Value→Shared→Prop}
 (k1:∀u h' tk,(∀b o,b≠I→s.heap.get? b=some o→h'.get? b=some o)→eL B cx P h' I→VR B P h' m u→tH B P h' I v (i+1)→Q (some u) {s with heap:=h',toks:=tk}):wpAny (model aQ w) A (pyNext (.ref I)) Q eP s:=
 xT e S F r hh (fun m' u h' tk hm g f q it=>k1 u h' tk g f (ab hm▸q) it) fun h' hm z_=>bD hm.symm
theorem uN{cx:Cx}{P:bE}{s:Shared}{st:MS}{v:MV}{i:Nat}{I:Addr}(e:cW st.hp v i=some none)(S:SR B cx P st s.heap)(F:eL B cx P s.heap I)(r:tH B P s.heap I v i){A:Around}(hh:A.handled=none){Q:Option Value→Shared→Prop}
 (k0:∀h',(∀b o,b≠I→s.heap.get? b=some o→h'.get? b=some o)→Q none {s with heap:=h'}):wpAny (model aQ w) A (pyNext (.ref I)) Q eP s:=
 xT e S F r hh (fun m' u h' tk hm z_ z_ z_ z_=>bD hm) fun h' z_ g=>k0 h' g
theorem Fq{P:bE}{s:Shared}{I:Addr}{v:MV}{i:Nat}(r:tH B P s.heap I v i){target:Expr}{u:Value}{A:Around}{E:Value→Shared→Prop}{Q:Unit→Shared→Prop}(hQ:Q () s):wpAny (model aQ w) A (letOwnedTupleGo target (.ref I) u) Q E s:=by
 have:∃o T xs,s.heap.get? I=some o∧o.cls=.type T∧o.data=.fields xs∧(["enumerate","zip","dict_itemiterator","dict_reverseitemiterator","odict_iterator","itertools.zip_longest","itertools.pairwise"].contains T)=false:=by
  cases r with
  |list _ hi=>(refine dH hi fun o ho hc hd=>?_;clear hi);exact⟨o,_,_,ho,hc,hd,by decide⟩
  |tup _ _ hi=>(refine dH hi fun o ho hc hd=>?_;clear hi);exact⟨o,_,_,ho,hc,hd,by decide⟩
  |range _ _ hi=>exact⟨_,_,_,hi,rfl,rfl,by decide⟩
 obtain⟨⟨cl,ha,da,sl⟩,T,xs,ho,rfl,rfl,hT⟩:=this
 have k0:wpAny (model aQ w) A (pure ()) Q E s:=wpAny_pure hQ
 have k1:∀(u:Value),wpAny (model aQ w) A (letOwnedTupleGo (.Tuple [] 0 ⟨0,0,0,0⟩) (.ref I) u) Q E s:=fun u=>by
  cases u with
  |ref a=>exact wpAny_bind (wpAny_load ho (d6 (C:=fun z=>wpAny (model aQ w) A z Q E s) (if_neg (fun q=>Bool.noConfusion ((d8.mp q).1.symm.trans hT))) k0))
  |_=>exact k0
 cases target with
 |Tuple=>exact k1 u
 |List=>exact k1 u
 |_=>exact k0
theorem At{P:bE}{s:Shared}{I:Addr}{v:MV}{i:Nat}(r:tH B P s.heap I v i){A:Around}{E:Value→Shared→Prop}{Q:Value→Shared→Prop}(hQ:Q (.ref I) s):wpAny (model aQ w) A (pyIter (.ref I)) Q E s:=by
 cases r with
 |list _ hi=>exact wpAny_pyIter_listiter hi hQ
 |tup _ _ hi=>exact wpAny_pyIter_tupleiter hi hQ
 |range _ _ hi=>exact wpAny_pyIter_rangeiter hi hQ
theorem dK.endI{cx:Cx}{ow:Addr→Prop}{P P₁:bE}{s s₁:Shared}{st₁:MS}{I:Addr}{h':Heap}{tk:Nat}(x:dK B cx ow P s P₁ s₁ st₁)(F:eL B cx P₁ s₁.heap I)(f:s.heap.get? I=none)(k:∀b o,b≠I→s₁.heap.get? b=some o→h'.get? b=some o):
 dK B cx ow P s P₁ {s₁ with heap:=h',toks:=tk} st₁:=by
 have ne:∀b o,s.heap.get? b=some o→b≠I:=fun b o e q=>by rw[q,f]at e;exact bD e
 refine⟨x.sr.put F k,⟨x.ext.pre,fun b o e hf hn=>k b o (ne b o e) (x.ext.keep b o e hf hn),fun b o e hi=>k b o (ne b o e) (x.ext.imm b o e hi),fun b o e=>?_,x.ext.fresh⟩,?_⟩
 ·obtain⟨o',e'⟩:=x.ext.alive b o e
  exact⟨o',k b o' (ne b o e) e'⟩
 ·obtain⟨h1,k1,rfl⟩:=x.shape
  exact⟨h',tk,rfl⟩
end
section
theorem ql{α:Type}{x:Str}{v:α}:∀(l:List (Str×α)),gv x (jf x v l)=some v
 |[]=>by unfold jf gv;(erw[if_pos rfl];with_reducible rfl)
 |(y,u)::r=>by
  unfold jf
  by_cases h:y=x
  ·(erw[if_pos h]);unfold gv;(erw[if_pos h];with_reducible rfl)
  ·(erw[if_neg h]);unfold gv;(erw[if_neg h]);exact ql r
theorem jU{α:Type}{x z:Str}{v:α}(hz:z≠x):∀(l:List (Str×α)),gv z (jf x v l)=gv z l
 |[]=>by unfold jf gv;(erw[if_neg (bS hz)]);rfl
 |(y,u)::r=>by
  unfold jf
  by_cases h:y=x
  ·(erw[if_pos h]);unfold gv;rw[if_neg (fun q=>hz (q.symm.trans h)),if_neg (fun q=>hz (q.symm.trans h))]
  ·(erw[if_neg h])
   unfold gv
   by_cases h2:y=z
   ·(erw[if_pos h2,if_pos h2];with_reducible rfl)
   ·(erw[if_neg h2,if_neg h2]);exact jU hz r
theorem HR.other{P:bE}{M:MH}{h h':Heap}{b₀:Addr}(H:HR B P M h)(nf:¬ke P b₀)(nb:B.get? b₀=none)(ni:∃o,h.get? b₀=some o∧¬imm o)(k:∀b o,b≠b₀→h.get? b=some o→h'.get? b=some o):HR B P M h':=by
 (refine aM ni fun oD eD nD=>?_;clear ni)
 have hk:∀a o,h.get? a=some o→imm o→h'.get? a=some o:=fun a o e hi=>k a o (fun q=>by subst q;rw[eD]at e;(obtain rfl:=ab e;clear e);exact nD hi) e
 exact⟨fun b o e=>k b o (fun q=>by subst q;rw[nb]at e;exact bD e) (H.stays b o e),H.len,fun n o p e1 e2=>(H.obj n o p e1 e2).keep hk (cR.refl P)
  (fun o e=>k _ o (fun q=>nf ⟨p,ak e2,.inl q.symm⟩) e) (fun o e=>k _ o (fun q=>nf ⟨p,ak e2,.inr q.symm⟩) e),H.apart,H.low⟩
theorem u4{P:bE}{h h':Heap}{own:Addr→Prop}{b₀:Addr}(ho:own b₀)(ni:∃o,h.get? b₀=some o∧¬imm o)(k:∀b o,b≠b₀→h.get? b=some o→h'.get? b=some o)(al:∃o,h'.get? b₀=some o):jk P P h h' own:=
 ⟨cR.refl P,fun b o e z_ hn=>k b o (fun q=>hn (q▸ho)) e,fun b o e hi=>k b o (fun q=>by
  subst q;(refine aM ni fun o' e' n'=>?_;clear ni);rw[e']at e;(obtain rfl:=ab e;clear e);exact n' hi) e,fun b o e=>by
  by_cases q:b=b₀
  ·subst q;exact al
  ·exact⟨o,k b o q e⟩,fun z_ hp=>.inl hp⟩
theorem kS{cx:Cx}{x:Str}{mv:MV}{v:Value}{y:Unit}{st st':MS}{P:bE}{s:Shared}(e:lF cx.sc x mv st=some (y,st'))(S:SR B cx P st s.heap)(xv:VR B P s.heap mv v){A:Around}:
 wpAny (model aQ w) A (storeName cx.env x v) (qW B cx P s st') eP s:=by
 unfold lF at e
 set_option tactic.hygienic true in split at e
 ·rename_i hlc
  ((refine d9 (dh e) fun q0_ q1_=>?_;subst q0_;subst q1_);clear e)
  have hkind:cx.env.kindOf x=cx.sc.names.lookup x:=by
   rcases S.2.kinds x with q|⟨q,_⟩
   ·exact q.symm
   ·rw[q]at hlc;exact Bool.noConfusion hlc
  have hcase:cx.sc.names.lookup x=some .local∨cx.sc.names.lookup x=some .cell:=by
   revert hlc
   cases cx.sc.names.lookup x with
   |none=>intro h;exact Bool.noConfusion h
   |some k=>cases k<;>intro h<;>first|((first|(exact Bool.noConfusion h)|(cases h));done)|exact .inl rfl|exact .inr rfl
  rcases hcase with hl|hl
  ·replace hkind:=(hl)▸hkind
   refine aM S.2.ns fun m hn hm=>?_
   refine wpAny_storeName_local hkind hn (fun h' hn' hs=>?_) (by(erw[S.2.kind]);rfl)
   have k:∀b o,b≠cx.env.locals→s.heap.get? b=some o→h'.get? b=some o:=fun b o hb e=>(hs.2 b hb).trans e
   refine vF (id hn') fun o' es' ep' ho' z_=>?_
   have E:jk P P s.heap h' (sE cx.sc cx.env):=u4 (.inl rfl) S.2.notImmL k ⟨o',ho'⟩
   refine⟨P,⟨⟨S.1.other S.2.offL.1 S.2.offL.2 S.2.notImmL k,S.2.kind,S.2.glob,S.2.blt,S.2.kinds,⟨_,hn',fun z mz ez kz=>?_⟩,fun z kz=>?_,S.2.cinj,S.2.offL,fun z c ez=>?_⟩,E,h',_,rfl⟩⟩
   ·by_cases hz:z=x
    ·subst hz
     rw[ql]at ez;(obtain rfl:=ab ez;clear ez)
     exact⟨v,if_pos rfl,E.vr xv⟩
    ·rw[jU hz]at ez
     refine aM (hm z mz ez kz) fun u e1 e2=>?_
     exact⟨u,by(erw[if_neg hz]);exact e1,E.vr e2⟩
   ·have hz:z≠x:=fun q=>by subst q;rw[hkind]at kz;rcases kz with q|q<;>cases q
    refine eW (S.2.cel z kz) fun c v₀ e1 e2 e3=>?_
    have hc:=(S.2.offC z c e1).2.2.1
    exact⟨c,v₀,e1,by(refine aM e2 fun o ho hd=>?_;clear e2);exact⟨o,k c o hc ho,hd⟩,fun mz ez=>by
     rw[jU hz]at ez
     obtain⟨u,⟨o,ho,hd⟩,e5⟩:=e3 mz ez
     exact⟨u,⟨o,k c o hc ho,hd⟩,E.vr e5⟩⟩
   ·obtain⟨a,b,d,v₀,o,ho,hd⟩:=S.2.offC z c ez
    exact⟨a,b,d,v₀,o,k c o d ho,hd⟩
  ·have hkind':cx.env.kindOf x=some .cell:=hkind.trans hl
   refine eW (S.2.cel x (.inl hkind')) fun c v₀ ec hc z_=>?_
   refine wpAny_storeName_cell S.2.kind hkind' ec hc fun h' hc' hs=>?_
   have k:∀b o,b≠c→s.heap.get? b=some o→h'.get? b=some o:=fun b o hb e=>(hs.2 b hb).trans e
   refine aM (id hc') fun o' ho' hd'=>?_
   have ni:=S.2.notImmC ec
   have E:jk P P s.heap h' (sE cx.sc cx.env):=u4 (.inr ⟨x,hl,ec⟩) ni k ⟨o',ho'⟩
   have oc:=S.2.offC x c ec
   refine⟨P,⟨⟨S.1.other oc.1 oc.2.1 ni k,S.2.kind,S.2.glob,S.2.blt,S.2.kinds,?_,fun z kz=>?_,S.2.cinj,S.2.offL,fun z cz ez=>?_⟩,E,h',s.toks,rfl⟩⟩
   ·obtain⟨m,hn,hm⟩:=S.2.ns
    refine⟨m,hn.at fun o e=>k _ o (bS oc.2.2.1) e,fun z mz ez kz=>?_⟩
    have hz:z≠x:=fun q=>by subst q;replace kz:=(hkind')▸kz;cases kz
    rw[jU hz]at ez
    refine aM (hm z mz ez kz) fun u e1 e2=>?_
    exact⟨u,e1,E.vr e2⟩
   ·by_cases hz:z=x
    ·subst hz
     refine⟨c,some v,ec,hc',fun mz ez=>?_⟩
     rw[ql]at ez;(obtain rfl:=ab ez;clear ez)
     exact⟨v,hc',E.vr xv⟩
    ·obtain⟨cz,vz,e1,e2,e3⟩:=S.2.cel z kz
     have hne:cz≠c:=fun q=>hz (S.2.cinj z x c (q▸e1) ec)
     exact⟨cz,vz,e1,by(refine aM e2 fun o ho hd=>?_;clear e2);exact⟨o,k cz o hne ho,hd⟩,fun mz ez=>by
      rw[jU hz]at ez
      obtain⟨u,⟨o,ho,hd⟩,e5⟩:=e3 mz ez
      exact⟨u,⟨o,k cz o hne ho,hd⟩,E.vr e5⟩⟩
   ·obtain⟨a,b,d,vz,o,ho,hd⟩:=S.2.offC z cz ez
    by_cases q:cz=c
    ·subst q;exact⟨a,b,d,some v,o',ho',hd'⟩
    ·exact⟨a,b,d,vz,o,k cz o q ho,hd⟩
 ·exact bD e
theorem xX{sc:Scope}{env:Env}:∀(ts:List Expr) {vs:List MV}{st st':MS}{y:Unit},kA sc ts vs st=some (y,st')→(assignEach ts env).length=vs.length∧∀q∈assignEach ts env,q.1=false:=by
 intro ts
 induction ts with
 |nil=>intro vs st st' y e;cases vs with|nil=>exact⟨rfl,fun q hq=>by cases hq⟩|cons _ _=>exact bD e
 |cons t ts ih=>intro vs st st' y e;cases vs with
  |nil=>cases t<;>exact bD e
  |cons v vs=>cases t with
   |Name x p=>
    refine fV e fun y1 s1 e1 e2=>?_
    refine d9 (ih e2) fun i1 i2=>?_
    refine⟨?_,fun q hq=>?_⟩
    ·show(assignEach ts env).length+1=vs.length+1
     (erw[i1];with_reducible rfl)
    ·rcases aF.mp (show q∈(false,assign (.Name x p) env)::assignEach ts env from hq)with rfl|hq
     ·rfl
     ·exact i2 q hq
   |_=>exact bD e
theorem CW{cx:Cx}:∀(ts:List Expr) {vs:List MV}{us:List Value}{y:Unit}{st st':MS}{P:bE}{s:Shared},kA cx.sc ts vs st=some (y,st')→SR B cx P st s.heap→dy B P s.heap vs us→∀{A:Around},
 wpAny (model aQ w) A (assignInOrder ((assignEach ts cx.env).map (·.2)) us) (qW B cx P s st') eP s:=by
 intro ts
 induction ts with
 |nil=>
  intro vs us y st st' P s e S xs A
  cases vs with
  |nil=>
   obtain⟨_,rfl⟩:=jg e
   cases xs
   exact wpAny_assignInOrder_none ⟨P,bq.refl S⟩
  |cons _ _=>exact bD e
 |cons t ts ih=>
  intro vs us y st st' P s e S xs A
  cases vs with
  |nil=>cases t<;>exact bD e
  |cons v vs=>cases t with
   |Name x p=>
    (refine eW xs.inv fun v_ vs_ q_ a b=>?_;clear xs;first|apply d6 q_|apply dE q_);next=>
     refine fV e fun y1 s1 e1 e2=>?_
     refine wpAny_assignInOrder_more (kM (wpAny_mono (kS e1 S a) (fun z_ s' hz=>?_) fun z_ z_ x=>x))
     (refine fH hz fun P₁ x₁=>?_;clear hz)
     refine wpAny_mono (ih e2 x₁.sr (x₁.ext.vrs b)) (fun z_ s2 hz=>?_) fun z_ z_ x=>x
     (refine fH hz fun P₂ x₂=>?_;clear hz)
     exact⟨P₂,x₁.trans x₂⟩
   |_=>exact bD e
set_option tactic.hygienic true in
theorem BA{cx:Cx}{t:Expr}{mv:MV}{v:Value}{y:Unit}{st st':MS}{P:bE}{s:Shared}(e:pH cx.sc t mv st=some (y,st'))(S:SR B cx P st s.heap)(xv:VR B P s.heap mv v){A:Around}(hh:A.handled=none):
 wpAny (model aQ w) A (assign t cx.env v) (qW B cx P s st') eP s:=by
 cases t with
 |Name x p=>exact kM (kS e S xv)
 |Tuple ts k p=>
  cases mv with
  |tup vs=>
   cases xv with|tup ht hv=>
    rename_i a items
    have hn:=xX (env:=cx.env) ts e
    refine wpAny_assign_Tuple hh ht (by(erw[aP,←hv.length]);exact hn.1) (by(refine(List.findIdx?_eq_none_iff).mpr ?_);exact hn.2) fun h' hx=>?_
    have g:∀b o,s.heap.get? b=some o→h'.get? b=some o:=fun b o e=>hx b o (aS (ci e)) e
    have x₀:bq B cx P s P {s with heap:=h'} st:=bq.grow (k:=s.toks) S g
    refine wpAny_mono (CW (A:=A) ts e x₀.sr (x₀.ext.vrs hv)) (fun z_ s2 hz=>?_) fun z_ z_ x=>x
    (refine fH hz fun P₂ x₂=>?_;clear hz)
    exact⟨P₂,x₀.trans x₂⟩
  |_=>exact(dD (st:=st) e).elim
 |_=>exact(dD (st:=st) e).elim
end
section
inductive qX(B:Heap)(P:bE)(h:Heap):MF→Flow→Prop
 |next:qX B P h .next .next
 |brk:qX B P h .brk .brk
 |cont:qX B P h .cont .cont
 |ret {m v}:VR B P h m v→qX B P h (.ret m) (.ret v)
noncomputable abbrev RF(B:Heap):bE→Heap→MF→Flow→Prop:=fun P h a u=>qX B P h a u
noncomputable abbrev St(B:Heap)(cx:Cx)(P:bE)(s:Shared)(st':MS)(a:MF):Flow→Shared→Prop:=fun f s'=>∃P',bq B cx P s P' s' st'∧qX B P' s'.heap a f
noncomputable def rE(next:Option (MF×MS))(st:MS)(a:MF)(st':MS):MF→Prop
 | .brk=>MF.next=a∧st=st'
 | .ret v=>MF.ret v=a∧st=st'
 |_=>next=some (a,st')
theorem yA{P:bE}{h:Heap}{next:Option (MF×MS)}{st st':MS}{a:MF}{f:MF}{u:Flow}(x:qX B P h f u){X:Flow→Prop}(o:rE next st a st' f)(c0:next=some (a,st')→X .next∧X .cont)(c1:MF.next=a→st=st'→X .brk)
 (c2:∀m v,VR B P h m v→MF.ret m=a→st=st'→X (.ret v)):X u:=match x,o with
 | .next,o=>(c0 o).1
 | .cont,o=>(c0 o).2
 | .brk,o=>c1 o.1 o.2
 | .ret q,o=>c2 _ _ q o.1 o.2
theorem x7{rest:MM MF}{f:MF}{st st':MS}{a:MF}(e:nk rest f st=some (a,st')):rE (rest st) st a st' f:=by
 cases f with
 |next=>exact e
 |cont=>exact e
 |brk=>exact dh e
 |ret v=>exact dh e
theorem pF{M:Model}{A:Around}{α:Type}{t:Sem α}{Q:α→Shared→Prop}{E:Value→Shared→Prop}{s:Shared}(h:wpAny M A t Q eP s):wpAny M A t Q E s:=wpAny_mono h (fun z_ z_ x=>x) fun z_ z_ x=>x.elim
theorem mU{cx:Cx}{f:Stmt→MM MF}(hf:∀e,fz B cx (exec e cx.env) (f e) (RF B)):∀l,fz B cx (execs l cx.env) (s7 f l) (RF B)
 |[]=>fun st a st' e P s S=>by
  apply kH e
  exact wpAny_execs_nil ⟨P,bq.refl S,.next⟩
 |x::r=>fun st a st' e P s S=>by
  refine fV e fun c s1 e1 e=>?_
  refine wpAny_execs_cons ((hf x).use e1 S fun u P₁ S₁ x₁ r₁=>?_)
  cases r₁ with
  |next=>exact x₁.after (mU hf r _ _ _ e _ _ x₁.sr)
  |brk=>apply kH e;exact⟨P₁,x₁,.brk⟩
  |cont=>apply kH e;exact⟨P₁,x₁,.cont⟩
  |ret q=>apply kH e;exact⟨P₁,x₁,.ret q⟩
theorem w5{mt:MM Bool}{mb:MM MF}{n:Nat}{st st':MS}{a:MF}{C:Prop}(e:ge mt mb n st=some (a,st'))(k0:∀st₁,mt st=some (false,st₁)→MF.next=a→st₁=st'→C)
 (k1:∀n' st₁ f st₂,n' < n→mt st=some (true,st₁)→mb st₁=some (f,st₂)→rE (ge mt mb n' st₂) st₂ a st' f→C):C:=by
 cases n with
 |zero=>exact bD e
 |succ n=>
  refine fV e fun c st₁ h e=>?_
  cases c with
  |false=>exact k0 st₁ h (dh e).1 (dh e).2
  |true=>exact fV (m:=mb) (f:=nk (ge mt mb n)) e fun f st₂ h2 e=>k1 n st₁ f st₂ (d4 n) h h2 (x7 e)
inductive Op(cx:Cx)(P:bE)(s:Shared)(loop:Nat→MM MF)(r:MF×MS)(n:Nat)(s':Shared):Prop
 |mk (P':bE) (st:MS) (x:bq B cx P s P' s' st) (e:loop n st=some r)
theorem BV{cx:Cx}{test:Expr}{body:List Stmt}{mt:MM Bool}{mb:MM MF}(ht:fz B cx (isTrue test cx.env (eval test cx.env)) mt RB)(hb:fz B cx (execs body cx.env) mb (RF B)){n:Nat}{pos:Pos}:
 fz B cx (exec (.While test body [] pos) cx.env) (ge mt mb n) (RF B):=fun st a st' e P s S=>by
 refine wpAny_While ?_
 refine codeAny_whileLoop (Op cx P s (ge mt mb) (a,st')) (fun k s₁ hI=>?_) n ⟨P,st,bq.refl S,e⟩
 cases hI with
 |mk P₁ st₁ x e=>
 refine w5 e (fun st₂ e1 ha hs=>?_) fun n' st₂ f st₃ hn e1 e2 ho=>?_
 ·refine pF (ht.use e1 x.sr fun u P₂ S₂ x₂ r₂=>?_)
  apply dE r₂
  exact wpAny_execs_nil ⟨P₂,hs▸x.trans x₂,ha▸.next⟩
 ·refine pF (ht.use e1 x.sr fun u P₂ S₂ x₂ r₂=>?_)
  apply dE r₂
  refine pF (hb.use e2 x₂.sr fun u P₃ S₃ x₃ r₃=>?_)
  have x:=(x.trans x₂).trans x₃
  apply yA r₃ ho
  ·exact fun h=>⟨⟨n',hn,P₃,st₃,x,h⟩,⟨n',hn,P₃,st₃,x,h⟩⟩
  ·exact fun ha hs=>⟨P₃,hs▸x,ha▸.next⟩
  ·exact fun m v q ha hs=>⟨P₃,hs▸x,ha▸.ret q⟩
theorem qU{A:Around}{R:Result→Shared→Prop}{s:Shared}{target:Expr}{it:Value}{body:List Stmt}{env:Env}(I:Nat→Shared→Prop)
 (turn:∀n s,I n s→wpAny (model aQ w) A (pyNext it) (fun r s₁=>match r with
  |none=>R (.ok .next) s₁
  |some v=>wpAny (model aQ w) A (letOwnedTupleGo target it v) (fun z_ s₀=>wpAny (model aQ w) A (assign target env v) (fun z_ s₂=>wpAny (model aQ w) A (execs body env) (fun f s₃=>match f with
   | .next| .cont=>∃m,m < n∧I m s₃
   | .brk=>R (.ok .next) s₃
   | .ret v=>R (.ok (.ret v)) s₃) eP s₂) eP s₀) eP s₁) eP s)
 (n:Nat) (h:I n s):codeAny (model aQ w) A (.forLoop target it body [] env) R s:=by
 refine codeAny_loop' rfl I (fun n s hI=>?_) n h
 show wpAny _ _ ((forTurn target it body [] env).onRaise (fun x=>do noteFrame x env;theTreesLotGoes x)) _ _ s
 refine wpAny_noted ?_
 simp only[forTurn]
 refine wpAny_bind (wpAny_standAt (wpAny_bind (wpAny_onRaise (wpAny_mono (turn n s hI) (fun r s₁ h₁=>?_) fun z_ z_ h'=>h'.elim))))
 cases r with
 |none=>exact wpAny_pure (.inr ⟨rfl,codeAny_block (wpAny_execs_nil h₁)⟩)
 |some v=>
  refine wpAny_bind (wpAny_mono h₁ (fun z_ s₀ h₀=>?_) fun z_ z_ h'=>h'.elim)
  refine wpAny_bind (wpAny_mono h₀ (fun z_ s₂ h₂=>wpAny_bind (wpAny_mono h₂ (fun f s₃ h₃=>?_) fun z_ z_ h'=>h'.elim)) fun z_ z_ h'=>h'.elim)
  cases f with
  |next=>exact wpAny_pure (.inl ⟨rfl,h₃⟩)
  |cont=>exact wpAny_pure (.inl ⟨rfl,h₃⟩)
  |brk=>exact wpAny_pure h₃
  |ret v=>exact wpAny_pure h₃
theorem qp{iter:Expr}{env:Env}(h:¬jj iter=true):∀x,foldedSetIterable iter env x=pure x:=fun x=>by
 cases iter<;>first|rfl|exact absurd rfl h
theorem u0{it:MV}{asg:MV→MM Unit}{mb:MM MF}{n i:Nat}{st st':MS}{a:MF}{C:Prop}(e:hV it asg mb n i st=some (a,st'))(k0:cW st.hp it i=some none→MF.next=a→st=st'→C)
 (k1:∀n' m y st₁ f st₂,n' < n→cW st.hp it i=some (some m)→asg m st=some (y,st₁)→mb st₁=some (f,st₂)→rE (hV it asg mb n' (i+1) st₂) st₂ a st' f→C):C:=by
 cases n with
 |zero=>exact bD e
 |succ n=>
  refine bT (o:=cW st.hp it i) e fun x h e=>?_
  cases x with
  |none=>exact k0 h (dh e).1 (dh e).2
  |some m=>exact fV (m:=asg m) (f:=fun z_=>aR mb (nk (hV it asg mb n (i+1)))) e fun y st₁ h2 e=>fV e fun f st₂ h3 e=>k1 n m y st₁ f st₂ (d4 n) h h2 h3 (x7 e)
theorem Dl{it:MV}{asg:MV→MM Unit}{mb:MM MF}{n i:Nat}{st st':MS}{a:MF}(e:hV it asg mb n i st=some (a,st')):∃x,cW st.hp it i=some x:=
 u0 e (fun h z_ z_=>⟨_,h⟩) fun z_ z_ z_ z_ z_ z_ z_ h z_ z_ z_=>⟨_,h⟩
theorem uq{cx:Cx}(hh:cx.A.handled=none){I:Addr}{tg:Expr}{P:bE}{s:Shared}{st st₁:MS}{v m:MV}{i:Nat}{y:Unit}(S:SR B cx P st s.heap)(F:eL B cx P s.heap I)(it:tH B P s.heap I v i)(e1:cW st.hp v i=some (some m))(e2:pH cx.sc tg m st=some (y,st₁)){Z:Shared→Prop}{X:Unit→Shared→Prop}
 (k:∀P' s' y,dK B cx (fun b=>b=I) P s P' s' st₁→eL B cx P' s'.heap I→tH B P' s'.heap I v (i+1)→X y s'):
 wpAny (model aQ w) cx.A (pyNext (.ref I)) (fun r s₁=>match r with
  |none=>Z s₁
  |some v=>wpAny (model aQ w) cx.A (letOwnedTupleGo tg (.ref I) v) (fun z_ s₀=>wpAny (model aQ w) cx.A (assign tg cx.env v) X eP s₀) eP s₁) eP s:=by
 refine CR e1 S F it hh fun u h₂ tk g₂ F₂ r₂ it₂=>?_
 have x₂:dK B cx (fun b=>b=I) P s P {s with heap:=h₂,toks:=tk} st:=dK.put S F rfl g₂ (aM F₂.ob fun o ho z_=>⟨o,ho⟩)
 refine Fq it₂ ?_
 refine wpAny_mono (BA e2 x₂.sr r₂ hh) (fun y s₄ hz=>?_) fun z_ z_ x=>x
 refine fH hz fun P₄ x₄=>?_
 have f:=F₂.ext x₄.ext F₂.notOwn
 exact k P₄ s₄ y (x₂.trans x₄.o) f.1 (it₂.ext x₄.ext f.2)
inductive PZ(cx:Cx)(I:Addr)(P:bE)(s:Shared)(v:MV)(loop:Nat→Nat→MM MF)(r:MF×MS)(n:Nat)(s':Shared):Prop
 |mk (P':bE) (st:MS) (i:Nat) (x:dK B cx (fun b=>b=I) P s P' s' st) (F:eL B cx P' s'.heap I) (it:tH B P' s'.heap I v i) (e:loop n i st=some r)
theorem Kw{cx:Cx}(hh:cx.A.handled=none){target iter:Expr}{body:List Stmt}{mi:MM MV}{mb:MM MF}(hs:¬jj iter=true)(hi:fz B cx (eval iter cx.env) mi (RV B))(hb:fz B cx (execs body cx.env) mb (RF B)){pos:Pos}:
 fz B cx (exec (.For target iter body [] pos) cx.env) (aR mi fun v=>fun s=>hV v (pH cx.sc target) mb (iR s.hp v+1) 0 s) (RF B):=fun st a st' e P s S=>by
 refine fV e fun v st₁ e1 e=>?_
 refine wpAny_For ?_ (qp hs)
 refine hi.use e1 S fun u P₁ S₁ x₁ r₁=>?_
 refine fH (Dl e) fun x ex=>?_
 refine sQ ex x₁.sr r₁ fun h' g F it=>?_
 have sz:=cA.sizeNone (h:=S₁.heap)
 revert F it
 generalize S₁.heap.objs.size=I at sz
 intro F it
 have x₂:bq B cx P₁ S₁ P₁ {S₁ with heap:=h'} st₁:=bq.grow (k:=S₁.toks) x₁.sr g
 have fin:∀{P' s' st},dK B cx (fun b=>b=I) P₁ S₁ P' s' st→bq B cx P s P' s' st:=fun x=>x₁.trans (x.done fun b q=>q▸sz)
 refine qU (PZ cx I P₁ S₁ v (hV v (pH cx.sc target) mb) (a,st')) (fun k s' hI=>?_) _ ⟨P₁,st₁,0,x₂.o,F,it,e⟩
 clear x₂ e F it ex r₁ g
 cases hI with
 |mk P₂ st₂ i x F it e=>
 refine u0 e (fun e1 ha hs=>?_) fun n' m y st₃ f st₄ hn e1 e2 e3 ho=>?_
 ·refine uN e1 x.sr F it hh fun h₂ g₂=>?_
  exact⟨P₂,hs▸fin (x.endI (tk:=s'.toks) F sz g₂),ha▸.next⟩
 ·refine uq hh x.sr F it e1 e2 fun P₅ s₅ z_ x₅ F₅ it₅=>?_
  refine hb.use e3 x₅.sr fun u P₆ S₆ x₆ r₆=>?_
  have f6:=F₅.ext x₆.ext F₅.notOwn
  have x:=(x.trans x₅).trans x₆.o
  have g:∀(h:hV v (pH cx.sc target) mb n' (i+1) st₄=some (a,st')),∃m,m < k∧PZ cx I P₁ S₁ v (hV v (pH cx.sc target) mb) (a,st') m S₆:=fun h=>⟨n',hn,P₆,st₄,i+1,x,f6.1,it₅.ext x₆.ext f6.2,h⟩
  apply yA r₆ ho
  ·exact fun h=>⟨g h,g h⟩
  ·exact fun ha hs=>⟨P₆,hs▸fin x,ha▸.next⟩
  ·exact fun m v q ha hs=>⟨P₆,hs▸fin x,ha▸.ret q⟩
theorem I8{cx:Cx}(hh:cx.A.handled=none){f:Expr→MM MV}(hf:∀e,fz B cx (eval e cx.env) (f e) (RV B))(hst:∀e,iB e=true→f e=bP){target e:Expr}{x:Str}{p p2 pos:Pos}{body:List Stmt}:
 fz B cx (exec (.For target (.Call (.Name x p) [e] [] p2) body [] pos) cx.env) (aR (f (.Name x p)) fun fv=>aR (f e) fun v=>v5 fv v) (RF B):=fun st a st' e P s S=>by
 refine fV e fun fv st₁ e1 e=>?_
 refine fV e fun v st₂ e2 e=>?_
 unfold v5 at e
 set_option tactic.hygienic true in split at e
 ·set_option tactic.hygienic true in split at e
  ·rename_i hn
   apply AO e
   refine wpAny_For ?_
   refine Call_ ((hf _).use e1 S fun u P₁ S₁ x₁ r₁=>?_) (Bx rfl)
   cases r₁
   refine lP (vs:=[.ref _]) hf hst (sP (id:="reversed") (G:=fun z_=>True)) (by unfold Bs;unfold aR;rw[e2];rfl) x₁.sr fun us P₂ S₂ x₂ r₂=>⟨trivial,?_⟩
   (refine eW r₂.inv fun v_ vs_ q_ ra rb=>?_;clear r₂;first|apply d6 q_|apply dE q_);next=>
    cases rb
    (refine aM ra.inv fun pp q_ ep=>?_;clear ra;first|apply d6 q_|apply dE q_);next=>
     refine iM (x₂.sr.1.obj _ _ _ hn ep) fun z_ items hl hv=>?_
     cases hv
     have sz:=cA.sizeNone (h:=S₂.heap)
     refine PySem.call_reversed_list hl.isList ?_
     have ob:∃xs,(S₂.heap.push (revObj pp.1 ((([]:List Value).toArray.size:Int) - 1))).get? S₂.heap.objs.size=some (revObj pp.1 ((([]:List Value).toArray.size:Int) - 1))∧(revObj pp.1 ((([]:List Value).toArray.size:Int) - 1)).data=.fields xs:=⟨_,bi _ rfl,rfl⟩
     have it:(S₂.heap.push (revObj pp.1 ((([]:List Value).toArray.size:Int) - 1))).IsRevIter S₂.heap.objs.size pp.1 (-1):=⟨_,bi _ rfl,rfl,by rfl⟩
     have x₃:bq B cx P₂ S₂ P₂ {S₂ with heap:=S₂.heap.push (revObj pp.1 ((([]:List Value).toArray.size:Int) - 1))} _:=bq.grow (k:=S₂.toks) x₂.sr (cr _)
     have F:eL B cx P₂ (S₂.heap.push (revObj pp.1 ((([]:List Value).toArray.size:Int) - 1))) S₂.heap.objs.size:=eL.new x₂.sr sz ⟨_,bi _ rfl,kZ (T:="list_reverseiterator") rfl rfl (by decide)⟩
     refine wpAny_pyIter_revIter it ?_
     refine qU (fun z_ s'=>s'={S₂ with heap:=S₂.heap.push (revObj pp.1 ((([]:List Value).toArray.size:Int) - 1))}) (fun k s' hI=>?_) 0 rfl
     apply d6 hI
     refine wpAny_pyNext_rev_end hh it fun h' g=>?_
     exact⟨P₂,(x₁.trans x₂).trans ((x₃.o.endI (ow:=fun b=>False) (tk:=S₂.toks) F sz g).done fun z_ q=>q.elim),.next⟩
  ·exact bD e
 ·exact bD e
end
theorem B0{elt:Expr}{gens:List Comprehension}{scope:Scope}{pos:Pos}{k:Nat}{t i:Expr}{ifs:List Expr}(hg:gens[k]?=some ⟨t,i,ifs,0⟩)(hn:gens[k+1]?=none)(it acc:Value)(env:Env):
 compTurn (.ListComp elt gens scope pos) k it acc env=(do
  standAt i.pos
  match←pyNext it with
  |none=>pure (.done .next)
  |some v=>
   letOwnedTupleGo t it v
   assign t env v
   let mut ok:=true
   for c in ifs do
    if ok then ok←isTrue c env (eval c env)
   if ok then
    (do let _←call (.builtin "list.append") [acc,←eval elt env])
   again (.compLoop (.ListComp elt gens scope pos) k it acc env)):=by
 unfold compTurn
 dsimp only
 (erw[hg])
 (erw[hn])
 rfl
theorem BZ{elt:Expr}{gens:List Comprehension}{scope:Scope}{pos:Pos}{k:Nat}{t i t2 i2:Expr}{ifs ifs2:List Expr}(hg:gens[k]?=some ⟨t,i,ifs,0⟩)(hn:gens[k+1]?=some ⟨t2,i2,ifs2,0⟩)(it acc:Value)(env:Env):
 compTurn (.ListComp elt gens scope pos) k it acc env=(do
  standAt i.pos
  match←pyNext it with
  |none=>pure (.done .next)
  |some v=>
   letOwnedTupleGo t it v
   assign t env v
   let mut ok:=true
   for c in ifs do
    if ok then ok←isTrue c env (eval c env)
   if ok then do
    let x←eval i2 env
    standAt i2.pos
    let x←foldedSetIterable i2 env x
    let _←runOwn (.compStart (.ListComp elt gens scope pos) (k+1) (←holding [x] (pyIter x)) acc env) env
    again (.compLoop (.ListComp elt gens scope pos) k it acc env)
   else again (.compLoop (.ListComp elt gens scope pos) k it acc env)):=by
 unfold compTurn
 dsimp only
 (erw[hg])
 (erw[hn])
 rfl
section
noncomputable abbrev vL(ifs:List Expr)(env:Env):Sem Bool:=forIn ifs true fun c r=>if r=true then do let ok←isTrue c env (eval c env);pure (ForInStep.yield ok)else pure (ForInStep.yield r)
noncomputable abbrev pI(elt:Expr)(acc:Value)(env:Env):Sem Unit:=do let _←call (.builtin "list.append") [acc,←eval elt env]
noncomputable abbrev pj(elt:Expr)(gens:List Comprehension)(scope:Scope)(pos:Pos)(k:Nat)(i2:Expr)(acc:Value)(env:Env):Sem Unit:=do
 let x←eval i2 env
 standAt i2.pos
 let x←foldedSetIterable i2 env x
 let _←runOwn (.compStart (.ListComp elt gens scope pos) (k+1) (←holding [x] (pyIter x)) acc env) env
 pure ()
theorem wM{A:Around}{R:Result→Shared→Prop}{s:Shared}{elt:Expr}{gens:List Comprehension}{scope:Scope}{pos:Pos}{k:Nat}{t i:Expr}{ifs:List Expr}(hg:gens[k]?=some ⟨t,i,ifs,0⟩){it acc:Value}{env:Env}{em:Sem Unit}
 (hem:(gens[k+1]?=none∧em=pI elt acc env)∨(∃t2 i2 ifs2,gens[k+1]?=some ⟨t2,i2,ifs2,0⟩∧em=pj elt gens scope pos k i2 acc env)) (I:Nat→Shared→Prop)
 (turn:∀n s,I n s→wpAny (model aQ w) A (pyNext it) (fun r s₁=>match r with
  |none=>R (.ok .next) s₁
  |some v=>wpAny (model aQ w) A (letOwnedTupleGo t it v) (fun z_ s₀=>wpAny (model aQ w) A (assign t env v) (fun z_ s₂=>
   wpAny (model aQ w) A (vL ifs env) (fun ok s₃=>
    if ok=true then wpAny (model aQ w) A em (fun z_ s₅=>∃m,m < n∧I m s₅) eP s₃
    else∃m,m < n∧I m s₃) eP s₂) eP s₀) eP s₁) eP s)
 (n:Nat) (h:I n s):
 codeAny (model aQ w) A (.compLoop (.ListComp elt gens scope pos) k it acc env) R s:=by
 refine codeAny_loop rfl I (fun n s hI=>?_) n h
 show wpAny _ A ((compTurn (.ListComp elt gens scope pos) k it acc env).onRaise (fun x=>do noteFrame x env;theTreesLotGoes x)) _ _ s
 refine wpAny_noted ?_
 have bb:∀{α:Type}{E E':Value→Shared→Prop}{m:Sem α}{Q:α→Shared→Prop}{s:Shared},wpAny (model aQ w) A m Q eP s→wpAny (model aQ w) A m Q E s:=fun h=>wpAny_mono h (fun z_ z_ x=>x) fun z_ z_ x=>x.elim
 rcases hem with⟨hn,rfl⟩|⟨t2,i2,ifs2,hn,rfl⟩
 ·rw[B0 hg hn]
  refine wpAny_bind (wpAny_standAt (wpAny_bind (wpAny_mono (turn n s hI) (fun r s₁ h₁=>?_) fun z_ z_ h'=>h'.elim)))
  cases r with
  |none=>exact wpAny_pure h₁
  |some v=>
   refine wpAny_bind (wpAny_mono h₁ (fun z_ s₀ h₀=>wpAny_bind (wpAny_mono h₀ (fun z_ s₂ h₂=>wpAny_bind (wpAny_mono h₂ (fun ok s₃ h₃=>?_) fun z_ z_ h'=>h'.elim)) fun z_ z_ h'=>h'.elim)) fun z_ z_ h'=>h'.elim)
   cases ok with
   |false=>exact wpAny_pure ⟨rfl,h₃⟩
   |true=>exact wpAny_bind (wpAny_mono h₃ (fun x s₄ h₄=>wpAny_pure ⟨rfl,h₄⟩) fun z_ z_ h'=>h'.elim)
 ·rw[BZ hg hn]
  refine wpAny_bind (wpAny_standAt (wpAny_bind (wpAny_mono (turn n s hI) (fun r s₁ h₁=>?_) fun z_ z_ h'=>h'.elim)))
  cases r with
  |none=>exact wpAny_pure h₁
  |some v=>
   refine wpAny_bind (wpAny_mono h₁ (fun z_ s₀ h₀=>wpAny_bind (wpAny_mono h₀ (fun z_ s₂ h₂=>wpAny_bind (wpAny_mono h₂ (fun ok s₃ h₃=>?_) fun z_ z_ h'=>h'.elim)) fun z_ z_ h'=>h'.elim)) fun z_ z_ h'=>h'.elim)
   cases ok with
   |false=>exact wpAny_pure ⟨rfl,h₃⟩
   |true=>
    have h4:wpAny (model aQ w) A (pj elt gens scope pos k i2 acc env >>=fun z_=>again (.compLoop (.ListComp elt gens scope pos) k it acc env)) (fun fin s'=>match fin with| .done f=>R (.ok f) s'| .again c'=>c'=.compLoop (.ListComp elt gens scope pos) k it acc env∧∃m,m < n∧I m s') (notedBy (model aQ w) A env fun e s'=>R (.error e) s') s₃:=
     wpAny_bind (wpAny_mono h₃ (fun x s₄ h₄=>wpAny_pure ⟨rfl,h₄⟩) fun z_ z_ h'=>h'.elim)
    simp only[pj,bind_assoc,pure_bind]at h4
    exact h4
theorem uc{A:Around}{R:Result→Shared→Prop}{s:Shared}{elt:Expr}{gens:List Comprehension}{scope:Scope}{pos:Pos}{k:Nat}{t i:Expr}{ifs:List Expr}(hg:gens[k]?=some ⟨t,i,ifs,0⟩){it acc:Value}{env:Env}
 (h0:codeAny (model aQ w) A (.compLoop (.ListComp elt gens scope pos) k it acc env) R s)
 (h:wpAny (model aQ w) A (pyIter it) (fun it' s'=>codeAny (model aQ w) A (.compLoop (.ListComp elt gens scope pos) k it' acc env) R s') eP s):
 codeAny (model aQ w) A (.compStart (.ListComp elt gens scope pos) k it acc env) R s:=by
 refine codeAny_of_tree ?_
 show wpAny _ _ ((compStart (.ListComp elt gens scope pos) k it acc env).onRaise (fun x=>do noteFrame x env;standAt theWindowsPlace)) _ _ s
 refine wpAny_notedAt ?_
 unfold compStart
 have hc:(clausesOf (.ListComp elt gens scope pos))[k]?=some ⟨t,i,ifs,0⟩:=hg
 (erw[hc])
 show wpAny _ _ (ask >>=_) _ _ s
 refine wpAny_bind (wpAny_askSetting (wpAny_ite ?_))
 split
 ·first
   |exact wpAny_bind (wpAny_pure (wpAny_pure (Lo rfl h0)))
   |exact wpAny_pure (Lo rfl h0)
 ·exact wpAny_bind (wpAny_rule (wpAny_bind (wpAny_standAt (wpAny_bind (wpAny_mono h (fun it' s' h'=>wpAny_pure (Lo rfl h')) fun z_ z_ x=>x.elim)))))
end
section
noncomputable def Ax(B:Heap)(cx:Cx)(D:Addr)(em:Sem Unit)(me:MM (List MV)):Prop:=∀st l st',me st=some (l,st')→∀P s acc,SR B cx P st s.heap→eL B cx P s.heap D→rG s.heap D acc→acc.length+l.length≤1000→
 wpAny (model aQ w) cx.A em (fun z_ s'=>∃P' us,dK B cx (fun b=>b=D) P s P' s' st'∧eL B cx P' s'.heap D∧rG s'.heap D (acc++us)∧dy B P' s'.heap l us) eP s
theorem qD{A:Around}{env:Env}{Q:Bool→Shared→Prop}{s:Shared}(h:Q false s):∀ifs:List Expr,wpAny (model aQ w) A (forIn ifs false fun c r=>if r=true then do let ok←isTrue c env (eval c env);pure (ForInStep.yield ok)else pure (ForInStep.yield r):Sem Bool) Q eP s
 |[]=>wpAny_pure h
 |c::r=>by
  rw[mS]
  exact wpAny_bind (wpAny_pure (qD h r))
theorem ur{cx:Cx}{t:Expr→MM Bool}(ht:∀e,fz B cx (isTrue e cx.env (eval e cx.env)) (t e) RB):∀ifs,fz B cx (vL ifs cx.env) (nT t .And ifs) RB
 |[]=>fun st a st' e P s S=>by
  apply kH e
  exact wpAny_pure ⟨P,bq.refl S,rfl⟩
 |c::r=>fun st a st' e P s S=>by
  refine fV e fun b s1 e1 e=>?_
  show wpAny (model aQ w) cx.A (forIn (c::r) true _) _ _ _
  (rw[mS];erw[if_pos rfl])
  refine wpAny_bind (wpAny_bind ((ht c).use e1 S fun u P₁ S₁ x₁ r₁=>wpAny_pure ?_))
  apply dE r₁
  cases b with
  |false=>
   apply kH e
   exact qD ⟨P₁,x₁,rfl⟩ r
  |true=>exact x₁.after (ur ht r _ _ _ e _ _ x₁.sr)
theorem rG.same{h h':Heap}{a:Addr}{items:List Value}(x:rG h a items)(e:h'.get? a=h.get? a):rG h' a items:=x.at fun o q=>e.trans q
theorem yZ{cx:Cx}{D:Addr}{f:Expr→MM MV}(hf:∀e,fz B cx (eval e cx.env) (f e) (RV B)){elt:Expr}:Ax B cx D (pI elt (.ref D) cx.env) (aR (f elt) fun v=>bO [v]):=fun st l st' e P s acc S Fr₀ hl hlen=>by
 refine fV e fun v s1 e1 e=>?_
 (refine d9 (jg e) fun q0_ q1_=>?_;subst q0_;subst q1_)
 refine wpAny_bind ((hf elt).use e1 S fun u P₁ S₁ x₁ r₁=>wpAny_bind ?_)
 refine d9 (Fr₀.ext x₁.ext Fr₀.notOwn) fun F₁ g₁=>?_
 refine fH (hl.same g₁) fun c hl₁=>?_
 refine call_meets F.slot_list_append ⟨_,hl₁,rfl⟩ F.entry_list_append (F.args_list_append_2 _ _) (list_append D acc.toArray c _ (by(erw[aP]);have:1000≤sizeLine:=(by decide);simp at hlen;lia)) ⟨hl₁,wpAny_pure ?_⟩
 have up:=rl hl₁ fun x=>x.push u
 have up':rG (S₁.heap.update D (Hg fun x=>x.push u)) D (acc++[u]):=⟨_,by
  have:(acc++[u]).toArray=acc.toArray.push u:=by simp
  rw[this];exact up⟩
 have x₂:dK B cx (fun b=>b=D) P₁ S₁ P₁ {S₁ with heap:=S₁.heap.update D (Hg fun x=>x.push u),toks:=S₁.toks} s1:=
  dK.put x₁.sr F₁ rfl (fun b o hb e=>(Heap.get?_update_other S₁.heap _ (bS hb)).trans e) ⟨_,up⟩
 refine⟨P₁,[u],x₁.o.trans x₂,F₁.put ⟨_,up,fun hi=>by rcases hi with⟨a,_⟩|⟨a,_⟩<;>exact absurd a (by show¬(l7 _=l7 _);decide)⟩,up',.cons (x₂.ext.vr r₁) .nil⟩
theorem th{it:MV}{asg:MV→MM Unit}{ok:MM Bool}{em:MM (List MV)}{k i:Nat}{st:MS}{r:List MV×MS}(e:eZ it asg ok em (k+1) i st=some r):∃x,cW st.hp it i=some x:=bT (o:=cW st.hp it i) e fun x h z_=>⟨x,h⟩
theorem Aj{it:MV}{asg:MV→MM Unit}{ok:MM Bool}{me:MM (List MV)}{n i:Nat}{st st':MS}{l:List MV}{C:Prop}(e:eZ it asg ok me n i st=some (l,st'))
 (k0:cW st.hp it i=some none→l=[]→st=st'→C)
 (k1:∀n' m y st₁ st₂,n' < n→cW st.hp it i=some (some m)→asg m st=some (y,st₁)→ok st₁=some (false,st₂)→eZ it asg ok me n' (i+1) st₂=some (l,st')→C)
 (k2:∀n' m y st₁ st₂ l₁ st₃ l₂,n' < n→cW st.hp it i=some (some m)→asg m st=some (y,st₁)→ok st₁=some (true,st₂)→me st₂=some (l₁,st₃)→eZ it asg ok me n' (i+1) st₃=some (l₂,st')→l=l₁++l₂→C):C:=by
 cases n with
 |zero=>exact bD e
 |succ n=>
  refine bT (o:=cW st.hp it i) e fun x h e=>?_
  cases x with
  |none=>exact k0 h (dh e).1.symm (dh e).2
  |some m=>
   exact fV (m:=asg m) (f:=fun z_=>aR ok (yO me (eZ it asg ok me n (i+1)))) e fun y st₁ h2 e=>fV e fun c st₂ h3 e=>by
    cases c with
    |false=>exact k1 n m y st₁ st₂ (d4 n) h h2 h3 e
    |true=>exact fV (m:=me) (f:=fun l=>aR (eZ it asg ok me n (i+1)) fun r=>bO (l++r)) e fun l₁ st₃ h4 e=>fV e fun l₂ st₄ h5 e=>k2 n m y st₁ st₂ l₁ st₃ l₂ (d4 n) h h2 h3 h4 ((dh e).2▸h5) (dh e).1.symm
inductive P0(cx:Cx)(I D:Addr)(P₀:bE)(s₀:Shared)(v:MV)(loop:Nat→Nat→MM (List MV))(l:List MV)(acc:List Value)(st':MS)(n:Nat)(s':Shared):Prop
 |mk (P':bE) (st:MS) (i:Nat) (l₁ l₂:List MV) (us:List Value) (x:dK B cx (fun b=>b=I∨b=D) P₀ s₀ P' s' st) (FI:eL B cx P' s'.heap I) (FD:eL B cx P' s'.heap D) (hl:rG s'.heap D (acc++us)) (r:dy B P' s'.heap l₁ us) (it:tH B P' s'.heap I v i) (e:loop n i st=some (l₂,st')) (hL:l=l₁++l₂)
theorem vc{cx:Cx}(hh:cx.A.handled=none){t:Expr→MM Bool}(ht:∀e,fz B cx (isTrue e cx.env (eval e cx.env)) (t e) RB){D I:Addr}(hne:I≠D){tg:Expr}{ifs:List Expr}{P₀ P:bE}{s₀ s:Shared}{st st₁ st₂:MS}{v m:MV}{i:Nat}{y:Unit}{c:Bool}{l:List MV}{us acc:List Value}
 (x:dK B cx (fun b=>b=I∨b=D) P₀ s₀ P s st) (F:eL B cx P s.heap I) (G:eL B cx P s.heap D) (hl:rG s.heap D acc) (r:dy B P s.heap l us) (it:tH B P s.heap I v i) (e1:cW st.hp v i=some (some m)) (e2:pH cx.sc tg m st=some (y,st₁)) (e3:nT t .And ifs st₁=some (c,st₂)) {Z:Shared→Prop}{X:Bool→Shared→Prop}
 (k:∀P' s',dK B cx (fun b=>b=I∨b=D) P₀ s₀ P' s' st₂→eL B cx P' s'.heap I→eL B cx P' s'.heap D→rG s'.heap D acc→dy B P' s'.heap l us→tH B P' s'.heap I v (i+1)→X c s'):
 wpAny (model aQ w) cx.A (pyNext (.ref I)) (fun r s₁=>match r with
  |none=>Z s₁
  |some v=>wpAny (model aQ w) cx.A (letOwnedTupleGo tg (.ref I) v) (fun z_ s₀=>wpAny (model aQ w) cx.A (assign tg cx.env v) (fun z_ s₂=>
   wpAny (model aQ w) cx.A (vL ifs cx.env) X eP s₂) eP s₀) eP s₁) eP s:=by
 refine uq hh x.sr F it e1 e2 fun P₄ s₄ z_ x₄ F₄ it₄=>?_
 refine(ur ht ifs).use e3 x₄.sr fun ok P₅ S₅ x₅ r₅=>?_
 have f2:=G.ext x₄.ext (fun q=>q.elim G.notOwn (bS hne))
 have f3:=F₄.ext x₅.ext F₄.notOwn
 have f4:=f2.1.ext x₅.ext G.notOwn
 exact r₅▸k P₅ S₅ ((x.trans (x₄.weaken fun b q=>.inl (.inl q))).trans x₅.o) f3.1 f4.1 ((hl.same f2.2).same f4.2) (x₅.ext.vrs (x₄.ext.vrs r)) (it₄.ext x₅.ext f3.2)
theorem u9{cx:Cx}(hh:cx.A.handled=none){t:Expr→MM Bool}(ht:∀e,fz B cx (isTrue e cx.env (eval e cx.env)) (t e) RB){D:Addr}{elt:Expr}{gens:List Comprehension}{scope:Scope}{pos:Pos}{k:Nat}{tg i0:Expr}{ifs:List Expr}(hg:gens[k]?=some ⟨tg,i0,ifs,0⟩)
 {em:Sem Unit}{me:MM (List MV)}(hem:(gens[k+1]?=none∧em=pI elt (.ref D) cx.env)∨(∃t2 i2 ifs2,gens[k+1]?=some ⟨t2,i2,ifs2,0⟩∧em=pj elt gens scope pos k i2 (.ref D) cx.env))
 (EM:Ax B cx D em me) {P₀ P:bE}{s₀ s:Shared}{st st':MS}{I:Addr}{v:MV}{n:Nat}{l:List MV}{acc:List Value}(hI:s₀.heap.get? I=none) (hne:I≠D)
 (x₀:dK B cx (fun b=>b=I∨b=D) P₀ s₀ P s st) (FI:eL B cx P s.heap I) (FD:eL B cx P s.heap D) (hl:rG s.heap D acc) (it:tH B P s.heap I v 0) (e:eZ v (pH cx.sc tg) (nT t .And ifs) me n 0 st=some (l,st')) (hlen:acc.length+l.length≤1000)
 {R:Result→Shared→Prop}(K:∀P' s' us,dK B cx (fun b=>b=D) P₀ s₀ P' s' st'→eL B cx P' s'.heap D→rG s'.heap D (acc++us)→dy B P' s'.heap l us→R (.ok .next) s'):
 codeAny (model aQ w) cx.A (.compLoop (.ListComp elt gens scope pos) k (.ref I) (.ref D) cx.env) R s:=by
 refine wM hg hem (P0 cx I D P₀ s₀ v (eZ v (pH cx.sc tg) (nT t .And ifs) me) l acc st') (fun n s' hInv=>?_) n ⟨P,st,0,[],l,[],x₀,FI,FD,(bk acc).symm▸hl,.nil,it,e,rfl⟩
 cases hInv with
 |mk P₂ st₂ i l₁ l₂ us x F G hl r it e hL=>
 refine Aj e (fun e1 h0 hs=>?_) (fun n' m y st₃ st₄ hn e1 e2 e3 e4=>?_) fun n' m y st₃ st₄ l₃ st₅ l₄ hn e1 e2 e3 e4 e5 hl2=>?_
 ·refine uN e1 x.sr F it hh fun h₂ g₂=>?_
  have kD:h₂.get? D=s'.heap.get? D:=aM G.ob fun o ho z_=>(g₂ D o (bS hne) ho).trans ho.symm
  refine K P₂ _ us (hs▸(x.endI (tk:=s'.toks) F hI g₂).weaken fun b q=>q.elim (fun q=>.inr (q▸hI)) .inl) (G.put (aM G.ob fun o ho hn=>⟨o,kD.trans ho,hn⟩)) (hl.same kD) ?_
  (erw[hL,h0];rw[bk])
  exact r.mono (fun a o e hi=>g₂ a o (fun q=>aM F.ob fun oI eI nI=>nI (ab ((q▸eI).symm.trans e)▸hi)) e) (cR.refl _)
 ·exact vc hh ht hne x F G hl r it e1 e2 e3 fun P₅ S₅ x₅ F₅ G₅ hl₅ r₅ it₅=>by
   (refine(if_neg Bool.noConfusion).mpr ?_)
   exact⟨n',hn,P₅,st₄,i+1,l₁,l₂,us,x₅,F₅,G₅,hl₅,r₅,it₅,e4,hL⟩
 ·exact vc hh ht hne x F G hl r it e1 e2 e3 fun P₅ S₅ x₅ F₅ G₅ hl₅ r₅ it₅=>by
   (erw[if_pos rfl])
   have len:(acc++us).length+l₃.length≤1000:=by
    rw[hL,hl2]at hlen;simp only[aJ]at hlen ⊢;(erw[←r.length]);lia
   refine wpAny_mono (EM st₄ l₃ st₅ e4 P₅ S₅ (acc++us) x₅.sr G₅ hl₅ len) (fun z_ s₇ hz=>?_) fun z_ z_ x=>x
   (refine Hz hz fun P₇ us₇ x₇ G₇ hl₇ r₇=>?_;clear hz)
   have f7:=F₅.ext x₇.ext (fun q=>q.elim F₅.notOwn hne)
   exact⟨n',hn,P₇,st₅,i+1,l₁++l₃,l₄,us++us₇,x₅.trans (x₇.weaken fun b q=>.inl (.inr q)),f7.1,G₇,(dM acc us us₇)▸hl₇,(x₇.ext.vrs r₅).append r₇,it₅.ext x₇.ext f7.2,e5,hL.trans ((congrArg (l₁++ ·) hl2).trans (dM l₁ l₃ l₄).symm)⟩
theorem KJ{cx:Cx}(hh:cx.A.handled=none){f:Expr→MM MV}{t:Expr→MM Bool}(hf:∀e,fz B cx (eval e cx.env) (f e) (RV B))(ht:∀e,fz B cx (isTrue e cx.env (eval e cx.env)) (t e) RB){D:Addr}{elt:Expr}{gens:List Comprehension}{scope:Scope}{pos:Pos}:
 ∀(gs:List Comprehension) (k:Nat),gens.drop k=gs→gs.any (fun g=>jj g.iter||g.is_async != 0)=false→∀{P₀ P:bE}{s₀ s:Shared}{st st':MS}{I:Addr}{v:MV}{l:List MV}{acc:List Value},s₀.heap.get? I=none→I≠D→
  dK B cx (fun b=>b=I∨b=D) P₀ s₀ P s st→eL B cx P s.heap I→eL B cx P s.heap D→rG s.heap D acc→tH B P s.heap I v 0→qu cx.sc f t (aR (f elt) fun v=>bO [v]) gs v st=some (l,st')→acc.length+l.length≤1000→
  ∀{R:Result→Shared→Prop},(∀P' s' us,dK B cx (fun b=>b=D) P₀ s₀ P' s' st'→eL B cx P' s'.heap D→rG s'.heap D (acc++us)→dy B P' s'.heap l us→R (.ok .next) s')→
  codeAny (model aQ w) cx.A (.compStart (.ListComp elt gens scope pos) k (.ref I) (.ref D) cx.env) R s:=by
 intro gs
 induction gs with
 |nil=>intro k hd ha P₀ P s₀ s st st' I v l acc hI hne x₀ FI FD hl it e;exact(dD e).elim
 |cons g gs ih=>
  intro k hd ha P₀ P s₀ s st st' I v l acc hI hne x₀ FI FD hl it e hlen R K
  obtain⟨tg,i0,ifs,as⟩:=g
  have hg:gens[k]?=some ⟨tg,i0,ifs,as⟩:=by
   have:=congrArg (fun l=>l[0]?) hd
   simpa[gM] using this
  (rw[dr]at ha;replace ha:=(b9).mp ha)
  (refine d9 ha fun ha1 ha2=>?_;clear ha)
  simp only[b9,bne_eq_false_iff_eq]at ha1
  (refine d9 ha1 fun ha1 q0_=>?_;subst q0_)
  have hn:∀{em:Sem Unit}{me:MM (List MV)}{n:Nat},(gens[k+1]?=none∧em=pI elt (.ref D) cx.env)∨(∃t2 i2 ifs2,gens[k+1]?=some ⟨t2,i2,ifs2,0⟩∧em=pj elt gens scope pos k i2 (.ref D) cx.env)→Ax B cx D em me→
   eZ v (pH cx.sc tg) (nT t .And ifs) me n 0 st=some (l,st')→codeAny (model aQ w) cx.A (.compStart (.ListComp elt gens scope pos) k (.ref I) (.ref D) cx.env) R s:=fun hem EM e=>
   uc hg (u9 hh ht hg hem EM hI hne x₀ FI FD hl it e hlen K) (At it (u9 hh ht hg hem EM hI hne x₀ FI FD hl it e hlen K))
  cases gs with
  |nil=>
   have h1:gens[k+1]?=none:=by
    have:=congrArg (fun l=>l[1]?) hd
    simpa[gM,ro] using this
   exact hn (.inl ⟨h1,rfl⟩) (yZ hf) e
  |cons g2 gs=>
   have h1:gens[k+1]?=some g2:=by
    have:=congrArg (fun l=>l[1]?) hd
    simpa[gM,ro] using this
   have hd2:gens.drop (k+1)=g2::gs:=by
    have:=congrArg (y7 1) hd
    simpa[nW,ro] using this
   obtain⟨t2,i2,ifs2,as2⟩:=g2
   have ha3:=ha2
   (rw[dr]at ha3;replace ha3:=(b9).mp ha3)
   simp only[b9,bne_eq_false_iff_eq]at ha3
   obtain⟨⟨hs2,rfl⟩,_⟩:=ha3
   refine hn (.inr ⟨t2,i2,ifs2,h1,rfl⟩) ?_ e
   intro st₁ l₁ st₁' e₁ P₁ s₁ acc₁ S₁ F₁ hl₁ hlen₁
   refine fV e₁ fun x s2 e2 e3=>?_
   refine wpAny_bind ((hf i2).use e2 S₁ fun u P₂ S₂ x₂ r₂=>wpAny_bind (wpAny_standAt (wpAny_bind (wpAny_of_eq (qp (by(erw[hs2]);exact Bool.noConfusion) u) ?_))))
   refine d9 (F₁.ext x₂.ext F₁.notOwn) fun F₂ g₂=>?_
   have hl₂:=hl₁.same g₂
   have e3':=e3
   obtain⟨y,ey⟩:∃y,cW s2.hp x 0=some y:=by
    cases gs<;>exact th e3
   have sz:=cA.sizeNone (h:=S₂.heap)
   have hne2:S₂.heap.objs.size≠D:=fun q=>by refine aM F₂.ob fun o ho z_=>?_;rw[←q,sz]at ho;exact bD ho
   refine wpAny_bind (wpAny_holding (sQ ey x₂.sr r₂ fun h' g' F' it'=>?_))
   have x₃:bq B cx P₂ S₂ P₂ {S₂ with heap:=h'} s2:=bq.grow (k:=S₂.toks) x₂.sr g'
   refine d9 (F₂.ext x₃.ext F₂.notOwn) fun F₃ g₃=>?_
   refine wpAny_bind (wpAny_runOwn ?_)
   refine ih (k+1) hd2 ha2 (P₀:=P₂) (s₀:=S₂) sz hne2 x₃.o F' F₃ (hl₂.same g₃) it' e3 hlen₁ fun P' s' us x₄ F₄ hl₄ rr=>?_
   exact wpAny_pure ⟨P',us,x₂.o.trans x₄,F₄,hl₄,rr⟩
end
set_option backward.match.sparseCases false
section
theorem oy{env:Env}:∀(L:List (Str×NameKind)) (cs:List (Str×Addr)),(∀y∈L,y.2=.free→∃c,env.cells.lookup y.1=some c)→(∀x c,cs.lookup x=some c→env.cells.lookup x=some c)→
 ∃cl,(forIn L cs (fun(y:Str×NameKind) (cs:List (Str×Addr))=>if(y.2==.free)=true then(do let c←cellOf env y.1;pure (ForInStep.yield ((y.1,c)::cs)))else pure (ForInStep.yield cs)):Sem (List (Str×Addr)))=pure cl∧
  (∀x c,cl.lookup x=some c→env.cells.lookup x=some c)∧(∀x c,cl.lookup x=some c→cs.lookup x=some c∨∃y∈L,y.1=x∧y.2=.free)∧(∀y∈L,y.2=.free→cl.lookup y.1=env.cells.lookup y.1)∧(∀x c,cs.lookup x=some c→cl.lookup x=some c)
 |[],cs,_,hc=>⟨cs,rfl,hc,fun x c e=>.inl e,fun y hy=>(nomatch hy),fun z_ z_ e=>e⟩
 |(n,k)::L,cs,hL,hc=>by
  rw[mS]
  by_cases hk:k=.free
  ·subst hk
   refine fH (hL (n,.free) (.head _) rfl) fun c ec=>?_
   have hc':∀x c',ig x ((n,c)::cs)=some c'→env.cells.lookup x=some c':=fun x c' e=>by
    rw[bv]at e
    by_cases hx:x==n
    ·rw[hx]at e;(obtain rfl:=ab e;clear e)
     have:=eq_of_beq hx
     (erw[this]);exact ec
    ·rw[ca]at hx;rw[hx]at e;exact hc x c' e
   refine oM (oy L ((n,c)::cs) (fun y hy=>hL y (.tail _ hy)) hc') fun cl h1 h2 h3 h4 h5=>?_
   refine⟨cl,?_,h2,fun x c' e=>?_,fun y hy hf=>?_,fun x c' e=>?_⟩
   ·have:cellOf env n=pure c:=by unfold cellOf;(erw[ec];with_reducible rfl)
    (erw[this])
    exact h1
   ·rcases h3 x c' e with q|⟨y,hy,q⟩
    ·rw[bv]at q
     by_cases hx:x==n
     ·exact .inr ⟨(n,.free),.head _,(eq_of_beq hx).symm,rfl⟩
     ·rw[ca]at hx;rw[hx]at q;exact .inl q
    ·exact .inr ⟨y,.tail _ hy,q⟩
   ·rcases aF.mp hy with rfl|hy
    ·(erw[h5 n c (by rw[bv,beq_self_eq_true])]);exact ec.symm
    ·exact h4 y hy hf
   ·refine h5 x c' ?_
    rw[bv]
    by_cases hx:x==n
    ·have:=eq_of_beq hx
     subst this
     have:=hc x c' e
     (erw[hx,←this,ec];with_reducible rfl)
    ·rw[ca]at hx;(erw[hx]);exact e
  ·have hb:(k==NameKind.free)=false:=by cases k<;>first|rfl|exact absurd rfl hk
   refine oM (oy L cs (fun y hy=>hL y (.tail _ hy)) hc) fun cl h1 h2 h3 h4 h5=>?_
   refine⟨cl,?_,h2,fun x c' e=>?_,fun y hy hf=>?_,h5⟩
   ·show(if(k==NameKind.free)=true then _ else _) >>=_=_
    rw[if_neg (by rw[hb];exact Bool.noConfusion)]
    exact h1
   ·rcases h3 x c' e with q|⟨y,hy,q⟩
    ·exact .inl q
    ·exact .inr ⟨y,.tail _ hy,q⟩
   ·rcases aF.mp hy with rfl|hy
    ·exact absurd hf hk
    ·exact h4 y hy hf
theorem tm{own:Scope}{env:Env}(h:∀y∈own.names,y.2=.free→∃c,env.cells.lookup y.1=some c):∃cl,closureFor own env=pure cl∧(∀x c,cl.lookup x=some c→env.cells.lookup x=some c)∧(∀x c,cl.lookup x=some c→∃y∈own.names,y.1=x∧y.2=.free)∧
 (∀y∈own.names,y.2=.free→cl.lookup y.1=env.cells.lookup y.1):=by
 refine oM (oy own.names [] h (fun x c e=>by exact bD e)) fun cl h1 h2 h3 h4 h5=>?_
 refine⟨cl,?_,h2,fun x c e=>?_,h4⟩
 ·have e0:closureFor own env=(forIn own.names [] (fun(y:Str×NameKind) (cs:List (Str×Addr))=>if(y.2==.free)=true then(do let c←cellOf env y.1;pure (ForInStep.yield ((y.1,c)::cs)))else pure (ForInStep.yield cs)) >>=fun cs=>pure cs):=rfl
  (erw[e0,h1]);rfl
 ·rcases h3 x c e with q|q
  ·exact bD q
  ·exact q
theorem oh{c:Str→NameKind→Bool}:∀(names:List (Str×NameKind)) (x:Str),(names.map fun y=>if c y.1 y.2=true then(y.1,NameKind.cell)else(y.1,y.2)).lookup x=(names.lookup x).map fun k=>if c x k=true then .cell else k
 |[],x=>rfl
 |(n,k)::r,x=>by
  (erw[bj])
  have ih:=oh (c:=c) r x
  by_cases hx:x==n
  ·have hxn:=eq_of_beq hx
   apply dE hxn
   (erw[bv (as:=r)];rw[beq_self_eq_true])
   by_cases hc:c x k=true
   ·show ig x ((if c x k=true then(x,NameKind.cell)else(x,k))::_)=some (if c x k=true then _ else _)
    (erw[if_pos hc,if_pos hc];rw[bv,beq_self_eq_true])
   ·show ig x ((if c x k=true then(x,NameKind.cell)else(x,k))::_)=some (if c x k=true then _ else _)
    (erw[if_neg hc,if_neg hc];rw[bv,beq_self_eq_true])
  ·rw[ca]at hx
   (erw[bv (as:=r),hx])
   by_cases hc:c n k=true
   ·show ig x ((if c n k=true then(n,NameKind.cell)else(n,k))::_)=_
    (erw[if_pos hc];rw[bv];erw[hx]);exact ih
   ·show ig x ((if c n k=true then(n,NameKind.cell)else(n,k))::_)=_
    (erw[if_neg hc];rw[bv];erw[hx]);exact ih
structure Hb(sc own:Scope):Prop where
 kind:own.kind=.function
 lk:∀y∈own.names,own.names.lookup y.1=some y.2
 nc:∀y∈own.names,y.2≠.cell
 fr:∀y∈own.names,y.2=.free→sc.names.lookup y.1=some .cell∨sc.names.lookup y.1=some .free
theorem NT{a b:NameKind}(h:(a==b)=true):a=b:=by cases a<;>cases b<;>first|rfl|exact Bool.noConfusion h
theorem na{a b:Option NameKind}(h:(a==b)=true):a=b:=by
 cases a with
 |none=>cases b with|none=>rfl|some _=>exact Bool.noConfusion h
 |some a=>cases b with
  |none=>exact Bool.noConfusion h
  |some b=>exact congrArg some (NT h)
theorem ve{sc own:Scope}(h:mL sc own=true):Hb sc own:=by
 unfold mL at h
 rw[bf,bd]at h
 (refine d9 h fun h1 h2=>?_;clear h)
 have h3:=fun y hy=>h2 y hy
 have hk:own.kind=.function:=by revert h1;cases own.kind<;>intro h1<;>first|rfl|exact Bool.noConfusion h1
 refine⟨hk,fun y hy=>?_,fun y hy q=>?_,fun y hy q=>?_⟩
 ·have:=h3 y hy
  simp only[bf]at this
  exact na this.1.1
 ·have:=h3 y hy
  simp only[bf]at this
  rw[q]at this
  exact absurd this.1.2 (by decide)
 ·have:=h3 y hy
  simp only[bf,cb]at this
  rw[q]at this
  rcases this.2 with(a|a)|a
  ·exact absurd a (by decide)
  ·exact .inl (na a)
  ·exact .inr (na a)
theorem fL{x:Str}{k:NameKind}:∀{l:List (Str×NameKind)},l.lookup x=some k→(x,k)∈l
 |[],h=>by exact bD h
 |(n,q)::r,h=>by
  rw[bv]at h
  by_cases hx:x==n
  ·rw[hx]at h;(obtain rfl:=ab h;clear h)
   (erw[eq_of_beq hx]);exact .head _
  ·rw[ca]at hx;rw[hx]at h
   exact .tail _ (fL h)
theorem nx{own:Scope}{x:Str}{mv:MV}:∀{loc:List (Str×MV)},gv x (tt own loc)=some mv→gv x loc=some mv∧own.names.lookup x=some .free
 |[],h=>by exact bD h
 |(y,u)::r,h=>by
  unfold tt at h
  by_cases hp:(own.names.lookup y==some .free)=true
  ·rw[bG (by exact hp)]at h
   unfold gv at h ⊢
   by_cases hx:y=x
   ·rw[if_pos hx]at h ⊢
    apply dE hx
    exact⟨h,na hp⟩
   ·rw[if_neg hx]at h ⊢
    exact nx (loc:=r) h
  ·rw[bH (by exact hp)]at h
   have ih:=nx (loc:=r) h
   refine⟨?_,ih.2⟩
   unfold gv
   have:¬y=x:=fun q=>hp (by(erw[q,ih.2]);rfl)
   (erw[if_neg this])
   exact ih.1
theorem Gz{cx:Cx}{P:bE}{st:MS}{h h':Heap}{own:Scope}{cl:List (Str×Addr)}{C:Addr}{m:Str→Option Value}(S:SR B cx P st h)(O:Hb cx.sc own)
 (hcl1:∀x c,cl.lookup x=some c→cx.env.cells.lookup x=some c) (hcl2:∀x c,cl.lookup x=some c→∃y∈own.names,y.1=x∧y.2=.free) (hcl3:∀y∈own.names,y.2=.free→cl.lookup y.1=cx.env.cells.lookup y.1)
 (g:∀b o,h.get? b=some o→h'.get? b=some o) (fC:h.get? C=none) (hn:h'.Ns C m):FR B P h' (compEnvC own cl C cx.env) own (tt own st.loc):=by
 have hkind:∀x,(compEnvC own cl C cx.env).kindOf x=(own.names.lookup x).map fun k=>if(k==.free&&cx.env.scope.kind==.function&&cx.env.kindOf x==some .cell)=true then .cell else k:=fun x=>
  oh (c:=fun n k=>(k==.free&&cx.env.scope.kind==.function&&cx.env.kindOf n==some .cell)) own.names x
 have hfree:∀x,((compEnvC own cl C cx.env).kindOf x=some .cell∨(compEnvC own cl C cx.env).kindOf x=some .free)→own.names.lookup x=some .free:=fun x hx=>by
  rw[hkind]at hx
  cases e:own.names.lookup x with
  |none=>rw[e]at hx;rcases hx with q|q<;>exact bD q
  |some k=>
   rw[e]at hx
   by_cases hk:k=.free
   ·(erw[hk];with_reducible rfl)
   ·have hb:(k==NameKind.free)=false:=by cases k<;>first|rfl|exact absurd rfl hk
    simp only[jE,hb,ij,iL,if_false,gV]at hx
    rcases hx with q|q
    ·exact absurd q (O.nc _ (fL e))
    ·exact absurd q hk
 have hC:∀x c,cl.lookup x=some c→c≠C:=fun x c e q=>by
  refine fH (S.aliveC (hcl1 x c e)) fun o ho=>?_
  rw[q,fC]at ho;exact bD ho
 have nf:∀x,own.names.lookup x=some .free→cx.env.kindOf x=some .cell∨cx.env.kindOf x=some .free:=fun x e=>by
  rcases O.fr _ (fL e) rfl with q|q
  ·rcases S.2.kinds x with z|⟨z,_⟩
   ·exact .inl (z.symm.trans q)
   ·rw[show cx.sc.names.lookup x=some .cell from q]at z;cases z
  ·rcases S.2.kinds x with z|⟨_,z⟩
   ·exact .inr (z.symm.trans q)
   ·exact .inl z
 refine⟨O.kind,S.2.glob,S.2.blt,fun x=>?_,⟨m,hn,fun x mv e k=>?_⟩,fun x k=>?_,fun x y c e1 e2=>S.2.cinj x y c (hcl1 x c e1) (hcl1 y c e2),⟨fun f=>?_,bA fun o e=>?_⟩,fun x c e=>?_⟩
 ·rw[hkind]
  cases e:own.names.lookup x with
  |none=>exact .inl rfl
  |some k=>
   by_cases hk:k=.free
   ·apply d6 hk
    show KR (some .free) (some (if _ then NameKind.cell else .free))
    split
    ·exact .inr ⟨rfl,rfl⟩
    ·exact .inl rfl
   ·have hb:(k==NameKind.free)=false:=by cases k<;>first|rfl|exact absurd rfl hk
    left
    simp only[jE,hb,ij,iL,if_false]
 ·have:=(nx e).2
  (rw[hkind]at k;replace k:=(this)▸k)
  simp only[jE,gV]at k
  split at k<;>cases k
 ·have hf:=hfree x k
  obtain⟨c,v₀,e1,⟨o,ho,hd⟩,e3⟩:=S.2.cel x (nf x hf)
  refine⟨c,v₀,(hcl3 _ (fL hf) rfl).trans e1,⟨o,g _ _ ho,hd⟩,fun mv e=>?_⟩
  obtain⟨v,⟨o2,ho2,hd2⟩,e5⟩:=e3 mv (nx e).1
  exact⟨v,⟨o2,g _ _ ho2,hd2⟩,e5.mono (fun a o e z_=>g a o e) (cR.refl P)⟩
 ·obtain⟨o,e,_⟩:=S.1.footAlive f
  exact nomatch(show(none:Option Obj)=some o from fC.symm.trans e)
 ·have:=S.1.stays _ _ e
  exact nomatch(show(none:Option Obj)=some o from fC.symm.trans this)
 ·obtain⟨a,b,d,v₀,o,ho,hd⟩:=S.2.offC x c (hcl1 x c e)
  exact⟨a,b,hC x c e,v₀,o,g _ _ ho,hd⟩
end
set_option backward.match.sparseCases true
section
theorem xQ{o:Obj}(h:o.cls=.type "list"):¬imm o:=by
 rintro(⟨a,_⟩|⟨a,_⟩)<;>(rw[h]at a;exact absurd a (by decide))
theorem rG.ob{h:Heap}{a:Addr}{items:List Value}(x:rG h a items):∃o,h.get? a=some o∧¬imm o:=by
 refine fH x fun n x=>?_
 exact⟨_,x,xQ rfl⟩
noncomputable def Sx(B:Heap)(A:Around)(f:Scope→Expr→MM MV):Prop:=∀cx:Cx,cx.A=A→∀e,fz B cx (eval e cx.env) (f cx.sc e) (RV B)
noncomputable def Sw(B:Heap)(A:Around)(f:Scope→Expr→MM Bool):Prop:=∀cx:Cx,cx.A=A→∀e,fz B cx (isTrue e cx.env (eval e cx.env)) (f cx.sc e) RB
inductive Os(cx:Cx):Option (Value→Sem Unit)→(MV→MM Unit)→Prop
 |keep:Os cx none (fun z_=>bO ())
 |put (y:Str) (p:Pos):Os cx (some (assign (.Name y p) cx.env)) (fun v=>lF cx.sc y v)
theorem qt{cx:Cx}(hh:cx.A.handled=none){f:Scope→Expr→MM MV}{t:Scope→Expr→MM Bool}(hE:Sx B cx.A f)(hT:Sw B cx.A t){elt:Expr}{g:Comprehension}{gs:List Comprehension}{own:Scope}{pos p2:Pos}{use:Option (Value→Sem Unit)}{um:MV→MM Unit}(U:Os cx use um)
 (hok:mL cx.sc own=true) (hg:(g::gs).any (fun g=>jj g.iter||g.is_async != 0)=false) {st s1 s2 st':MS}{it:MV}{vs:List MV}{yy:Unit}{P:bE}{s:Shared}(S:SR B cx P st s.heap)
 (e1:f cx.sc g.iter st=some (it,s1)) (e2:rz own (qu own (f own) (t own) (aR (f own elt) fun v=>bO [v]) (g::gs) it) s1=some (vs,s2)) (hm:¬gj vs.length=true)
 (e3:um (.ref s2.hp.length) {s2 with hp:=s2.hp++[.list vs]}=some (yy,st')) {Q:Value→Shared→Prop}
 (k:∀u P' s',(use=none→VR B P' s'.heap (.ref s2.hp.length) u)→bq B cx P s P' s' st'→Q u s'):
 wpAny (model aQ w) cx.A (comprehension (.ListComp elt (g::gs) own pos) own cx.env p2 (newList []) false (eval g.iter cx.env) use) Q eP s:=by
 have O:=ve hok
 (refine d9 (b9.mp (by rw[dr]at hg;exact hg)) fun hg1 hg2=>?_)
 refine d9 (b9.mp hg1) fun hgs z_=>?_
 obtain⟨cl,c0,c1,c2,c3⟩:=tm (own:=own) (env:=cx.env) (fun y hy hf=>by
  have hk:cx.env.kindOf y.1=some .cell∨cx.env.kindOf y.1=some .free:=by
   rcases O.fr y hy hf with q|q
   ·rcases S.2.kinds y.1 with z|⟨z,_⟩
    ·exact .inl (z.symm.trans q)
    ·replace z:=(q)▸z;cases z
   ·rcases S.2.kinds y.1 with z|⟨_,z⟩
    ·exact .inr (z.symm.trans q)
    ·exact .inl z
  refine rN (S.2.cel y.1 hk) fun c z_ e z_=>?_
  exact⟨c,e⟩)
 refine wpAny_comprehension_free (use:=use) rfl (qp (by(erw[hgs]);exact Bool.noConfusion)) c0 O.kind (fun y hy hl=>by(erw[O.lk y hy,hl];with_reducible rfl)) ?_
 refine(hE cx rfl g.iter).use e1 S fun u P₁ S₁ x₁ r₁=>?_
 obtain⟨⟨vs',s2'⟩,e4,e5⟩:=az.mp e2
 cases e5
 obtain⟨y,ey⟩:∃y,cW s1.hp it 0=some y:=by
  cases gs<;>exact th (st:=⟨tt own s1.loc,s1.hp⟩) e4
 refine sQ ey x₁.sr r₁ fun h₁ g₁ FI it₁=>?_
 have szI:=cA.sizeNone (h:=S₁.heap)
 revert FI it₁
 generalize hIa:S₁.heap.objs.size=I at szI ⊢
 intro FI it₁
 refine wpAny_newObj_type ?_ (by size_fits)
 have szD:=cA.sizeNone (h:=h₁)
 have g₂:=cr (h:=h₁) {cls:=.type "list",dict:=none,data:=.seq ([]:List Value).toArray}
 have hD2:(h₁.push {cls:=.type "list",dict:=none,data:=.seq ([]:List Value).toArray}).get? h₁.objs.size=some {cls:=.type "list",dict:=none,data:=.seq ([]:List Value).toArray}:=bi _ rfl
 revert g₂ hD2
 generalize hDa:h₁.objs.size=D at szD ⊢
 generalize h₁.push {cls:=.type "list",dict:=none,data:=.seq ([]:List Value).toArray}=h₂
 intro g₂ hD2
 refine wpAny_newFunctionEnv O.nc (by intro y hy;simp at hy) (fun h₃ hn₃ hs₃=>?_) O.kind
 dsimp only at hn₃ hs₃ ⊢
 have szC:=cA.sizeNone (h:=h₂)
 have g₃:∀b o,h₂.get? b=some o→h₃.get? b=some o:=fun b o e=>by
  (erw[hs₃.2 b (aS (ci e))])
  exact zj _ e
 revert hn₃ hs₃
 generalize h₂.objs.size=C at szC ⊢
 intro hn₃ hs₃
 have gAll:∀b o,S₁.heap.get? b=some o→h₃.get? b=some o:=fun b o e=>g₃ _ _ (g₂ _ _ (g₁ _ _ e))
 have fD:S₁.heap.get? D=none:=bA fun o e=>by have:=g₁ _ _ e;rw[szD]at this;exact bD this
 have fC:S₁.heap.get? C=none:=bA fun o e=>by have:=g₂ _ _ (g₁ _ _ e);rw[szC]at this;exact bD this
 have hID:I≠D:=fun q=>by refine aM FI.ob fun o ho z_=>?_;rw[q,szD]at ho;exact bD ho
 have hIC:I≠C:=fun q=>by refine aM FI.ob fun o ho z_=>?_;have:=g₂ _ _ ho;rw[q,szC]at this;exact bD this
 have hDC:D≠C:=fun q=>by rw[q,szC]at hD2;exact bD hD2
 show codeAny (model aQ w) cx.A (.compStart (.ListComp elt (g::gs) own pos) 0 (.ref I) (.ref D) (compEnvC own cl C cx.env)) (compPost (model aQ w) cx.A eP use Q (.ref D) C) {S₁ with heap:=h₃,toks:=S₁.toks+0}
 have S₃:SR B ⟨cx.A,compEnvC own cl C cx.env,own⟩ P₁ ⟨tt own s1.loc,s1.hp⟩ h₃:=⟨(x₁.sr.grow gAll).1,Gz x₁.sr O c1 c2 c3 gAll fC hn₃⟩
 have x₃:dK B ⟨cx.A,compEnvC own cl C cx.env,own⟩ (fun b=>b=I∨b=D) P₁ S₁ P₁ {S₁ with heap:=h₃,toks:=S₁.toks+0} ⟨tt own s1.loc,s1.hp⟩:=⟨S₃,jk.grow gAll,h₃,_,rfl⟩
 have cells:∀x c,cl.lookup x=some c→∃o,S₁.heap.get? c=some o:=fun x c e=>x₁.sr.aliveC (c1 x c e)
 have mkFree:∀b,S₁.heap.get? b=none→b≠C→(∃o,h₃.get? b=some o∧¬imm o)→eL B ⟨cx.A,compEnvC own cl C cx.env,own⟩ P₁ h₃ b:=fun b fb hb ob=>
  ⟨ob,(fun q=>by refine aM (x₁.sr.1.footAlive q) fun o e z_=>?_;rw[fb]at e;exact bD e),hb,(fun x c e q=>by refine fH (cells x c e) fun o ho=>?_;rw[q,fb]at ho;exact bD ho),bA fun o e=>(by have:=x₁.sr.1.stays _ _ e;rw[fb]at this;exact bD this)⟩
 have hIob:∃o,h₃.get? I=some o∧¬imm o:=by refine aM FI.ob fun o ho hn=>?_;exact⟨o,g₃ _ _ (g₂ _ _ ho),hn⟩
 have hIget:h₃.get? I=h₁.get? I:=by refine aM FI.ob fun o ho hn=>?_;(erw[ho]);exact g₃ _ _ (g₂ _ _ ho)
 have FI₃:=mkFree I szI hIC hIob
 have hlD:rG h₃ D []:=⟨0,g₃ _ _ hD2⟩
 have FD₃:=mkFree D fD hDC hlD.ob
 have it₃:tH B P₁ h₃ I it 0:=it₁.ext (own:=fun z_=>False) (jk.grow fun b o e=>g₃ _ _ (g₂ _ _ e)) hIget
 have e4':qu own (f own) (t own) (aR (f own elt) fun v=>bO [v]) (g::gs) it ⟨tt own s1.loc,s1.hp⟩=some (vs',s2'):=e4
 refine KJ (cx:=⟨cx.A,compEnvC own cl C cx.env,own⟩) hh (hE ⟨cx.A,compEnvC own cl C cx.env,own⟩ rfl) (hT ⟨cx.A,compEnvC own cl C cx.env,own⟩ rfl) (g::gs) 0 rfl hg szI hID x₃ FI₃ FD₃ hlD it₃ e4' (by unfold gj at hm;simp at hm ⊢;assumption) fun P' s' us x₄ FD₄ hl₄ rr=>?_
 have E:jk P₁ P' S₁.heap s'.heap (fun z_=>False):=x₄.ext.drop fun b q=>by
  rcases q with(q|⟨x,q,_⟩)|q
  ·exact .inr (q▸fC)
  ·exact absurd rfl (O.nc _ (fL q))
  ·exact .inr (q▸fD)
 have cs:Hd B P₁ S₁ P' s' s2'.hp:=⟨x₄.sr.1,E,x₄.shape⟩
 have x₅:bq B cx P₁ S₁ P' s' {s1 with hp:=s2'.hp}:=bq.ofCall x₁.sr cs
 have mkBack:∀b,S₁.heap.get? b=none→¬ke P' b→(∃o,s'.heap.get? b=some o∧¬imm o)→eL B cx P' s'.heap b:=fun b fb nf ob=>
  ⟨ob,nf,(fun q=>by refine aM x₁.sr.2.notImmL fun o ho z_=>?_;rw[←q,fb]at ho;exact bD ho),(fun x c e q=>by refine fH (x₁.sr.aliveC e) fun o ho=>?_;rw[q,fb]at ho;exact bD ho),bA fun o e=>(by have:=x₁.sr.1.stays _ _ e;rw[fb]at this;exact bD this)⟩
 have FD₅:eL B cx P' s'.heap D:=mkBack D fD FD₄.nf hl₄.ob
 have hl₅:rG s'.heap D us:=by simpa using hl₄
 refine aM x₄.sr.2.ns fun m hnC z_=>?_
 have FC₅:eL B cx (P'++[(D,D)]) s'.heap C:=by
  have F0:=mkBack C fC x₄.sr.2.offL.1 x₄.sr.2.notImmL
  refine⟨F0.ob,?_,F0.nl,F0.nc,F0.nb⟩
  rintro⟨q,hq,hb⟩
  rcases aH.mp hq with q'|q'
  ·exact F0.nf ⟨q,q',hb⟩
  ·replace q':=(ax).mp q';subst q'
   rcases hb with hb|hb<;>exact hDC hb.symm
 have x₆:=x₅.o (ow:=fun z_=>False) |>.adopt FD₅ fD (o:=.list vs') ⟨rfl,us,hl₅,rr.mono (fun z_ z_ e z_=>e) (cR.app _ _)⟩
 have x₇:bq B cx P₁ S₁ (P'++[(D,D)]) s' {s1 with hp:=s2'.hp++[.list vs']}:=x₆.done fun z_ q=>q.elim
 have hnC':s'.heap.Ns C m:=hnC
 have rD:VR B (P'++[(D,D)]) s'.heap (.ref s2'.hp.length) (.ref D):=qw (cx:=cx) (st:={s1 with hp:=s2'.hp}) x₅.sr
 cases U with
 |keep=>
  (refine d9 (jg e3) fun q0_ q1_=>?_;apply dE q0_;subst q1_)
  refine⟨m,hnC',fun h' hs=>?_⟩
  have kC:∀b o,b≠C→s'.heap.get? b=some o→h'.get? b=some o:=fun b o hb e=>(hs.2 b hb).trans e
  have x₈:=(x₇.o (ow:=fun z_=>False)).endI (tk:=s'.toks) FC₅ fC kC
  refine aM FC₅.ob fun oC eC nC=>?_
  exact k _ _ _ (fun z_=>rD.mono (fun a o e hi=>kC a o (fun q=>by subst q;rw[eC]at e;(obtain rfl:=ab e;clear e);exact nC hi) e) (cR.refl _)) (x₁.trans (x₈.done fun z_ q=>q.elim))
 |put y p=>
  show wpAny (model aQ w) cx.A (assign (.Name y p) cx.env (.ref D)) _ _ _
  refine kM (wpAny_mono (kS e3 x₇.sr rD) (fun z_ s'' hz=>?_) fun z_ z_ x=>x)
  (refine fH hz fun P'' x₈=>?_;clear hz)
  refine d9 (FC₅.ext x₈.ext FC₅.notOwn) fun FC₈ gC=>?_
  refine⟨m,hnC'.at fun o e=>gC.trans e,fun h' hs=>?_⟩
  have kC:∀b o,b≠C→s''.heap.get? b=some o→h'.get? b=some o:=fun b o hb e=>(hs.2 b hb).trans e
  have x₉:=((x₇.trans x₈).o (ow:=fun z_=>False)).endI (tk:=s''.toks) FC₈ fC kC
  exact k _ _ _ (fun q=>(nomatch q)) (x₁.trans (x₉.done fun z_ q=>q.elim))
end
set_option backward.match.sparseCases false
section
noncomputable def z2:Value→Option Int
 | .int k _=>some k
 |_=>none
noncomputable def vX(kvs:List (Int×Value)):Option Int→Bool
 |some k=>match valueAt kvs k with
  |some (.int j _)=>j != 0
  |_=>false
 |none=>false
noncomputable def NZ:Value→Bool
 | .int j _=>j != 0
 |_=>false
theorem zt{kvs:List (Int×Value)}{k:Int}{y:Value}(h:k∉kvs.map (·.1)):stored kvs k y=kvs++[(k,y)]:=by
 unfold stored
 rw[if_neg]
 intro q
 rw[dW]at q
 (refine aM q fun x hx hk=>?_;clear q)
 exact h (aU.mpr ⟨x,hx,by simpa using hk⟩)
theorem sk{kvs:List (Int×Value)}{l:List Value}{out:List (Int×Value)}(h:StoredAll (fun v k=>(intKind aQ w).is k v=true) (fun v y=>∃k t,v=.int k t∧valueAt kvs k=some y) l out):
 (l.map z2).Nodup→out.map (fun q=>some q.1)=l.map z2∧∀q∈out,valueAt kvs q.1=some q.2:=by
 induction h with
 |nil=>exact fun z_=>⟨rfl,fun q hq=>nomatch hq⟩
 | @snoc l out v k y hs hk hv ih=>
  intro nd
  rw[aB,dL]at nd
  obtain⟨n1,n2,n3⟩:=nd
  obtain⟨i1,i2⟩:=ih n1
  obtain⟨k',t',rfl,hv⟩:=hv
  have:k=k':=by
   obtain⟨t,e⟩:=kO (show Ay k (.int k' t')=true from hk)
   cases e;rfl
  subst this
  have hnew:k∉out.map (·.1):=fun q=>by
   obtain⟨x,hx,hxk⟩:=aU.mp q
   have hm:some k∈l.map z2:=by(erw[←i1]);exact aU.mpr ⟨x,hx,by(erw[hxk];with_reducible rfl)⟩
   exact n3 _ hm _ (aU.mpr ⟨_,ax.mpr rfl,rfl⟩) rfl
  (erw[zt hnew])
  refine⟨by(erw[aB,aB,i1]);rfl,fun q hq=>?_⟩
  rcases aH.mp hq with q'|q'
  ·exact i2 q q'
  ·rw[ax]at q';subst q';exact hv
theorem xM{kvs:List (Int×Value)}:∀{a b:List (Int×Value)},a.map (fun q=>some q.1)=b.map (fun q=>some q.1)→(∀q∈a,valueAt kvs q.1=some q.2)→(∀q∈b,valueAt kvs q.1=some q.2)→a=b
 |[],[],_,_,_=>rfl
 |[],_::_,h,_,_=>by cases h
 |_::_,[],h,_,_=>by cases h
 |(k,y)::a,(k',y')::b,h,h1,h2=>by
  simp only[bj,List.cons.injEq,gV]at h
  obtain⟨rfl,h⟩:=h
  have e1:=h1 (k,y) (.head _)
  have e2:=h2 (k,y') (.head _)
  simp only at e1 e2
  replace e2:=(e1)▸e2;cases e2
  (erw[xM h (fun q hq=>h1 q (.tail _ hq)) (fun q hq=>h2 q (.tail _ hq))];with_reducible rfl)
theorem mJ{P:bE}{h:Heap}{pk:Option Int→Bool}:∀{es es':List (MV×MV)}{kvs:List (Int×Value)},dj B P h es kvs→(∀q∈kvs,pk (some q.1)=NZ q.2)→mK es=some es'→dj B P h es' (kvs.filter fun q=>pk (some q.1))
 |_,_,_,.nil,_,e=>by(obtain rfl:=ab e;clear e);exact .nil
 |_,es',_,.cons (k:=k) (m:=m) (v:=v) (r:=r) (r':=r') a b,hp,e=>by
  have hv:=hp (k,v) (.head _)
  cases m with
  |int j=>
   refine gh e fun l e1 e2=>?_
   have ih:=mJ b (fun q hq=>hp q (.tail _ hq)) e1
   (refine fH a.inv fun t q_=>?_;clear a;subst q_);next=>
    by_cases hj:j=0
    ·subst hj
     rw[if_pos rfl]at e2
     apply dE e2
     rw[bH (by show¬pk (some k)=true;rw[hv];exact Bool.noConfusion)]
     exact ih
    ·rw[if_neg hj]at e2
     apply dE e2
     rw[bG (by show pk (some k)=true;rw[hv];simp[NZ,hj])]
     exact .cons (.int j t) ih
  |_=>exact bD e
theorem wG{es es':List (MV×MV)}(e:mK es=some es')(hn:es≠[]){P:bE}{h:Heap}{kvs:List (Str×Value)}(p:dF B P h es kvs):False:=by
 cases p with
 |nil=>exact hn rfl
 |cons a b=>exact bD e
theorem qH{P:bE}{h:Heap}:∀{es es':List (MV×MV)}{kvs:List (Int×Value)},dj B P h es kvs→mK es=some es'→∀q∈kvs,∃j t,q.2=.int j t
 |_,_,_,.nil,_=>fun q hq=>nomatch hq
 |_,es',_,.cons (k:=k) (m:=m) (v:=v) a b,e=>fun q hq=>by
  cases m with
  |int j=>
   refine gh e fun l e1 e2=>?_
   rcases aF.mp hq with rfl|hq
   ·cases a;exact⟨_,_,rfl⟩
   ·exact qH b e1 q hq
  |_=>exact bD e
theorem KH{cx:Cx}(hB:∃o,B.get? sysModules=some o)(hh:cx.A.handled=none){x t:Str}{p1 p2 p3 p4 p5 p6 p7 p8 p9 p10 p11 pos:Pos}{kk:Nat}{own:Scope}(hok:mL cx.sc own=true)(ht:own.names.lookup t=some .local)(hx:own.names.lookup x=some .free)
 (hxd:(x==("__debug__":Str))=false) (htd:(t==("__debug__":Str))=false) (hxc:(x==("__classdict__":Str))=false):
 fz B cx (eval (.DictComp (.Name t p1) (.Subscript (.Name x p2) (.Name t p3) p4) [⟨.Name t p5,.Name x p6,[.Compare (.Subscript (.Name x p7) (.Name t p8) p9) [.NotEq] [.Constant (.int 0) kk p10] p11],0⟩] own pos) cx.env)
  (aR (iJ fun s=>gv x s.loc) fun d=>aR (iJ fun s=>ou s.hp d) fun es=>d0 (.dict es)) (RV B):=fun st a st' e P s S=>by
 have O:=ve hok
 refine fV e fun d s1 e1' e=>?_
 (refine d9 (fx e1') fun e1 q0_=>?_;subst q0_)
 refine fV e fun es' s2 e2' e=>?_
 (refine d9 (fx e2') fun e2 q0_=>?_;subst q0_)
 (refine d9 (dJ e) fun q0_ q1_=>?_;subst q0_;subst q1_)
 refine bT e2 fun es e3 e2=>?_
 refine d9 (ix e2) fun hsz e2=>?_
 rw[cb,not_or,cZ,decide_eq_true_eq,aC]at hsz
 refine aM (wE e3) fun n hdn eo=>?_
 have nf:cx.env.kindOf x=some .cell∨cx.env.kindOf x=some .free:=by
  rcases O.fr _ (fL hx) rfl with q|q
  ·rcases S.2.kinds x with z|⟨z,_⟩
   ·exact .inl (z.symm.trans q)
   ·rw[show cx.sc.names.lookup x=some .cell from q]at z;cases z
  ·rcases S.2.kinds x with z|⟨_,z⟩
   ·exact .inr (z.symm.trans q)
   ·exact .inl z
 obtain⟨cl,c0,c1,c2,c3⟩:=tm (own:=own) (env:=cx.env) (fun y hy hf=>by
  have hk:cx.env.kindOf y.1=some .cell∨cx.env.kindOf y.1=some .free:=by
   rcases O.fr y hy hf with q|q
   ·rcases S.2.kinds y.1 with z|⟨z,_⟩
    ·exact .inl (z.symm.trans q)
    ·replace z:=(q)▸z;cases z
   ·rcases S.2.kinds y.1 with z|⟨_,z⟩
    ·exact .inr (z.symm.trans q)
    ·exact .inl z
  refine rN (S.2.cel y.1 hk) fun c z_ e z_=>?_
  exact⟨c,e⟩)
 refine eW (S.2.cel x nf) fun c v₀ ec z_ e3=>?_
 refine aM (e3 _ e1) fun u hcell ru=>?_
 refine aM (hdn▸ru).inv fun pp q_ ep=>?_
 clear ru;subst q_
 next=>
  refine d9 (S.1.obj _ _ _ eo ep) fun hpp hd=>?_
  have hd:∃kvs,s.heap.DictOf (intKind aQ w) pp.1 kvs∧dj B P s.heap es kvs:=by
   rcases hd with⟨kvs,hd,hv⟩|h
   ·exact(wG e2 hsz.1 hv).elim
   ·exact h
  refine aM hd fun kvs hd hv=>?_
  have hlen:=hv.length
  have hs:=nj S.1 hB ep
  refine fH hd.dictAt fun ept hda=>?_
  have nd:(kvs.map (·.1)).Nodup:=lL hd
  have vat:∀q∈kvs,valueAt kvs q.1=some q.2:=fun q hq=>by
   refine fH (bW hq) fun i hi=>?_
   exact valueAt_of_get nd hi
  have hints:=qH hv e2
  have load:∀{A:Around}{E:Value→Shared→Prop}{env:Env}{s':Shared}{Q:Value→Shared→Prop}{px:Pos},env.scope.kind=.function→(env.kindOf x=some .cell∨env.kindOf x=some .free)→env.cells.lookup x=some c→s'.heap.IsCell c (some (.ref pp.1))→Q (.ref pp.1) s'→wpAny (model aQ w) A (eval (.Name x px) env) Q E s':=fun hk hl hc hi hQ=>by
   rcases hl with hl|hl
   ·exact wpAny_Name (wpAny_loadName_cell hk hl hc hi hQ) hxd
   ·exact wpAny_Name (wpAny_loadName_free hk hl hc hi hQ hxc) hxd
  have sz:=cA.sizeNone (h:=s.heap)
  have dI:pp.1≠s.heap.objs.size:=aS (by refine fH (jL hd) fun o ho=>?_;exact ci ho)
  have cI:c≠s.heap.objs.size:=aS (by(refine aM hcell fun o ho z_=>?_;clear hcell);exact ci ho)
  have hxl:∀C,(compEnvC own cl C cx.env).kindOf x=some .cell∨(compEnvC own cl C cx.env).kindOf x=some .free:=fun C=>by
   have:(compEnvC own cl C cx.env).kindOf x=(own.names.lookup x).map fun k=>if(k==.free&&cx.env.scope.kind==.function&&cx.env.kindOf x==some .cell)=true then .cell else k:=
    oh (c:=fun n k=>(k==.free&&cx.env.scope.kind==.function&&cx.env.kindOf n==some .cell)) own.names x
   (erw[this,hx])
   show some (if _ then NameKind.cell else .free)=_∨some (if _ then NameKind.cell else .free)=_
   split
   ·exact .inl rfl
   ·exact .inr rfl
  have htl:∀C,(compEnvC own cl C cx.env).kindOf t=some .local:=fun C=>lookup_relabel_local ht
  have hcl:cl.lookup x=some c:=(c3 _ (fL hx) rfl).trans ec
  have item:∀{A:Around}{E:Value→Shared→Prop}{C:Addr}{k:Int}{tk:Tok}{y:Value}{s₃:Shared}{m₃:Str→Option Value}{Q:Value→Shared→Prop}{pa pb pc:Pos},valueAt kvs k=some y→s₃.heap.Ns C m₃→m₃ t=some (.int k tk)→
   (∀b o,b∉[s.heap.objs.size]→(s.heap.push {cls:=.type "dict_keyiterator",data:=.fields #[.ref pp.1,.int 0 0,.int kvs.length 0,.int ept 0]}).get? b=some o→s₃.heap.get? b=some o)→(∀n,Q y {s₃ with toks:=n})→
   wpAny (model aQ w) A (eval (.Subscript (.Name x pa) (.Name t pb) pc) (compEnvC own cl C cx.env)) Q E s₃:=by
   intro A E C k tk y s₃ m₃ Q pa pb pc hy hn hm hk hQ
   have hdd:s₃.heap.DictOf (intKind aQ w) pp.1 kvs:=hd.at fun o e=>hk _ o (by rw[ax];exact dI) (cr _ _ _ e)
   refine Subscript_ (load O.kind (hxl C) hcl ?_ ?_)
   ·obtain⟨o,ho,q⟩:=hcell
    exact⟨o,hk _ _ (by rw[ax];exact cI) (cr _ _ _ ho),q⟩
   ·refine wpAny_Name (wpAny_loadName_local (env:=compEnvC own cl C cx.env) O.kind (htl C) hn hm ?_) htd
    exact kR hdd.mapOf.typeIs slot_dict_getitem.lookup (wpAny_getItem_of (intKind_is aQ w k tk) hdd.mapOf hy (hQ _))
  have pOf:∀v,(∃(i:Nat) (k:Int) (y:Value),kvs[i]?=some (k,y)∧(intKind aQ w).is k v=true)→∃k tk j tj,v=.int k tk∧valueAt kvs k=some (.int j tj):=by
   rintro v ⟨i,k,y,hi,hk⟩
   (refine fH (kO (v:=v) (show Ay k v=true from hk)) fun tk q0_=>?_;subst q0_)
   have hm:=ak hi
   refine vE (hints _ hm) fun j tj hj=>?_
   exact⟨k,tk,j,tj,rfl,by(erw[vat _ hm]);exact congrArg some hj⟩
  refine wpAny_DictComp_free (intKind aQ w) (fun v=>vX kvs (z2 v)) (fun v k=>(intKind aQ w).is k v=true) (fun v y=>∃k tk,v=.int k tk∧valueAt kvs k=some y) c0 O.nc O.kind (fun y hy hl=>by(erw[O.lk y hy,hl];with_reducible rfl)) ht ?_
  refine load S.2.kind nf ec hcell ?_
  refine wpAny_pyIter_dict hs hda ?_
  have g₁:=cr (h:=s.heap) {cls:=.type "dict_keyiterator",data:=.fields #[.ref pp.1,.int 0 0,.int kvs.length 0,.int ept 0]}
  refine RJ s.heap.objs.size _ _ _ _ _ ⟨rfl,Walks.dictKeys hh s.heap.objs.size pp.1 dI kvs ept,by have:1000≤sizeLine:=(by decide);lia,⟨⟨_,bi _ rfl,rfl,rfl⟩,hda.at' fun o e=>g₁ _ _ e⟩,fun b hb=>?_,⟨?_,?_,?_⟩,?_⟩
  ·show b < (s.heap.push _).objs.size
   rw[vC]
   rcases aF.mp hb with rfl|hb
   ·exact d4 _
   ·rw[ax]at hb;subst hb
    refine fH (jL hd) fun o ho=>?_
    exact li (ci ho)
  ·rintro C i v s₃ m₃ E' ⟨k0,y0,hP⟩ hn hm hk
   (refine oK (pOf v ⟨i,k0,y0,hP⟩) fun k tk j tj q0_ hj=>?_;subst q0_)
   refine wpAny_tests_one (wpAny_isTrue_Compare1 (item hj hn hm hk fun n=>wpAny_Constant_int (zd (wpAny_truthy_bool ?_))) rfl)
   refine⟨?_,_,_,rfl,fun b o e=>e⟩
   show _=vX kvs (some k)
   unfold vX
   dsimp only
   (erw[hj];with_reducible rfl)
  ·rintro C i v s₃ m₃ E' ⟨k0,y0,hP⟩ hp hn hm hk
   (refine oK (pOf v ⟨i,k0,y0,hP⟩) fun k tk j tj q0_ hj=>?_;subst q0_)
   refine wpAny_Name (wpAny_loadName_local (env:=compEnvC own cl C cx.env) O.kind (htl C) hn hm ?_) htd
   exact⟨⟨k,intKind_is aQ w k tk,intKind_is aQ w k tk⟩,_,_,rfl,fun b o e=>e⟩
  ·rintro C i v s₃ m₃ E' ⟨k0,y0,hP⟩ hp hn hm hk
   (refine oK (pOf v ⟨i,k0,y0,hP⟩) fun k tk j tj q0_ hj=>?_;subst q0_)
   exact item hj hn hm hk fun n=>⟨⟨k,tk,rfl,hj⟩,_,_,rfl,fun b o e=>e⟩
  ·intro D h' tk out vs fD hdo hvl hP hF hkeep
   have keep:∀b o,s.heap.get? b=some o→h'.get? b=some o:=fun b o e=>hkeep b o (by rw[ax];exact aS (ci e)) (g₁ _ _ e)
   have fD':s.heap.get? D=none:=bA fun o e=>by have:=g₁ _ _ e;rw[fD]at this;exact bD this
   have hkeys:vs.map z2=(kvs.map (·.1)).map some:=by
    apply bK
    intro i
    (erw[aq,aq,aq])
    cases hvi:vs[i]? with
    |none=>
     have:kvs[i]?=none:=by rw[iu]at hvi ⊢;omega
     (erw[this]);rfl
    |some v=>
     refine rN (hP i v hvi) fun k y hi hk=>?_
     (refine fH (kO (v:=v) (show Ay k v=true from hk)) fun tk q0_=>?_;first|apply dE q0_|apply d6 q0_)
     (erw[hi]);rfl
   have hfk:(vs.filter fun v=>vX kvs (z2 v)).map z2=((kvs.map (·.1)).map some).filter (vX kvs):=by
    (erw[←hkeys,Lm]);rfl
   have nd2:(((kvs.map (·.1)).map some).filter (vX kvs)).Nodup:=by
    exact(List.Pairwise.map _ (fun a b h q=>h (ab q)) nd).filter _
   (refine d9 (sk hF (by(erw[hfk]);exact nd2)) fun k1 k2=>?_)
   have hout:out=kvs.filter fun q=>vX kvs (some q.1):=by
    refine xM (kvs:=kvs) ?_ k2 fun q hq=>vat q (bt.mp hq).1
    (erw[k1,hfk,bc,Lm]);rfl
   have hpk:∀q∈kvs,vX kvs (some q.1)=NZ q.2:=fun q hq=>by
    refine vE (hints q hq) fun j tj hj=>?_
    unfold vX
    dsimp only
    (erw[vat q hq,hj]);rfl
   have hp':=mJ hv hpk e2
   rw[←hout]at hp'
   exact⟨_,bq.newO (k:=tk) (p:=(D,D)) (o:=.dict es') S (cA.ofGrow keep) fD' fD' ⟨rfl,.inr ⟨out,hdo,hp'.mono (fun a o e z_=>keep a o e) (cR.app P _)⟩⟩,mA S⟩
end
section
structure tJ(B:Heap)(A:Around)(r:Ev):Prop where
 e:Sx B A r.e
 t:Sw B A r.t
 s:∀cx:Cx,cx.A=A→∀x,fz B cx (exec x cx.env) (r.s cx.sc x) (RF B)
 star:∀sc x,iB x=true→r.e sc x=bP
theorem OD{α:Type}{b:Bool}{v:α}{m:MM α}{st:MS}{r:α×MS}(e:(if b=true then bP else m) st=some r):b=false∧m st=some r:=by
 cases b with
 |true=>exact bD e
 |false=>exact⟨rfl,e⟩
theorem lH{α:Type}{b:Bool}{m:MM α}{st:MS}{r:α×MS}(e:(if b=true then bP else m) st=some r):b=false∧m st=some r:=by
 cases b with
 |true=>exact bD e
 |false=>exact⟨rfl,e⟩
theorem ti{r:Ev}{sc own:Scope}{elt:Expr}{gens:List Comprehension}{st st':MS}{vs:List MV}(e:yN r sc elt gens own st=some (vs,st')):
 ∃g gs it s1,gens=g::gs∧mL sc own=true∧(g::gs).any (fun g=>jj g.iter||g.is_async != 0)=false∧r.e sc g.iter st=some (it,s1)∧rz own (qu own (r.e own) (r.t own) (aR (r.e own elt) fun v=>bO [v]) (g::gs) it) s1=some (vs,st')∧¬gj vs.length=true:=by
 cases gens with
 |nil=>exact bD e
 |cons g gs=>
  refine d9 (lH e) fun h1 e=>?_
  refine fV e fun it s1 e1 e=>?_
  refine fV e fun vs' s2 e2 e=>?_
  refine d9 (lH e) fun h2 e=>?_
  apply kH e
  rw[b9]at h1
  exact⟨g,gs,it,s1,rfl,by simpa using h1.1,h1.2,e1,e2,by(erw[h2]);exact Bool.noConfusion⟩
theorem kJ{g:Comprehension}{gs:List Comprehension}(h:(g::gs).any (fun g=>jj g.iter||g.is_async != 0)=false):firstAsync (g::gs)=false:=by
 rw[dr,b9,b9]at h
 obtain⟨t,i,f,a⟩:=g
 exact h.1.2
theorem tU{cx:Cx}(hh:cx.A.handled=none){r:Ev}(hr:tJ B cx.A r){elt:Expr}{gens:List Comprehension}{own:Scope}{pos:Pos}:
 fz B cx (eval (.ListComp elt gens own pos) cx.env) (aR (yN r cx.sc elt gens own) fun vs=>d0 (.list vs)) (RV B):=fun st a st' e P s S=>by
 refine fV e fun vs s1 e1 e2=>?_
 obtain⟨g,gs,it,s0,rfl,h1,h2,h3,h4,h5⟩:=ti e1
 (refine d9 (dJ e2) fun q0_ q1_=>?_;apply d6 q0_;apply d6 q1_)
 (rw[eval_ListComp];erw[kJ h2])
 obtain⟨tg,i0,ifs,a0⟩:=g
 exact qt (cx:=cx) (g:=⟨tg,i0,ifs,a0⟩) (gs:=gs) (pos:=pos) (p2:=i0.pos) hh hr.e hr.t .keep h1 h2 S h3 h4 h5 rfl fun u P' s' hu x=>⟨P',x,hu rfl⟩
theorem jP{e:Expr}{t:Str}(h:oA e=some t):∃p,e=.Name t p:=by
 cases e<;>first|exact bD h|exact⟨_,congrArg (Expr.Name · _) (ab h)⟩
theorem GI{e:Expr}{q:Expr×Expr}(h:LS e=some q):∃p,e=.Subscript q.1 q.2 p:=by
 cases e<;>first|exact bD h|exact⟨_,congrArg (fun q:Expr×Expr=>Expr.Subscript q.1 q.2 _) (ab h)⟩
theorem GM{e:Expr}{q:Expr×List CmpOp×List Expr}(h:LV e=some q):∃p,e=.Compare q.1 q.2.1 q.2.2 p:=by
 cases e<;>first|exact bD h|exact⟨_,congrArg (fun q:Expr×List CmpOp×List Expr=>Expr.Compare q.1 q.2.1 q.2.2 _) (ab h)⟩
theorem GL{e:Expr}{c:Const}(h:LU e=some c):∃k p,e=.Constant c k p:=by
 cases e<;>first|exact bD h|exact⟨_,_,congrArg (Expr.Constant · _ _) (ab h)⟩
theorem KU{c:Const}{i:Int}(h:PJ c=some i):c=.int i:=by
 cases c<;>first|exact bD h|exact congrArg Const.int (ab h)
theorem ye{e:Expr}{q:Str×Str}(h:Fu e=some q):∃p2 p3 p4,e=.Subscript (.Name q.1 p2) (.Name q.2 p3) p4:=by
 refine bT h fun a h1 h=>?_
 refine bT h fun x h2 h=>?_
 obtain⟨t,h3,rfl⟩:=az.mp h
 (refine fH (GI h1) fun p4 q0_=>?_;first|apply dE q0_|apply d6 q0_)
 refine fH (jP h2) fun p2 e2=>?_
 refine fH (jP h3) fun p3 e3=>?_
 exact⟨p2,p3,p4,by(erw[e2,e3];with_reducible rfl)⟩
theorem K3{e a:Expr}(h:Om e=some a):∃kk p pos,e=.Compare a [.NotEq] [.Constant (.int 0) kk p] pos:=by
 refine bT h fun q e1 h=>?_
 refine d9 (jK h) fun h1 h=>?_
 refine aM (mw h) fun c e2 h=>?_
 refine bT h fun k e3 h=>?_
 refine bT h fun i e4 h=>?_
 refine d9 (jK h) fun h2 h=>?_
 refine fH (GM e1) fun pos e1=>?_
 refine vE (GL e3) fun kk p e3=>?_
 exact⟨kk,p,pos,by(erw[e1,h1,e2,e3,KU e4,h2,ab h];with_reducible rfl)⟩
theorem GK{l:List Comprehension}{g:Expr×Expr×Expr}(h:LT l=some g):∃c,l=[⟨g.1,g.2.1,[c],0⟩]∧Om c=some g.2.2:=by
 obtain⟨⟨t,x,cs,z⟩,e1,h⟩:=mw h
 refine d9 (jK h) fun h1 h=>?_
 refine aM (mw h) fun c e2 h=>?_
 refine aM (k5 h) fun a e3 h=>?_
 refine⟨c,?_,by(erw[h]);exact e3⟩
 (erw[e1,h])
 exact(congrArg (fun c=>[Comprehension.mk t x c z]) e2).trans (congrArg (fun z=>[Comprehension.mk t x _ z]) h1)
theorem yK{k v:Expr}{gens:List Comprehension}{x t:Str}(h:wF k v gens=some (x,t)):∃p1 p2 p3 p4 p5 p6 p7 p8 p9 p10 pos kk,k=.Name t p1∧v=.Subscript (.Name x p2) (.Name t p3) p4∧gens=[⟨.Name t p5,.Name x p6,[.Compare (.Subscript (.Name x p7) (.Name t p8) p9) [.NotEq] [.Constant (.int 0) kk p10] pos],0⟩]:=by
 refine bT h fun t0 h1 h=>?_
 refine bT h fun q h2 h=>?_
 refine bT h fun g h3 h=>?_
 refine bT h fun t2 h4 h=>?_
 refine bT h fun x2 h5 h=>?_
 refine bT h fun q3 h6 h=>?_
 refine d9 (jK h) fun hq h=>?_
 apply AO h
 obtain⟨⟨q1,q2,q4⟩,q5,q6⟩:=hq
 refine fH (jP h1) fun p1 e1=>?_
 refine DX (ye h2) fun p2 p3 p4 e2=>?_
 refine aM (GK h3) fun c e3 hc=>?_
 refine fH (jP h4) fun p5 e5=>?_
 refine fH (jP h5) fun p6 e6=>?_
 refine DX (ye h6) fun p7 p8 p9 e7=>?_
 refine DX (K3 hc) fun kk p10 pos e8=>?_
 exact⟨p1,p2,p3,p4,p5,p6,p7,p8,p9,p10,pos,kk,e1,by(erw[e2,←q1];with_reducible rfl),by(erw[e3,e5,e6,e8,e7,←q2,←q4,←q5,←q6];with_reducible rfl)⟩
theorem ua{cx:Cx}{tb:Tb}(T:qy B tb)(hh:cx.A.handled=none){k v:Expr}{gens:List Comprehension}{own:Scope}{pos:Pos}:
 fz B cx (eval (.DictComp k v gens own pos) cx.env) (match wF k v gens with
 |some (x,t)=>if !mL cx.sc own||!(own.names.lookup t==some .local)||!(own.names.lookup x==some .free)||x==("__debug__":Str)||t==("__debug__":Str)||x==("__classdict__":Str)then bP else aR (iJ fun s=>gv x s.loc) fun d=>aR (iJ fun s=>ou s.hp d) fun es=>d0 (.dict es)
 |none=>bP) (RV B):=by
 cases hd:wF k v gens with
 |none=>exact fun st a st' h=>nomatch h
 |some q=>
  obtain⟨x,t⟩:=q
  intro st a st' h P s S
  refine d9 (lH h) fun h1 h=>?_
  simp only[b9,Bool.not_eq_false']at h1
  have g6:=h1.2
  have g5:=h1.1.2
  have g4:=h1.1.1.2
  have g3:=h1.1.1.1.2
  have g2:=h1.1.1.1.1.2
  have g1:=h1.1.1.1.1.1
  clear h1
  obtain⟨p1,p2,p3,p4,p5,p6,p7,p8,p9,p10,pz,kk,e1,e2,e3⟩:=yK hd
  apply d6 e1;apply d6 e2;apply d6 e3
  exact KH T.sys hh g1 (na g2) (na g3) g4 g5 g6 _ _ _ h P s S
theorem Of{x:Str}{b:Bool}(h:(x==("__debug__":Str)||b)=false):(x==("__debug__":Str))=false:=(b9.mp h).1
theorem B9{cx:Cx}{tb:Tb}{cf:CF}{r:Ev}(T:qy B tb)(hc:BK B cf cx.A)(hh:cx.A.handled=none)(hu:cx.A.units+1 < cLine)(hr:tJ B cx.A r)(e:Expr):
 fz B cx (eval e cx.env) (Ek tb cf r cx.sc e) (RV B):=by
 have hE:=hr.e cx rfl
 have hT:=hr.t cx rfl
 have hs:∀e,iB e=true→r.e cx.sc e=bP:=hr.star cx.sc
 have hc0:Hc B cf cx.A:=hc cx.A rfl (cN _) (jy _ _)
 have bad:∀{t:Sem Value},fz B cx t bP (RV B):=fun st a st' h=>by exact bD h
 cases e with
 |Constant c k pos=>
  cases c with
  |none=>exact Eo
  |bool b=>exact Er
  |int i=>exact HH
  |str x=>exact HG
  |_=>exact bad
 |Name x pos=>exact Ep T.gl
 |BinOp a op b pos=>exact Ap (hE a) (hE b)
 |UnaryOp op a pos=>exact BY T.sys (hE a)
 |BoolOp op vs pos=>exact qv T.sys hE vs
 |Compare a ops bs pos=>exact wI T.sys hu hE
 |IfExp t a b pos=>exact z6 hE hT
 |Attribute o name pos=>exact DH T (hE o)
 |List es pos=>exact C5 hE hs
 |Tuple es k pos=>exact zs hE hs
 |Dict ks vs pos=>exact Ds hE
 |ListComp elt gens own pos=>exact tU hh hr
 |Subscript v i pos=>
  cases i with
  |Slice lo hi st p=>
   cases st with
   |none=>
    have:=zz (v:=v) (lo:=lo) (hi:=hi) (p:=p) (pos:=pos) hE
    cases lo<;>cases hi<;>exact this
   |some st=>exact uT T.sys (hE v) (hE _)
  |_=>exact uT T.sys (hE v) (hE _)
 |Call f args kws pos=>
  cases kws with
  |nil=>
   cases f with
   |Attribute o name ap=>exact v9 T hc0 hE hs
   |_=>exact Gx T hc hh hE hs rfl
  |cons _ _=>cases f<;>exact bad
 |DictComp k v gens own pos=>exact ua T hh
 |_=>exact bad
theorem zv{tb:Tb}{cf:CF}{r:Ev}{sc:Scope}{x:Expr}(h:iB x=true):Ek tb cf r sc x=bP:=by
 cases x<;>first|rfl|exact Bool.noConfusion h
end
section
theorem Fd{e:Expr}{tg:Option Expr}{l:Nat}{env:Env}(h:sT e=false):swapsWith e tg l env=pure false:=by
 cases e<;>first|rfl|exact Bool.noConfusion h
theorem B5{e:Expr}{o:Expr}{a:Str}{p:Pos}{l:Nat}{env:Env}:swapsWith e (some (.Attribute o a p)) l env=pure false:=by
 cases e<;>rfl
theorem Eg{e:Expr}{o i:Expr}{p:Pos}{l:Nat}{env:Env}:swapsWith e (some (.Subscript o i p)) l env=pure false:=by
 cases e<;>rfl
theorem Ef{e:Expr}{ts:List Expr}{k:Nat}{p:Pos}{l:Nat}{env:Env}:swapsWithSole [.Tuple ts k p] e l env=pure false:=by
 cases e<;>rfl
theorem w9{e:Expr}{ts:List Expr}{k:Nat}{p:Pos}{env:Env}(h:LB e=false):swappedStores [.Tuple ts k p] e env=pure none:=by
 cases e<;>first|rfl|exact Bool.noConfusion h
theorem DG{cx:Cx}{t:Sem Flow}:fz B cx t bP (RF B):=fun st a st' h=>by exact bD h
theorem Do{cx:Cx}{e:Expr}{pos:Pos}{m:MM MV}(hE:fz B cx (eval e cx.env) m (RV B)):fz B cx (exec (.Expr e pos) cx.env) (if sT e then bP else aR m fun z_=>bO .next) (RF B):=by
 intro st a st' h P s S
 refine d9 (lH h) fun h1 h=>?_
 refine fV h fun v s1 e1 h=>?_
 apply kH h
 exact wpAny_Expr_any (hE.use e1 S fun u P₁ S₁ x₁ r₁=>⟨P₁,x₁,.next⟩) (by unfold interactive;(erw[S.2.kind]);rfl) (Fd h1)
theorem EY{cx:Cx}{r:Ev}(hr:tJ B cx.A r):∀{v:Option Expr}{pos:Pos},fz B cx (exec (.Return v pos) cx.env) (vV r cx.sc v) (RF B)
 |none,pos=>by
  intro st a st' e P s S
  apply kH e
  exact wpAny_Return_none ⟨P,bq.refl S,.ret .none⟩
 |some e,pos=>by
  intro st a st' h P s S
  unfold vV at h
  refine fV h fun v s1 e1 h=>?_
  apply kH h
  exact wpAny_Return_some ((hr.e cx rfl e).use e1 S fun u P₁ S₁ x₁ r₁=>⟨P₁,x₁,.ret r₁⟩)
theorem Kl{cx:Cx}{r:Ev}(hr:tJ B cx.A r){t:Expr}{b o:List Stmt}{pos:Pos}:fz B cx (exec (.If t b o pos) cx.env) (aR (r.t cx.sc t) fun c=>if c then s7 (r.s cx.sc) b else s7 (r.s cx.sc) o) (RF B):=by
 intro st a st' h P s S
 refine fV h fun c s1 e1 h=>?_
 refine wpAny_If ((hr.t cx rfl t).use e1 S fun u P₁ S₁ x₁ r₁=>?_)
 apply dE r₁
 cases c with
 |true=>exact x₁.after (mU (hr.s cx rfl) b _ _ _ h _ _ x₁.sr)
 |false=>exact x₁.after (mU (hr.s cx rfl) o _ _ _ h _ _ x₁.sr)
theorem DI{e:Expr}{q:Expr×List Expr×List Keyword}(h:GN e=some q):∃p,e=.Call q.1 q.2.1 q.2.2 p:=by
 cases e<;>first|exact bD h|exact⟨_,congrArg (fun q:Expr×List Expr×List Keyword=>Expr.Call q.1 q.2.1 q.2.2 _) (ab h)⟩
theorem FV{cx:Cx}(hh:cx.A.handled=none){r:Ev}(hr:tJ B cx.A r){t it:Expr}{b:List Stmt}{pos:Pos}:fz B cx (exec (.For t it b [] pos) cx.env) (Bq r cx.sc t it b) (RF B):=by
 intro st a st' h P s S
 refine d9 (lH h) fun h1 h=>?_
 cases hv:EX it with
 |none=>
  rw[hv]at h
  exact Kw hh (by(erw[h1]);exact Bool.noConfusion) (hr.e cx rfl it) (mU (hr.s cx rfl) b) _ _ _ h P s S
 |some q=>
  rw[hv]at h
  obtain⟨f,e⟩:=q
  refine bT hv fun c e1 hv=>bT hv fun x e2 hv=>q9 hv fun a e3 hv=>nY hv fun hk hv=>nY hv fun hx hv=>?_
  refine d9 (dh hv) fun q1 q2=>?_
  refine fH (DI e1) fun p2 e1=>?_
  refine fH (jP e2) fun p1 e2=>?_
  rw[e1,e2,e3,cZ.mp hk,q2]
  rw[←q1,e2]at h
  exact I8 hh (hr.e cx rfl) (hr.star cx.sc) _ _ _ h P s S
theorem K2{cx:Cx}(hh:cx.A.handled=none){r:Ev}(hr:tJ B cx.A r){y:Str}{p vp pos:Pos}{elt:Expr}{gens:List Comprehension}{own:Scope}:
 fz B cx (exec (.Assign [.Name y p] (.ListComp elt gens own vp) pos) cx.env) (aR (yN r cx.sc elt gens own) fun vs=>aR (d0 (.list vs)) fun v=>aR (lF cx.sc y v) fun z_=>bO .next) (RF B):=by
 intro st a st' e P s S
 refine fV e fun vs s1 e1 e=>?_
 refine fV e fun v s2 e2 e=>?_
 (refine d9 (dJ e2) fun q0_ q1_=>?_;subst q0_;subst q1_)
 refine fV e fun yy s3 e3 e=>?_
 apply kH e
 obtain⟨g,gs,it,s0,rfl,h1,h2,h3,h4,h5⟩:=ti e1
 obtain⟨b,hb⟩:∃b,swapsWith (.ListComp elt (g::gs) own vp) (some (.Name y p)) pos.line cx.env=pure b:=⟨_,rfl⟩
 cases b with
 |false=>
  refine wpAny_Assign_Name ?_ hb
  (rw[eval_ListComp];erw[kJ h2])
  obtain⟨tg,i0,ifs,a0⟩:=g
  refine qt (cx:=cx) (g:=⟨tg,i0,ifs,a0⟩) (gs:=gs) (pos:=vp) (p2:=i0.pos) hh hr.e hr.t .keep h1 h2 S h3 h4 h5 rfl fun u P' s' hu x=>?_
  refine wpAny_mono (kS e3 x.sr (hu rfl)) (fun z_ s'' hz=>?_) fun z_ z_ x=>x
  (refine fH hz fun P'' x2=>?_;clear hz)
  exact⟨P'',x.trans x2,.next⟩
 |true=>
  (erw[exec_Assign_Name_used _ _ _ _ hb])
  refine wpAny_bind (wpAny_standAt (wpAny_bind ?_))
  (rw[arm_evalThenUse_ListComp];erw[kJ h2])
  obtain⟨tg,i0,ifs,a0⟩:=g
  refine wpAny_bind (qt (cx:=cx) (g:=⟨tg,i0,ifs,a0⟩) (gs:=gs) (pos:=vp) (p2:=i0.pos) hh hr.e hr.t (.put y p) h1 h2 S h3 h4 h5 e3 fun u P' s' hu x=>?_)
  exact wpAny_pure (wpAny_pure ⟨P',x,.next⟩)
theorem GG{cx:Cx}{r:Ev}(hr:tJ B cx.A r){y:Str}{p pos:Pos}{value:Expr}:
 fz B cx (exec (.Assign [.Name y p] value pos) cx.env) (if sT value then bP else aR (r.e cx.sc value) fun v=>aR (lF cx.sc y v) fun z_=>bO .next) (RF B):=by
 intro st a st' e P s S
 refine d9 (lH e) fun h1 e=>?_
 refine fV e fun v s1 e1 e=>?_
 refine fV e fun yy s3 e3 e=>?_
 apply kH e
 refine wpAny_Assign_Name ((hr.e cx rfl _).use e1 S fun u P₁ S₁ x₁ r₁=>wpAny_mono (kS e3 x₁.sr r₁) (fun z_ s'' hz=>?_) fun z_ z_ x=>x) (Fd h1)
 (refine fH hz fun P'' x2=>?_;clear hz)
 exact⟨P'',x₁.trans x2,.next⟩
theorem wN{cx:Cx}(hh:cx.A.handled=none){r:Ev}(hr:tJ B cx.A r){y:Str}{p pos:Pos}{value:Expr}:fz B cx (exec (.Assign [.Name y p] value pos) cx.env) (BB r cx.sc y value) (RF B):=by
 cases value with
 |ListComp elt gens own vp=>exact K2 hh hr
 |_=>exact GG hr
theorem GF{cx:Cx}{tb:Tb}(T:qy B tb)(hh:cx.A.handled=none){r:Ev}(hr:tJ B cx.A r){t:Expr}{pos:Pos}{value:Expr}:fz B cx (exec (.Assign [t] value pos) cx.env) (rB tb r cx.sc t value) (RF B):=by
 have hE:=hr.e cx rfl
 cases t with
 |Name y p=>exact wN hh hr
 |Attribute o at' p=>
  intro st a st' e P s S
  unfold rB at e
  dsimp only at e
  refine fV e fun v s1 e1 e=>?_
  refine fV e fun ov s2 e2 e=>?_
  refine fV e fun yy s3 e3 e=>?_
  apply kH e
  refine plainObj_wpAny_Assign_Attribute ((hE _).use e1 S fun u P₁ S₁ x₁ r₁=>(hE _).use e2 x₁.sr fun u2 P₂ S₂ x₂ r₂=>wpAny_mono (xz T.fld e3 x₂.sr r₂ (x₂.ext.vr r₁)) (fun z_ s'' hz=>?_) fun z_ z_ x=>x) B5
  (refine fH hz fun P'' x3=>?_;clear hz)
  exact⟨P'',(x₁.trans x₂).trans x3,.next⟩
 |Subscript o i p=>
  intro st a st' e P s S
  unfold rB at e
  dsimp only at e
  refine fV e fun v s1 e1 e=>?_
  refine fV e fun ov s2 e2 e=>?_
  refine fV e fun iv s2' e2' e=>?_
  refine fV e fun yy s3 e3 e=>?_
  apply kH e
  refine wpAny_Assign_Subscript ((hE _).use e1 S fun u P₁ S₁ x₁ r₁=>(hE _).use e2 x₁.sr fun u2 P₂ S₂ x₂ r₂=>(hE _).use e2' x₂.sr fun u3 P₃ S₃ x₃ r₃=>wpAny_mono (xx T.sys e3 x₃.sr (x₃.ext.vr r₂) r₃ (x₃.ext.vr (x₂.ext.vr r₁))) (fun z_ s'' hz=>?_) fun z_ z_ x=>x) Eg
  (refine fH hz fun P'' x4=>?_;clear hz)
  exact⟨P'',((x₁.trans x₂).trans x₃).trans x4,.next⟩
 |Tuple ts k p=>
  intro st a st' e P s S
  refine d9 (lH e) fun h1 e=>?_
  refine fV e fun v s1 e1 e=>?_
  refine fV e fun yy s3 e3 e=>?_
  apply kH e
  refine Assign_Tuple ((hE _).use e1 S fun u P₁ S₁ x₁ r₁=>wpAny_mono (BA e3 x₁.sr r₁ hh) (fun z_ s'' hz=>?_) fun z_ z_ x=>x) Ef (w9 h1)
  (refine fH hz fun P'' x2=>?_;clear hz)
  exact⟨P'',x₁.trans x2,.next⟩
 |_=>exact DG
theorem B8{cx:Cx}{tb:Tb}{r:Ev}(T:qy B tb)(hh:cx.A.handled=none)(hr:tJ B cx.A r)(x:Stmt):
 fz B cx (exec x cx.env) (Lu tb r cx.sc x) (RF B):=by
 cases x with
 |Pass pos=>
  intro st a st' e P s S
  apply kH (show bO MF.next st=some (a,st')from e)
  exact wpAny_Pass ⟨P,bq.refl S,.next⟩
 |Break pos=>
  intro st a st' e P s S
  apply kH (show bO MF.brk st=some (a,st')from e)
  show wpAny (model aQ w) cx.A (do standAt pos;pure Flow.brk) _ eP s
  exact wpAny_bind (wpAny_standAt (wpAny_pure ⟨P,bq.refl S,.brk⟩))
 |Continue pos=>
  intro st a st' e P s S
  apply kH (show bO MF.cont st=some (a,st')from e)
  show wpAny (model aQ w) cx.A (do standAt pos;pure Flow.cont) _ eP s
  exact wpAny_bind (wpAny_standAt (wpAny_pure ⟨P,bq.refl S,.cont⟩))
 |Expr e pos=>exact Do (hr.e cx rfl e)
 |Return v pos=>exact EY hr
 |If t b o pos=>exact Kl hr
 |While t b o pos=>
  cases o with
  |nil=>exact BV (hr.t cx rfl t) (mU (hr.s cx rfl) b)
  |cons _ _=>exact DG
 |For t it b o pos=>
  cases o with
  |nil=>exact FV hh hr
  |cons _ _=>exact DG
 |Assign ts value pos=>
  match ts with
  |[]=>exact DG
  |[t]=>exact GF T hh hr
  |_::_::_=>exact DG
 |_=>exact DG
theorem LK{tb:Tb}{cf:CF}{A:Around}(T:qy B tb)(hc:BK B cf A)(hh:A.handled=none)(hu:A.units+1 < cLine):∀n,tJ B A (ev tb cf n)
 |0=>⟨fun cx z_ e st a st' h=>(nomatch h),fun cx z_ e st a st' h=>(nomatch h),fun cx z_ e st a st' h=>(nomatch h),fun z_ z_ z_=>rfl⟩
 |n+1=>by
  have ih:=LK T hc hh hu n
  refine⟨fun cx hA e=>?_,fun cx hA e=>?_,fun cx hA e=>?_,fun sc x h=>zv h⟩
  ·subst hA;exact B9 T hc hh hu ih e
  ·subst hA;exact B7 T.sys hu (ih.e cx rfl) (ih.t cx rfl) e
  ·subst hA;exact B8 T hh ih e
end
section
noncomputable def oY(s:List (Str×Value))(x:Str×Value):List (Str×Value):=if(s.lookup x.1).isNone=true then s++[x]else s
theorem mI:∀(L:List (Str×Value)) (s:List (Str×Value)),(forIn L s (fun(x:Str×Value) (s:List (Str×Value))=>if(ig x.fst s).isNone=true then pure (ForInStep.yield (s++[(x.fst,x.snd)]))else pure (ForInStep.yield s)):Sem (List (Str×Value)))=pure (L.foldl oY s)
 |[],s=>rfl
 |x::L,s=>by
  (rw[mS];erw[bI])
  by_cases h:(ig x.fst s).isNone=true
  ·(erw[if_pos h])
   have:oY s x=s++[(x.fst,x.snd)]:=if_pos h
   (erw[this])
   exact mI L _
  ·(erw[if_neg h])
   have:oY s x=s:=if_neg h
   (erw[this])
   exact mI L _
theorem su:∀(L s:List (Str×Value)),(∀x∈L,(s.lookup x.1).isSome=true)→L.foldl oY s=s
 |[],s,_=>rfl
 |x::L,s,h=>by
  (erw[bI])
  have h1:=h x (.head _)
  have:oY s x=s:=if_neg (by rw[kE];intro q;rw[q]at h1;exact Bool.noConfusion h1)
  (erw[this])
  exact su L s fun y hy=>h y (.tail _ hy)
theorem nP{α:Type}{x:Str}:∀(a b:List (Str×α)),(a++b).lookup x=match a.lookup x with|some v=>some v|none=>b.lookup x
 |[],b=>rfl
 |(y,v)::a,b=>by
  (erw[rK];rw[bv,bv])
  by_cases h:x==y
  ·(erw[h];with_reducible rfl)
  ·rw[ca]at h;(erw[h]);exact nP a b
theorem mD{α:Type}{x:Str}:∀{a:List (Str×α)},x∉a.map (·.1)→a.lookup x=none
 |[],_=>rfl
 |(y,v)::a,h=>by
  rw[bv]
  have h1:¬x=y:=fun q=>h (by(erw[q]);exact .head _)
  have h2:(x==y)=false:=by(refine(beq_eq_false_iff_ne).mpr ?_);exact h1
  (erw[h2])
  exact mD fun q=>h (.tail _ q)
theorem ux:∀(L s:List (Str×Value)),(∀x∈L,s.lookup x.1=none)→(L.map (·.1)).Nodup→L.foldl oY s=s++L
 |[],s,_,_=>(bk s).symm
 |x::L,s,h,nd=>by
  (erw[bI])
  have:oY s x=s++[x]:=if_pos (by(erw[h x (.head _)]);rfl)
  (rw[bj]at nd;replace nd:=(cL).mp nd)
  rw[this,ux L (s++[x]) (fun y hy=>?_) nd.2,dM];rfl
  (rw[nP];erw[h y (.tail _ hy)])
  refine mD fun q=>nd.1 ?_
  rw[bj,zf,ax]at q
  (erw[←q])
  exact aU.mpr ⟨y,hy,rfl⟩
theorem jQ{α:Type}:∀{names:List Str}{us:List α}{i:Nat}{x:Str}{u:α},names.Nodup→names[i]?=some x→us[i]?=some u→(names.zip us).lookup x=some u
 |[],_,i,_,_,_,h,_=>by simp at h
 |_::_,[],i,_,_,_,_,h=>by simp at h
 |n::names,v::us,0,x,u,nd,h1,h2=>by
  simp only[l4,gV]at h1 h2
  apply dE h1;apply dE h2
  (erw[dS];rw[bv,beq_self_eq_true])
 |n::names,v::us,i+1,x,u,nd,h1,h2=>by
  simp only[y6]at h1 h2
  replace nd:=(cL).mp nd
  have hx:x∈names:=ak h1
  have:(x==n)=false:=by(refine(beq_eq_false_iff_ne).mpr ?_);exact fun q=>nd.1 (q▸hx)
  (erw[dS];rw[bv];erw[this])
  exact jQ nd.2 h1 h2
theorem tP{α:Type}{names:List Str}{ws:List α}(nd:names.Nodup)(hl:ws.length=names.length):names.filterMap (fun n=>((names.zip ws).lookup n).map fun v=>(n,v))=names.zip ws:=by
 have gen:∀(m k:Nat),names.length - k=m→(names.drop k).filterMap (fun n=>((names.zip ws).lookup n).map fun v=>(n,v))=(names.drop k).zip (ws.drop k):=by
  intro m
  induction m with
  |zero=>intro k hk;rw[zi (by omega)];rfl
  |succ m ih=>
   intro k hm
   have hk:k < names.length:=by omega
   (erw[kQ hk];rw[kQ (l:=ws) (by omega)];erw[List.filterMap_cons];rw[jQ nd (an hk) (an (by omega))])
   simp only[jE,dS,ih (k+1) (by omega)]
 have:=gen _ 0 rfl
 simpa using this
theorem ui{α β:Type}:∀{names:List β}{us W:List α},us.length≤names.length→names.zip (us++W)=names.zip us++(names.drop us.length).zip W
 |names,[],W,_=>by simp
 |[],u::us,W,h=>by simp at h
 |n::names,u::us,W,h=>by
  (erw[rK,dS,dS,rK,dU,List.drop_succ_cons,ui (by simpa using h)];with_reducible rfl)
theorem pS{α β:Type}:∀{names:List β}{us:List α}{x:β×α},x∈names.zip us→∃i,i < us.length∧names[i]?=some x.1∧us[i]?=some x.2
 |[],_,x,h=>by simp at h
 |_::_,[],x,h=>by simp at h
 |n::names,u::us,x,h=>by
  rw[dS]at h
  rcases aF.mp h with rfl|h
  ·exact⟨0,by simp,rfl,rfl⟩
  ·obtain⟨i,h1,h2,h3⟩:=pS h
   exact⟨i+1,by simpa using h1,by simpa using h2,by simpa using h3⟩
theorem pR{α β:Type}:∀{names:List β}{us:List α},names.Nodup→((names.zip us).map (·.1)).Nodup
 |[],_,_=>by simp
 |_::_,[],_=>by simp
 |n::names,u::us,nd=>by
  replace nd:=(cL).mp nd
  (erw[dS,bj];(refine(cL).mpr ?_))
  refine⟨fun q=>?_,pR nd.2⟩
  refine aM (aU.mp q) fun x hx hn=>?_
  refine dH (pS hx) fun i z_ h2 z_=>?_
  exact nd.1 (by have hn':x.1=n:=hn;(erw[←hn']);exact ak h2)
theorem Fe{β:Type}{names:List β}(nd:names.Nodup){i j:Nat}{x:β}(h1:names[i]?=some x)(h2:names[j]?=some x):i=j:=by
 obtain⟨l1,e1⟩:=ai.mp h1
 obtain⟨l2,e2⟩:=ai.mp h2
 rcases Ht i j with q|q|q
 ·exact absurd (e1.trans e2.symm) (dQ.mp nd i j l1 l2 q)
 ·exact q
 ·exact absurd (e2.trans e1.symm) (dQ.mp nd j i l2 l1 q)
theorem Dr{α β:Type}(names:List β)(us:List α)(k:Nat):(names.zip us).drop k=(names.drop k).zip (us.drop k):=List.drop_zipWith
theorem B3{α β:Type}(names:List β)(us:List α)(k:Nat):(names.zip us).take k=(names.take k).zip (us.take k):=List.take_zipWith
theorem On{n d u:Nat}(h2:n≤u+d)(h3:d≤n):n - d+(u+d - n)=u:=by
 (refine(Nat.sub_add_comm h3)▸?_;erw[Nat.add_sub_of_le h2];rw[Nat.add_sub_cancel])
theorem Cc{names:List Str}{us dv:List Value}(nd:names.Nodup)(h1:us.length≤names.length)(h2:names.length≤us.length+dv.length)(h3:dv.length≤names.length):
 ((names.drop (names.length - dv.length)).zip dv).foldl oY (names.zip us)=names.zip (us++dv.drop (us.length+dv.length - names.length)):=by
 have e:((names.drop (names.length - dv.length)).zip dv)=((names.drop (names.length - dv.length)).zip dv).take (us.length+dv.length - names.length)++(names.drop us.length).zip (dv.drop (us.length+dv.length - names.length)):=by
  have:=(gW (us.length+dv.length - names.length) ((names.drop (names.length - dv.length)).zip dv)).symm
  rw[Dr,nW]at this
  rw[show names.length - dv.length+(us.length+dv.length - names.length)=us.length from On h2 h3]at this
  exact this
 (erw[e,hJ];rw[su (((names.drop (names.length - dv.length)).zip dv).take (us.length+dv.length - names.length)),ux ((names.drop us.length).zip (dv.drop (us.length+dv.length - names.length)))];erw[ui h1];with_reducible rfl)
 ·intro x hx
  refine mD fun q=>?_
  refine aM (aU.mp q) fun y hy hyx=>?_
  refine dH (pS hy) fun i hi hi2 z_=>?_
  refine dH (pS hx) fun j z_ hj2 z_=>?_
  rw[gM]at hj2
  have:=Fe nd (hi2.trans (congrArg some hyx)) hj2
  omega
 ·refine pR ?_
  exact nd.sublist (List.drop_sublist _ _)
 ·intro x hx
  rw[B3]at hx
  refine dH (pS hx) fun i hi hi2 z_=>?_
  replace hi:=(cK)▸hi
  rw[fZ (by omega),gM]at hi2
  have hlt:names.length - dv.length+i < us.length:=by omega
  (erw[jQ nd hi2 (an hlt)])
  rfl
theorem vG{α:Type}{A:Around}{c:Prop}[Decidable c]{t e:Sem α}{Q:α→Shared→Prop}{E:Value→Shared→Prop}{s:Shared}(h:¬c)(k:wpAny (model aQ w) A e Q E s):wpAny (model aQ w) A (if c then t else e) Q E s:=(if_neg h).symm▸k
theorem vZ{names:List Str}{us:List Value}{k:Nat}(nd:names.Nodup)(l:names.length - k≤us.length):(BS (fun n=>(ig n (names.zip us)).isNone) (Hw (names.length - k) names))=[]:=by
 (refine(jc).mpr ?_)
 intro n hn q
 refine fH (bW hn) fun i hi=>?_
 have hlt:=(ai.mp hi).1
 rw[cK]at hlt
 have h2:=av hlt (nE _ _)
 rw[fZ h2]at hi
 rw[jQ nd hi (an (av h2 l))]at q
 exact Bool.noConfusion q
theorem yE{names:List Str}{us dv:List Value}(nd:names.Nodup)(h1:us.length≤names.length)(h2:names.length≤us.length+dv.length)(h3:dv.length≤names.length):
 (names++[]).filterMap (fun n=>(ig n (((names.drop (names.length - dv.length)).zip dv).foldl oY (names.zip us))).map fun v=>(n,v))=names.zip (us++dv.drop (us.length+dv.length - names.length)):=by
 (erw[Cc nd h1 h2 h3];rw[bk,tP nd (by rw[aJ,rJ];omega)])
theorem DE{fd:FuncData}{us dv:List Value}{as:List Arg}{kd:List (Option Expr)}{df:List Expr}(nd:(as.map (·.arg)).Nodup)(l1:us.length≤(as.map (·.arg)).length)(l2:(as.map (·.arg)).length≤us.length+dv.length)(l3:dv.length≤(as.map (·.arg)).length){A:Around}{E:Value→Shared→Prop}{s:Shared}{Q:List (Str×Value)→Shared→Prop}
 (hd:∀{Q':Option (Array Value)→Shared→Prop},(∀r,(r.getD #[]).toList=dv→Q' r s)→wpAny (model aQ w) A (seqItems? fd.defaults) Q' E s)
 (hq:Q ((as.map (·.arg)).zip (us++dv.drop (us.length+dv.length - (as.map (·.arg)).length))) s):wpAny (model aQ w) A (bindArgs {fd with params:=⟨[],as,none,[],kd,none,df⟩} ⟨us,[]⟩) Q E s:=by
 refine wpAny_bind (wpAny_pure ?_)
 refine wpAny_bind (hd fun r hr=>?_)
 refine vG (fun q=>absurd (of_decide_eq_true (d8.mp q).1) (aC.mpr l1)) ?_
 have e0:dv=y7 ((r.getD #[]).toList.length - (as.map (·.arg)).length) (r.getD #[]).toList:=by
  (erw[hr,Nat.sub_eq_zero_of_le l3]);rfl
 have l2:=e0▸l2
 have l3:=e0▸l3
 refine vG (fun q=>absurd ((congrArg (fun l=>!List.isEmpty l) (vZ (us:=us) nd (BO.mpr l2))).symm.trans q) (by decide)) ?_
 refine wpAny_bind (wpAny_of_eq (mI _ _) ?_)
 refine wpAny_bind (wpAny_pure ?_)
 refine vG (fun q=>absurd q DU) ?_
 exact wpAny_pure (d6 (C:=fun x=>Q x s) (yE nd l1 l2 l3) (e0▸hq))
theorem yW{fd:FuncData}{us dv:List Value}{names:List Str}(h1:fd.params.posonlyargs=[])(h2:fd.params.kwonlyargs=[])(h3:fd.params.vararg=none)(h4:fd.params.kwarg=none)(h5:fd.params.args.map (·.arg)=names)
 (nd:names.Nodup) (l1:us.length≤names.length) (l2:names.length≤us.length+dv.length) (l3:dv.length≤names.length) {A:Around}{E:Value→Shared→Prop}{s:Shared}{Q:List (Str×Value)→Shared→Prop}
 (hd:∀{Q':Option (Array Value)→Shared→Prop},(∀r,(r.getD #[]).toList=dv→Q' r s)→wpAny (model aQ w) A (seqItems? fd.defaults) Q' E s)
 (hq:Q (names.zip (us++dv.drop (us.length+dv.length - names.length))) s):wpAny (model aQ w) A (bindArgs fd ⟨us,[]⟩) Q E s:=by
 subst h5
 have hp:∀{p:Arguments},p.posonlyargs=[]→p.kwonlyargs=[]→p.vararg=none→p.kwarg=none→Arguments.mk [] p.args none [] p.kw_defaults none p.defaults=p:=fun{p} a b c d=>by
  cases p;subst a;subst b;subst c;subst d;rfl
 have he:{fd with params:=Arguments.mk [] fd.params.args none [] fd.params.kw_defaults none fd.params.defaults}=fd:=congrArg (fun p=>{fd with params:=p}) (hp h1 h2 h3 h4)
 exact he▸DE (fd:=fd) nd l1 l2 l3 hd hq
end
set_option backward.match.sparseCases true
section
inductive RY(B:Heap)(a:Addr)(f:Fn):Prop
 |mk (o:Obj) (fd:FuncData) (dv:List Value) (h1:B.get? a=some o) (h2:o.data=.func fd) (h3:fd.scope=f.sc) (h4:fd.scope.isCoroutine=false) (h5:fd.scope.isGenerator=false) (h6:fd.body=.stmts f.body) (h7:B.CodeRec fd.code fd.qualname) (h8:fd.globals=mainGlobals) (h9:fd.closure=[]) (h10:fd.builtins=builtinsNs)
  (h11:fd.params.posonlyargs=[]) (h12:fd.params.kwonlyargs=[]) (h13:fd.params.vararg=none) (h14:fd.params.kwarg=none) (h15:fd.params.args.map (·.arg)=f.params) (h16:∀P,dy B P B f.dflts dv) (h17:(fd.defaults=.none∧dv=[])∨∃t,fd.defaults=.ref t∧IsTup B t dv.toArray)
structure G8(B:Heap)(a:Addr)(f:Fn):Prop where
 fn:RY B a f
 nd:f.params.Nodup
 dl:f.dflts.length≤f.params.length
 kind:f.sc.kind=.function
 par:∀x∈f.params,f.sc.names.lookup x=some .local∨f.sc.names.lookup x=some .cell
 nofree:∀x,f.sc.names.lookup x≠some .free
theorem vm{k:Str→Option NameKind}{x:Str}:∀(L:List (Str×Value)) (m:Str→Option Value),x∉L.map (·.1)→bindL k L m x=m x
 |[],m,_=>rfl
 |(n,v)::r,m,h=>by
  (erw[vm r _ (fun q=>h (.tail _ q))])
  have:¬x=n:=fun q=>h (by(erw[q]);exact .head _)
  split
  ·exact if_neg this
  ·rfl
theorem vq{k:Str→Option NameKind}{x:Str}:∀(L:List (Str×Value)) (m:Str→Option Value),x∉L.map (·.1)→bindC k L m x=m x
 |[],m,_=>rfl
 |(n,v)::r,m,h=>by
  (erw[vq r _ (fun q=>h (.tail _ q))])
  have:¬x=n:=fun q=>h (by(erw[q]);exact .head _)
  split
  ·rfl
  ·exact if_neg this
theorem yU{k:Str→Option NameKind}{x:Str}{v:Value}(hk:k x=some .local):∀(L:List (Str×Value)) (m:Str→Option Value),(L.map (·.1)).Nodup→L.lookup x=some v→bindL k L m x=some v
 |[],m,_,h=>by exact bD h
 |(n,u)::r,m,nd,h=>by
  rw[bj,cL]at nd
  rw[bv]at h
  by_cases hx:x==n
  ·rw[hx]at h;(obtain rfl:=ab h;clear h)
   have e:=eq_of_beq hx
   subst e
   (erw[vm r _ nd.1,if_pos hk,if_pos rfl];with_reducible rfl)
  ·rw[ca]at hx;rw[hx]at h
   exact yU hk r _ nd.2 h
theorem yV{k:Str→Option NameKind}{x:Str}{v:Value}(hk:¬k x=some .local):∀(L:List (Str×Value)) (m:Str→Option Value),(L.map (·.1)).Nodup→L.lookup x=some v→bindC k L m x=some v
 |[],m,_,h=>by exact bD h
 |(n,u)::r,m,nd,h=>by
  rw[bj,cL]at nd
  rw[bv]at h
  by_cases hx:x==n
  ·rw[hx]at h;(obtain rfl:=ab h;clear h)
   have e:=eq_of_beq hx
   subst e
   (erw[vq r _ nd.1,if_neg hk,if_pos rfl];with_reducible rfl)
  ·rw[ca]at hx;rw[hx]at h
   exact yV hk r _ nd.2 h
theorem lO{x:Str}:∀(names:List (Str×NameKind)) (n:Nat) (acc:List (Str×Addr)),((acc.lookup x).isSome=true∨(x,.cell)∈names)→((cellsFrom n names acc).lookup x).isSome=true
 |[],n,acc,h=>h.elim id fun q=>nomatch q
 |(y,k)::r,n,acc,h=>by
  unfold cellsFrom
  set_option tactic.hygienic true in split
  ·refine lO r _ _ ?_
   rw[bv]
   by_cases hx:x==y
   ·left;(erw[hx]);rfl
   ·have hx':=hx
    rw[ca]at hx';(erw[hx'])
    rcases h with h|h
    ·exact .inl h
    ·rcases aF.mp h with e|h
     ·cases e;exact absurd (beq_self_eq_true _) hx
     ·exact .inr h
  ·rename_i hk
   refine lO r _ _ ?_
   rcases h with h|h
   ·exact .inl h
   ·rcases aF.mp h with e|h
    ·cases e;exact absurd rfl hk
    ·exact .inr h
theorem yq{x:Str}{mv:MV}:∀{names:List Str}{ws:List MV},gv x (names.zip ws)=some mv→∃i:Nat,names[i]?=some x∧ws[i]?=some mv
 |[],_,h=>by exact bD h
 |_::_,[],h=>by exact bD h
 |n::names,u::ws,h=>by
  rw[dS]at h
  unfold gv at h
  by_cases hx:n=x
  ·rw[if_pos hx]at h;(obtain rfl:=ab h;clear h);apply dE hx;exact⟨0,rfl,rfl⟩
  ·rw[if_neg hx]at h
   refine aM (yq h) fun i h1 h2=>?_
   exact⟨i+1,by simpa using h1,by simpa using h2⟩
theorem KS{P:bE}{H:MH}{s₀ s:Shared}{f:Fn}{a:Addr}{env:Env}{qual:Str}{code:Value}{ws:List MV}{wvs:List Value}(F:G8 B a f)(HR₀:HR B P H s₀.heap)(henv:env=newEnv f.sc s₀.heap.objs.size mainGlobals (cellsFrom (s₀.heap.objs.size+1) f.sc.names []) qual (some a) code none builtinsNs)
 (hl:ws.length=f.params.length) (xs:dy B P s₀.heap ws wvs) (I:InCallC s₀ env.locals (bindL env.kindOf (f.params.zip wvs) fun z_=>none) env.cells (bindC env.kindOf (f.params.zip wvs) fun z_=>none) s):
 FR B P s.heap env f.sc (f.params.zip ws):=by
 have hL:env.locals=s₀.heap.objs.size:=by(erw[henv]);rfl
 have hC:env.cells=cellsFrom (s₀.heap.objs.size+1) f.sc.names []:=by(erw[henv]);rfl
 have hk:∀x,env.kindOf x=f.sc.names.lookup x:=fun x=>by(erw[henv]);rfl
 have sz:=cA.sizeNone (h:=s₀.heap)
 (refine rN I.done fun h' tk q0_ keep=>?_;subst q0_)
 have fresh:∀b,s₀.heap.objs.size≤b→¬ke P b∧B.get? b=none:=fun b hb=>by
  have hn:s₀.heap.get? b=none:=bA fun o e=>absurd (ci e) (aC.mpr hb)
  refine⟨fun q=>?_,bA fun o e=>?_⟩
  ·refine aM (HR₀.footAlive q) fun o e z_=>?_;rw[hn]at e;exact bD e
  ·have:=HR₀.stays _ _ e;rw[hn]at this;exact bD this
 have val:∀x mv,gv x (f.params.zip ws)=some mv→∃v,(f.params.zip wvs).lookup x=some v∧VR B P h' mv v:=fun x mv e=>by
  refine aM (yq e) fun i h1 h2=>?_
  refine aM (xs.get h2) fun v h3 h4=>?_
  exact⟨v,jQ F.nd h1 h3,h4.mono (fun a o e z_=>keep a o e) (cR.refl P)⟩
 have ndz:=pR (us:=wvs) F.nd
 refine⟨by(erw[henv]);exact F.kind,by(erw[henv]);rfl,by(erw[henv]);rfl,fun x=>.inl (hk x).symm,⟨_,I.toInCall.ns,fun x mv e k=>?_⟩,fun x k=>?_,fun x y c e1 e2=>?_,by(erw[hL]);exact fresh _ (aY _),fun x c e=>?_⟩
 ·obtain⟨v,h1,h2⟩:=val x mv e
  exact⟨v,yU k _ _ ndz h1,h2⟩
 ·have kc:env.kindOf x=some .cell:=by
   rcases k with k|k
   ·exact k
   ·rw[hk]at k;exact absurd k (F.nofree x)
  have:((cellsFrom (s₀.heap.objs.size+1) f.sc.names []).lookup x).isSome=true:=lO _ _ _ (.inr (fL (by rw[←hk];exact kc)))
  refine fH (dk.mp this) fun c hc=>?_
  rw[←hC]at hc
  refine⟨c,_,hc,I.cell x c hc,fun mv e=>?_⟩
  refine aM (val x mv e) fun v h1 h2=>?_
  refine⟨v,?_,h2⟩
  have:=I.cell x c hc
  rw[yV (by(erw[kc]);decide) _ _ ndz h1]at this
  exact this
 ·exact name_of_addr I.apart (mem_of_lookup e1) (mem_of_lookup e2)
 ·have hlt:=I.above x c (mem_of_lookup e)
  rw[hL]at hlt
  refine d9 (fresh c (dO hlt)) fun f1 f2=>?_
  exact⟨f1,f2,by(erw[hL]);exact cj hlt,_,I.cell x c e⟩
noncomputable def Ha(d:Nat)(A:Around):Prop:=A.handled=none∧A.depth+2*d≤900∧A.units+8*d≤9000
theorem KT{tb:Tb}{fns:Addr→Option Fn}{d:Nat}{a:Addr}{args:List MV}{H H':MH}{r:MV}{C:Prop}(e:vf tb fns (d+1) a args H=some (r,H'))
 (k:∀f mf st',fns a=some f→args.length≤f.params.length→f.params.length≤args.length+f.dflts.length→s7 ((ev tb (vf tb fns d) 30).s f.sc) f.body ⟨f.params.zip (args++f.dflts.drop (args.length+f.dflts.length - f.params.length)),H⟩=some (mf,st')→
  (∀(P':bE) (hh:Heap) (fl:Flow),qX B P' hh mf fl→VR B P' hh r (match fl with| .ret v=>v|_=>.none))→st'.hp=H'→C):C:=by
 refine bT e fun f ef e=>?_
 refine bT e fun l el e=>?_
 refine d9 (jK el) fun hlen el=>?_
 rw[bf,decide_eq_true_eq,decide_eq_true_eq]at hlen
 have el:=ab el
 subst el
 refine E9 (o:=s7 ((ev tb (vf tb fns d) 30).s f.sc) f.body ⟨f.params.zip (args++f.dflts.drop (args.length+f.dflts.length - f.params.length)),H⟩) (fun h=>?_) fun q h=>?_
 ·rw[h]at e;exact bD e
 rw[h]at e
 obtain⟨mf,st'⟩:=q
 cases mf with
 |ret v=>exact k f _ st' ef hlen.1 hlen.2 h (fun P' hh fl x=>match x with| .ret q=>(dh e).1▸q) (dh e).2
 |next=>exact k f _ st' ef hlen.1 hlen.2 h (fun P' hh fl x=>match x with| .next=>(dh e).1▸.none) (dh e).2
 |brk=>exact bD e
 |cont=>exact bD e
theorem HR.grown{P:bE}{H:MH}{h h':Heap}(R:HR B P H h)(keep:∀b o,h.get? b=some o→h'.get? b=some o):HR B P H h':=
 ⟨fun b o e=>keep b o (R.stays b o e),R.len,fun n o p e1 e2=>(R.obj n o p e1 e2).keep (fun a o e z_=>keep a o e) (cR.refl P) (fun o e=>keep _ o e) (fun o e=>keep _ o e),R.apart,R.low⟩
theorem Dm{d:Nat}{A A':Around}{env:Env}(fit:Ha (d+1) A)(g1:A'.handled=(A.deeper env).handled)(g2:A'.depth≤(A.deeper env).depth+1)(g3:A'.units≤(A.deeper env).units+5):Ha d A':=
 ⟨g1.trans fit.1,
  ah (qB A.depth 2 (2*d)▸(oH g2 (2*d):A'.depth+2*d≤A.depth+2+2*d)) (fit.2.1:A.depth+2*d+2≤900),
  ah (qB A.units 8 (8*d)▸(oH g3 (8*d):A'.units+8*d≤A.units+8+8*d)) (fit.2.2:A.units+8*d+8≤9000)⟩
theorem Aa{d:Nat}{A:Around}(fit:Ha (d+1) A):A.units+3+1 < cLine:=
 aL (oH (ah (jy A.units (8*(d+1))) fit.2.2) 4) (by decide)
theorem Ab{d:Nat}{A:Around}(fit:Ha (d+1) A):A.depth < recursionLimit:=
 aL (ah (jy A.depth (2*(d+1))) fit.2.1) (by decide)
theorem FZ{α:Type}{as ds:List α}{k:Nat}(h1:as.length≤k)(h2:k≤as.length+ds.length):(as++ds.drop (as.length+ds.length - k)).length=k:=by
 have h:as.length+ds.length - k≤ds.length:=BO.mpr (ro as.length ds.length▸eS h1 _)
 (erw[aJ,rJ])
 exact(Nat.add_sub_assoc h _).symm.trans (Nat.sub_sub_self h2)
theorem Gy{tb:Tb}{fns:Addr→Option Fn}(T:qy B tb)(hF:∀a f,fns a=some f→G8 B a f)(hN:B.NoLimit):∀(d:Nat) (A:Around),Ha d A→Hc B (vf tb fns d) A:=by
 intro d
 induction d with
 |zero=>intro A _ a args H r H' e;exact bD e
 |succ d ih=>
  intro A fit a args H r H' e us P s HR₀ xs R K
  refine KT e fun f mf st' ef le1 le2 ee hrr eH=>?_
  clear e
  have F:=hF a f ef
  cases F.fn with
  |mk o fd dv h1 h2 h3 h4 h5 h6 h7 h8 h9 h10 h11 h12 h13 h14 h15 h16 h17=>
  have hd16:=(h16 []).length
  have hus:=xs.length
  have hk:us.length+dv.length - f.params.length=args.length+f.dflts.length - f.params.length:=by(erw[hd16,hus];with_reducible rfl)
  refine codeAny_call_function (o:=o) (fd:=fd) (body:=f.body) (Ab fit) (HR₀.stays _ _ h1) h2 h4 h5 h6 ?_ ?_
  ·obtain⟨c,o,vs,t,g1,g2,g3⟩:=h7
   exact⟨c,o,vs,t,g1,HR₀.stays _ _ g2,g3⟩
  refine yW (dv:=dv) h11 h12 h13 h14 h15 F.nd (hus▸le1) (hus▸hd16▸le2) (hd16▸F.dl) (fun{Q'} k=>?_) ?_
  ·rcases h17 with⟨g1,g2⟩|⟨t,g1,g2⟩
   ·exact g1▸wpAny_pure (k none (g2.symm▸rfl))
   ·erw[g1]
    refine aM g2 fun ob q1 q2=>?_
    exact AT ⟨ob,HR₀.stays _ _ q1,q2⟩ (k _ rfl)
  refine h3.symm▸h8.symm▸h9.symm▸h10.symm▸?_
  have hws:dy B P s.heap (args++f.dflts.drop (args.length+f.dflts.length - f.params.length)) (us++dv.drop (us.length+dv.length - f.params.length)):=
   hk.symm▸xs.append (((h16 P).mono (fun a o e z_=>HR₀.stays a o e) (cR.refl P)).drop _)
  refine wpAny_newFunctionEnv_cells F.kind (fun x hx=>?_) fun env henv s₂ I=>?_
  ·obtain⟨i,_,hi,_⟩:=pS hx
   rcases F.par x.1 (ak hi)with q|q
   ·exact .inl q
   ·exact .inr ⟨q,lO _ _ _ (.inr (fL q))⟩
  have FR₀:=KS F HR₀ henv (FZ le1 le2) hws I
  have hL:env.locals=s.heap.objs.size:=henv▸rfl
  have hsc:∀x c,env.cells.lookup x=some c→s.heap.objs.size≤c:=fun x c e=>dO (hL▸I.above x c (mem_of_lookup e))
  (refine rN I.done fun h' tk q0_ keep=>?_;subst q0_)
  clear h1 h2 h3 h4 h5 h6 h7 h8 h9 h10 h11 h12 h13 h14 h15 h16 h17 hd16 hk hws henv I xs hus
  refine⟨?_,codeAny_func (pF ?_)⟩
  ·obtain⟨mc,⟨o,es,ep,g1,g2⟩,g3⟩:=hN
   exact⟨mc,⟨o,es,ep,keep _ _ (HR₀.stays _ _ g1),g2⟩,g3⟩
  have evk:=LK T (A:=A.deeper env) (fun A' g1 g2 g3=>ih A' (Dm fit g1 g2 g3)) fit.1 (Aa fit) 30
  refine(mU (cx:=⟨A.deeper env,env,f.sc⟩) (evk.s ⟨A.deeper env,env,f.sc⟩ rfl) f.body).use ee ⟨HR₀.grown keep,FR₀⟩ fun fl P₃ S₃ x₃ r₃=>?_
  refine K _ S₃ P₃ ⟨eH▸x₃.sr.1,?_,?_⟩ (hrr P₃ S₃.heap fl r₃)
  ·refine((jk.grow keep).trans x₃.ext).drop fun b q=>.inr (bA fun o e=>?_)
   have hlt:=ci e
   rcases q with q|⟨x,_,q⟩
   ·rw[q,hL]at hlt;exact absurd hlt (gp _)
   ·exact absurd hlt (aC.mpr (hsc x b q))
  ·obtain⟨h3,k3,e⟩:=x₃.shape
   exact⟨h3,k3,e⟩
end
set_option backward.match.sparseCases false
noncomputable def Sc(i:Nat):Stmt:=(pw_nu0210_01.main.body[i]?).getD (.Pass ⟨0,0,0,0⟩)
noncomputable def Oe:Stmt→Arguments×List Stmt×Scope
 | .FunctionDef _ a b _ _ _ sc _ _ _=>(a,b,sc)
 |_=>default
noncomputable def S7:Stmt→Nat→Stmt
 | .ClassDef _ _ _ b _ _ _ _ _ _ _,j=>(b[j]?).getD (.Pass ⟨0,0,0,0⟩)
 |s,_=>s
noncomputable def bV(k:Nat)(j:Option Nat)(dflts:List MV):Fn:=
 let s:=match j with|none=>Sc k|some j=>S7 (Sc k) j
 ⟨(Oe s).1.args.map (·.arg),dflts,(Oe s).2.1,(Oe s).2.2⟩
noncomputable abbrev gE(s:String)(v:MV):Str×MV:=(ag s,v)
noncomputable def Qh:List (Str×MV):=[
 gE "ALL_INFOS" (.int 1),
 gE "BACKWARD" (.tup [(.str "rtla")]),
 gE "BACKWARD_SCRIPTS" (.tup [(.str "arab"),(.str "hebr"),(.str "syrc"),(.str "thaa"),(.str "nko ")]),
 gE "BASE_gdef" (.int 1),
 gE "Buffer" (.stat (.ref 96)),
 gE "COMMON" (.tup [(.str "abvm"),(.str "blwm"),(.str "ccmp"),(.str "locl"),(.str "mark"),(.str "mkmk"),(.str "rlig"),(.str "calt"),(.str "clig"),(.str "curs"),(.str "dist"),(.str "kern"),(.str "liga"),(.str "rclt")]),
 gE "COMPONENT" (.int 4),
 gE "CharMap" (.stat (.ref 1726)),
 gE "ClassDef" (.stat (.ref 1814)),
 gE "FALLBACKS" (.tup [(.str "DFLT"),(.str "dflt"),(.str "latn")]),
 gE "FORMS_joining" (.tup [(.str "isol"),(.str "fina"),(.str "medi"),(.str "init")]),
 gE "FORMS_shaper" (.tup [(.str "isol"),(.str "init"),(.str "medi"),(.str "fina")]),
 gE "FORWARD" (.tup [(.str "ltra"),(.str "ltrm")]),
 gE "Feature" (.stat (.ref 1951)),
 gE "Font" (.stat (.ref 1760)),
 gE "Gdef" (.stat (.ref 1862)),
 gE "IGNORE_BASES" (.int 2),
 gE "IGNORE_LIGATURES" (.int 4),
 gE "IGNORE_MARKS" (.int 8),
 gE "Info" (.stat (.ref 52)),
 gE "JOINED_SCRIPTS" (.tup [(.str "arab")]),
 gE "JOINED_STAGES" (.tup [(.tup [(.str "ccmp"),(.str "locl"),(.str "ltra"),(.str "ltrm"),(.str "rtla"),(.str "rtlm")]),(.tup [(.str "isol")]),(.tup [(.str "fina")]),(.tup [(.str "medi")]),(.tup [(.str "init")]),(.tup [(.str "rlig")])]),
 gE "LangSys" (.stat (.ref 1897)),
 gE "Layout" (.stat (.ref 1977)),
 gE "Lookup" (.stat (.ref 181)),
 gE "MARK_shaper" (.int 3),
 gE "MOST_BITS" (.int 31),
 gE "MOST_VALUE" (.int 255),
 gE "Metrics" (.stat (.ref 1065)),
 gE "NO_CLASS" (.int 0),
 gE "Plan" (.stat (.ref 1391)),
 gE "SPACE" (.int 32),
 gE "Scene" (.stat (.ref 203)),
 gE "Script" (.stat (.ref 1923)),
 gE "Shaped" (.stat (.ref 1612)),
 gE "Single" (.stat (.ref 782)),
 gE "TATWEEL" (.int 1600),
 gE "USE_SET" (.int 16),
 gE "Want" (.stat (.ref 1420)),
 gE "Wish" (.stat (.ref 1364)),
 gE "ZWJ_hidden" (.int 8205),
 gE "ZWJ_joining" (.int 8205),
 gE "ZWNJ_hidden" (.int 8204),
 gE "_law_box" (.stat (.ref 2002)),
 gE "_law_codes" (.tup [(.tup [(.int 1576),(.str "D")]),(.tup [(.int 1575),(.str "R")]),(.tup [(.int 1604),(.str "D")]),(.tup [(.int 1614),(.str "T")]),(.tup [(.int 1583),(.str "R")]),(.tup [(.int 65),(.str "U")]),(.tup [(.int 1600),(.str "C")])]),
 gE "_law_counts" (.stat (.ref 2021)),
 gE "_law_draw" (.stat (.ref 2009)),
 gE "_law_forms" (.stat (.ref 2014)),
 gE "_law_glyph" (.stat (.ref 2028)),
 gE "_law_stage" (.stat (.ref 1997)),
 gE "_law_tags" (.tup [(.str "rlig"),(.str "init"),(.str "liga"),(.str "fina"),(.str "ccmp"),(.str "salt"),(.str "medi"),(.str "isol"),(.str "calt"),(.str "rtla")]),
 gE "abs" (.stat (.builtin "abs")),
 gE "add_lookups" (.stat (.ref 1323)),
 gE "advance" (.stat (.ref 1076)),
 gE "all_wants" (.stat (.ref 1438)),
 gE "apply_alternate" (.stat (.ref 814)),
 gE "apply_context" (.stat (.ref 596)),
 gE "apply_kern" (.stat (.ref 1034)),
 gE "apply_ligature" (.stat (.ref 753)),
 gE "apply_multiple" (.stat (.ref 800)),
 gE "apply_reverse" (.stat (.ref 760)),
 gE "apply_single" (.stat (.ref 793)),
 gE "apply_table" (.stat (.ref 821)),
 gE "attach_wanted" (.stat (.ref 214)),
 gE "buffer_of" (.stat (.ref 106)),
 gE "chain_from" (.stat (.ref 478)),
 gE "check_wish" (.stat (.ref 1402)),
 gE "choose_langsys" (.stat (.ref 1295)),
 gE "choose_script" (.stat (.ref 1288)),
 gE "class_bit" (.stat (.ref 221)),
 gE "dict" (.stat (.type "dict")),
 gE "dual_ranges" (.stat (.ref 942)),
 gE "feature_at" (.stat (.ref 1302)),
 gE "feature_indexes" (.stat (.ref 1316)),
 gE "feature_mask" (.stat (.ref 1623)),
 gE "first_wants" (.stat (.ref 1431)),
 gE "form_of" (.stat (.ref 989)),
 gE "forms_of" (.stat (.ref 994)),
 gE "gather" (.stat (.ref 1329)),
 gE "gathered" (.stat (.ref 1473)),
 gE "group_ends" (.stat (.ref 111)),
 gE "hang" (.stat (.ref 135)),
 gE "has_feature" (.stat (.ref 1466)),
 gE "hidden_spans" (.stat (.ref 856)),
 gE "hide" (.stat (.ref 919)),
 gE "in_ranges" (.stat (.ref 928)),
 gE "int" (.stat (.type "int")),
 gE "is_backward_script" (.stat (.ref 1110)),
 gE "is_hidden_code" (.stat (.ref 863)),
 gE "is_ignored" (.stat (.ref 228)),
 gE "is_joined_script" (.stat (.ref 1006)),
 gE "is_selector" (.stat (.ref 870)),
 gE "is_to_hide" (.stat (.ref 905)),
 gE "join_joining" (.stat (.ref 999)),
 gE "joined_pairs" (.stat (.ref 982)),
 gE "joining_type" (.stat (.ref 956)),
 gE "joins_back" (.stat (.ref 975)),
 gE "joins_on" (.stat (.ref 968)),
 gE "kind_of_code" (.stat (.ref 877)),
 gE "language_of" (.stat (.ref 1459)),
 gE "len" (.stat (.builtin "len")),
 gE "list" (.stat (.type "list")),
 gE "lone_pairs" (.stat (.ref 1084)),
 gE "made_blank" (.stat (.ref 912)),
 gE "make_plan" (.stat (.ref 1488)),
 gE "map_glyphs" (.stat (.ref 1642)),
 gE "mark_kinds" (.stat (.ref 884)),
 gE "mask_at" (.stat (.ref 1452)),
 gE "max" (.stat (.builtin "max")),
 gE "merge" (.stat (.ref 130)),
 gE "min" (.stat (.builtin "min")),
 gE "mirror_pairs" (.stat (.ref 1096)),
 gE "mirror_row" (.stat (.ref 1118)),
 gE "mirror_table" (.stat (.ref 1103)),
 gE "no_gdef" (.stat (.ref 1873)),
 gE "normalise" (.stat (.ref 1224)),
 gE "passed_ranges" (.stat (.ref 949)),
 gE "passes" (.stat (.ref 235)),
 gE "place_glyphs" (.stat (.ref 1663)),
 gE "put" (.stat (.ref 147)),
 gE "range" (.stat (.type "range")),
 gE "read_letters" (.stat (.ref 1630)),
 gE "reorder" (.stat (.ref 1587)),
 gE "required_feature" (.stat (.ref 1309)),
 gE "required_stage" (.stat (.ref 1483)),
 gE "reversed" (.stat (.type "reversed")),
 gE "right_ranges" (.stat (.ref 935)),
 gE "run_backward" (.stat (.ref 842)),
 gE "run_forward" (.stat (.ref 835)),
 gE "run_position" (.stat (.ref 708)),
 gE "run_substitution" (.stat (.ref 849)),
 gE "script_tags" (.stat (.ref 1281)),
 gE "second_tags" (.stat (.ref 1274)),
 gE "selected" (.stat (.ref 891)),
 gE "set_advances" (.stat (.ref 1656)),
 gE "set_masks" (.stat (.ref 1495)),
 gE "settle" (.stat (.ref 506)),
 gE "shape_by" (.stat (.ref 1675)),
 gE "shape_codes" (.stat (.ref 1684)),
 gE "shape_letters" (.stat (.ref 1635)),
 gE "shaped_rows" (.stat (.ref 1668)),
 gE "shared_out" (.stat (.ref 1445)),
 gE "side_rows" (.stat (.ref 1091)),
 gE "sorted" (.stat (.builtin "sorted")),
 gE "spread_unsafe" (.stat (.ref 159)),
 gE "stage_tags" (.stat (.ref 1478)),
 gE "substitute" (.stat (.ref 1649)),
 gE "substitute_at" (.stat (.ref 828)),
 gE "take_selectors" (.stat (.ref 898)),
 gE "takes" (.stat (.ref 242)),
 gE "tuple" (.stat (.type "tuple")),
 gE "turn_row" (.stat (.ref 154)),
 gE "types_of" (.stat (.ref 961))]
noncomputable def FW:List (Nat×Fn):=[
 (35,bV 2 (some 0) []),
 (49,bV 2 (some 2) []),
 (71,bV 3 (some 0) [(.bool false)]),
 (106,bV 4 none [(.bool false)]),
 (111,bV 5 none []),
 (135,bV 9 none []),
 (154,bV 12 none []),
 (159,bV 13 none []),
 (173,bV 20 (some 0) []),
 (200,bV 21 (some 0) [(.int 0)]),
 (221,bV 23 none []),
 (228,bV 24 none []),
 (235,bV 25 none []),
 (242,bV 26 none []),
 (478,bV 69 none []),
 (506,bV 73 none []),
 (774,bV 123 (some 0) []),
 (793,bV 124 none []),
 (821,bV 129 none []),
 (828,bV 130 none []),
 (835,bV 131 none []),
 (849,bV 133 none []),
 (856,bV 137 none []),
 (863,bV 138 none []),
 (870,bV 139 none []),
 (877,bV 140 none []),
 (884,bV 141 none []),
 (898,bV 143 none []),
 (905,bV 144 none []),
 (919,bV 146 none []),
 (928,bV 152 none []),
 (935,bV 153 none []),
 (942,bV 154 none []),
 (949,bV 155 none []),
 (956,bV 156 none []),
 (961,bV 157 none []),
 (968,bV 158 none []),
 (975,bV 159 none []),
 (982,bV 160 none []),
 (989,bV 161 none []),
 (994,bV 162 none []),
 (999,bV 163 none []),
 (1006,bV 165 none []),
 (1048,bV 173 (some 0) []),
 (1076,bV 174 none []),
 (1084,bV 177 none []),
 (1091,bV 178 none []),
 (1096,bV 179 none []),
 (1103,bV 180 none []),
 (1110,bV 181 none []),
 (1118,bV 182 none [(.int 0)]),
 (1274,bV 214 none []),
 (1281,bV 215 none []),
 (1288,bV 216 none []),
 (1295,bV 217 none []),
 (1302,bV 218 none []),
 (1309,bV 219 none []),
 (1316,bV 220 none []),
 (1323,bV 221 none []),
 (1329,bV 222 none [(.bool true)]),
 (1354,bV 230 (some 0) [(.int 1),(.int 0),(.int (-1))]),
 (1361,bV 230 (some 1) []),
 (1383,bV 231 (some 0) [(.int 1)]),
 (1402,bV 232 none []),
 (1417,bV 233 (some 0) [(.bool false)]),
 (1431,bV 234 none []),
 (1438,bV 235 none []),
 (1445,bV 236 none []),
 (1452,bV 237 none []),
 (1459,bV 238 none []),
 (1466,bV 239 none []),
 (1473,bV 240 none []),
 (1478,bV 241 none []),
 (1483,bV 242 none []),
 (1488,bV 243 none []),
 (1495,bV 244 none []),
 (1602,bV 272 (some 0) []),
 (1623,bV 273 none []),
 (1630,bV 274 none []),
 (1635,bV 275 none []),
 (1642,bV 276 none []),
 (1649,bV 277 none []),
 (1656,bV 278 none []),
 (1663,bV 279 none []),
 (1668,bV 280 none []),
 (1675,bV 281 none []),
 (1684,bV 282 none [(.str "DFLT"),(.str "dflt"),(.tup []),.none,.none]),
 (1704,bV 286 (some 0) [.none]),
 (1711,bV 286 (some 1) []),
 (1744,bV 288 (some 0) []),
 (1785,bV 291 (some 0) []),
 (1792,bV 291 (some 1) []),
 (1833,bV 296 (some 0) [.none,.none]),
 (1840,bV 296 (some 1) []),
 (1873,bV 297 none []),
 (1887,bV 299 (some 0) []),
 (1915,bV 300 (some 0) []),
 (1941,bV 301 (some 0) []),
 (1969,bV 302 (some 0) []),
 (1997,bV 306 none []),
 (2002,bV 307 none []),
 (2009,bV 308 none []),
 (2014,bV 309 none []),
 (2021,bV 310 none []),
 (2028,bV 311 none []),
 (2033,bV 312 none [])]
noncomputable def sZ{α:Type}(n:Nat):List (Nat×α)→Option α
 |[]=>none
 |(m,v)::r=>if n=m then some v else sZ n r
noncomputable def Bn:List (Nat×Nat):=[(52,35),(96,71),(181,173),(203,200),(782,774),(1065,1048),(1364,1354),(1391,1383),(1420,1417),(1612,1602),(1726,1704),(1760,1744),(1814,1785),(1862,1833),(1897,1887),(1923,1915),(1951,1941),(1977,1969)]
noncomputable def Fm:List (Nat×List (Str×Nat)):=[(52,[("told",49)]),(1364,[("is_whole",1361)]),(1726,[("glyph",1711)]),(1814,[("class_of",1792)]),(1862,[("glyph_class",1840)])]
noncomputable def KC:List (Nat×List Str):=[
 (52,["bond","lig_count","lig_id","lig_part","x_offset","y_advance","y_offset","kind","x_advance","is_unsafe","cluster","parent","code","mask","glyph"]),
 (96,["last_lig","is_backward","row"]),
 (181,["mark_set","flag","tables","kind"]),
 (203,["depth","lookups","gdef","mask","lookup","buffer"]),
 (782,["mapping"]),
 (1065,["ascent","bearings","descent","units","advances"]),
 (1364,["end","begin","value","tag"]),
 (1391,["language","has_kern","positions","stages","script","masks","defaults","is_backward"]),
 (1420,["is_set","most","value","has_own"]),
 (1612,["is_backward","rows"]),
 (1726,["variations","codes"]),
 (1760,["kern","metrics","charmap","gdef","gpos","gsub"]),
 (1814,["classes"]),
 (1862,["attach","carets","points","sets","classes"]),
 (1897,["required","features"]),
 (1923,["tag","default","languages"]),
 (1951,["lookups","tag"]),
 (1977,["scripts","lookups","features"])]
noncomputable def Bk:List Nat:=[35,49,71,106,111,135,154,159,173,200,221,228,235,242,478,506,774,793,821,828,835,849,856,863,870,877,884,898,905,919,928,935,942,949,956,961,968,975,982,989,994,999,1006,1048,1076,1084,1091,1096,1103,1110,1118,1274,1281,1288,1295,1302,1309,1316,1323,1329,1354,1361,1383,1402,1417,1431,1438,1445,1452,1459,1466,1473,1478,1483,1488,1495,1602,1623,1630,1635,1642,1649,1656,1663,1668,1675,1684,1704,1711,1744,1785,1792,1833,1840,1873,1887,1915,1941,1969,1997,2002,2009,2014,2021,2028,2033]
noncomputable def dz:Tb where
 gl x:=gv x Qh
 isFn a:=Bk.any (· ==a)
 init C:=sZ C Bn
 meth C n:=(sZ C Fm).bind (gv n)
 fld C a:=match sZ C KC with
  |some l=>l.any (· ==a)
  |none=>false
noncomputable def Kz(a:Addr):Option Fn:=sZ a FW
noncomputable def NU:Obj:=⟨.none,none,.plain,#[]⟩
noncomputable def go(G:Heap)(a:Addr):Obj:=(G.get? a).getD NU
noncomputable def PI:List Addr:=Bn.map (·.1)
noncomputable def vw:List Addr:=(aE 15)++(PI++(PI.map (· - 1)++Bk))
noncomputable def KX(G:Heap):Frag:=vw.map fun a=>(a,go G a)
noncomputable def pJ{α:Type}(o:Option α)(f:α→Bool):Bool:=match o with
 |some x=>f x
 |none=>false
theorem ue{α:Type}{o:Option α}{f:α→Bool}{C:Prop}(h:pJ o f=true)(k:∀x,o=some x→f x=true→C):C:=by
 cases o with
 |none=>exact Bool.noConfusion h
 |some x=>exact k x rfl h
theorem ir{a b:Bool}{C:Prop}(h:(a&&b)=true)(k:a=true→b=true→C):C:=k (d8.mp h).1 (d8.mp h).2
theorem wX{α:Type}[BEq α][LawfulBEq α]{a b:α}(h:(a==b)=true):a=b:=eq_of_beq h
theorem zW{as:List Addr}{f:Addr→Obj}{a:Addr}{o:Obj}(h:(as.map fun a=>(a,f a)).lookup a=some o):a∈as∧o=f a:=by
 induction as with
 |nil=>exact bD h
 |cons b r ih=>
  rw[bj,bv]at h
  cases e:(a==b)with
  |true=>
   rw[e]at h
   have e:=wX e
   exact⟨e▸pQ,(ab h).symm.trans (congrArg f e.symm)⟩
  |false=>
   rw[e]at h
   exact⟨br _ (ih h).1,(ih h).2⟩
theorem pt{α:Type}{n:Nat}{v:α}{l:List (Nat×α)}(h:sZ n l=some v):(n,v)∈l:=by
 induction l with
 |nil=>exact bD h
 |cons a r ih=>
  have h:(if n=a.1 then some a.2 else sZ n r)=some v:=h
  by_cases e:n=a.1
  ·rw[if_pos e]at h;exact aF.mpr (.inl (BN e (ab h).symm))
  ·rw[if_neg e]at h;exact br _ (ih h)
theorem yr{α:Type}{x:Str}{v:α}{l:List (Str×α)}(h:Mine.gv x l=some v):(x,v)∈l:=by
 induction l with
 |nil=>exact bD h
 |cons a r ih=>
  have h:(if a.1=x then some a.2 else Mine.gv x r)=some v:=h
  by_cases e:a.1=x
  ·rw[if_pos e]at h;exact aF.mpr (.inl (BN e.symm (ab h).symm))
  ·rw[if_neg e]at h;exact br _ (ih h)
noncomputable def GQ{α β:Type}(f:α→β→Bool):List α→List β→Bool
 |[],[]=>true
 |a::r,b::s=>f a b&&GQ f r s
 |_,_=>false
noncomputable def w6:Value→Value
 | .int i _=>.int i 0
 | .str s _=>.str s 0
 |v=>v
noncomputable def xF:Value→Option Addr
 | .ref a=>some a
 |_=>none
noncomputable def Lv:Data→Option (Array Value)
 | .seq xs _=>some xs
 |_=>none
noncomputable def yH:Data→Option (Array Value)
 | .fields xs=>some xs
 |_=>none
noncomputable def FQ:Data→Option FuncData
 | .func f=>some f
 |_=>none
noncomputable def PB:Data→Option (Array DictEntry)
 | .dict f _=>some f
 |_=>none
noncomputable def AG(o:Option Obj):Option (Array Value):=o.bind fun o=>if o.cls=.type "tuple" then Lv o.data else none
theorem BX{v:Value}{i:Int}(h:w6 v=.int i 0):∃t,v=.int i t:=by
 cases v with
 |int j t=>exact⟨t,congrArg (Value.int · t) (Value.int.inj h).1⟩
 |_=>exact Value.noConfusion h
theorem uo{v:Value}{i:Str}(h:w6 v=.str i 0):∃t,v=.str i t:=by
 cases v with
 |str j t=>exact⟨t,congrArg (Value.str · t) (Value.str.inj h).1⟩
 |_=>exact Value.noConfusion h
theorem sB{v:Value}{a:Addr}(h:xF v=some a):v=.ref a:=by
 cases v<;>first|exact bD h|exact congrArg He (ab h)
theorem Eu{d:Data}{xs:Array Value}(h:Lv d=some xs):∃n,d=.seq xs n:=by
 cases d<;>first|exact bD h|exact⟨_,congrArg (Data.seq · _) (ab h)⟩
theorem yG{d:Data}{xs:Array Value}(h:yH d=some xs):d=.fields xs:=by
 cases d<;>first|exact bD h|exact congrArg Data.fields (ab h)
theorem Di{d:Data}{xs:FuncData}(h:FQ d=some xs):d=.func xs:=by
 cases d<;>first|exact bD h|exact congrArg Data.func (ab h)
noncomputable def Ho(g:Addr→Option Obj):Nat→MV→Value→Bool
 |0,_,_=>false
 |n+1,m,v=>match m with
  | .none=>v==.none
  | .bool b=>v==.bool b
  | .int i=>w6 v==.int i 0
  | .str s=>w6 v==.str s 0
  | .tup ms=>pJ (xF v) fun a=>pJ (AG (g a)) fun xs=>GQ (Ho g n) ms xs.toList
  | .stat u=>v==u&&handedIn v
  |_=>false
noncomputable def Ob(G:Heap):Array DictEntry:=(PB (go G 3).data).getD #[]
noncomputable def FM(G:Heap)(p:Str×MV):Bool:=match nsFind (Ob G) p.1 with
 |some v=>Ho G.get? 5 p.2 v
 |none=>pJ (bootBuiltins p.1) fun v=>!(p.1==("__name__":Str))&&Ho G.get? 1 p.2 v
noncomputable def F7(G:Heap)(a:Addr):Option FuncData:=FQ (go G a).data
noncomputable def LN(o:Addr→Option Obj)(cd:Value)(q:Str):Bool:=pJ (xF cd) fun c=>pJ (o c) fun o=>pJ (yH o.data) fun vs=>pJ vs[1]? fun v=>w6 v==.str q 0
noncomputable def Rm:List Str→Bool
 |[]=>true
 |a::r=>!(r.contains a)&&Rm r
noncomputable def Sn(G:Heap)(ds:List MV)(v:Value):Bool:=if v=.none then ds.isEmpty else pJ (xF v) fun t=>pJ (AG (G.get? t)) fun xs=>GQ (Ho G.get? 4) ds xs.toList
noncomputable def LC:ScopeKind→Bool
 | .function=>true
 |_=>false
noncomputable def Pu(G:Heap)(f:Fn)(fd:FuncData):Bool:=!fd.scope.isCoroutine&&(!fd.scope.isGenerator&&(fd.params.posonlyargs.isEmpty&&(fd.params.kwonlyargs.isEmpty&&(fd.params.vararg.isNone&&(fd.params.kwarg.isNone&&(LN G.get? fd.code fd.qualname&&(fY fd.globals mainGlobals&&(fd.closure.isEmpty&&(fY fd.builtins builtinsNs&&(Sn G f.dflts fd.defaults&&
 (Rm f.params&&(decide (f.dflts.length≤f.params.length)&&(LC f.sc.kind&&((f.params.all fun x=>N0 (f.sc.names.lookup x))&&f.sc.names.all fun q=>q.2 != .free))))))))))))))
noncomputable def FX(G:Heap)(p:Addr×Fn):Bool:=(G.get? p.1).isSome&&pJ (F7 G p.1) (Pu G p.2)
theorem CV{l:List Str}(h:Rm l=true):l.Nodup:=by
 induction l with
 |nil=>exact dp
 |cons a r ih=>exact ir h fun h1 h2=>cL.mpr ⟨fun q=>Bool.noConfusion ((congrArg (!·) (cG.mpr q)).symm.trans h1),ih h2⟩
theorem Ki{o:Option NameKind}(h:N0 o=true):o=some .local∨o=some .cell:=by
 cases o with
 |none=>exact Bool.noConfusion h
 |some k=>cases k<;>first|exact .inl rfl|exact .inr rfl|exact Bool.noConfusion h
theorem Fx{o:ScopeKind}(h:LC o=true):o=.function:=by
 cases o<;>first|rfl|exact Bool.noConfusion h
theorem Bc{b:Bool}(h:(!b)=true):b=false:=by
 cases b<;>first|rfl|exact Bool.noConfusion h
section
variable{G B:Heap}(hB:∀b o,G.get? b=some o→B.get? b=some o)
include hB
theorem PW(hA:vw.all (fun a=>(G.get? a).isSome)=true):(KX G).In B:=fun a o e=>by
 refine d9 (zW e) fun h1 h2=>?_
 obtain⟨o',ho'⟩:=dk.mp (bd.mp hA a h1)
 exact hB a _ (ho'.trans (congrArg some (h2.trans (congrArg (Option.getD · NU) ho')).symm))
theorem LH{a:Addr}(h:(G.get? a).isSome=true):B.get? a=some (go G a):=by
 obtain⟨o,ho⟩:=dk.mp h
 exact hB a _ (ho.trans (congrArg some (congrArg (Option.getD · NU) ho).symm))
theorem D9{a:Addr}{xs:Array Value}(h:AG (G.get? a)=some xs):IsTup B a xs:=bT h fun o ho e=>by
 by_cases q:o.cls=.type "tuple"
 ·rw[if_pos q]at e;exact⟨o,hB _ _ ho,q,Eu e⟩
 ·rw[if_neg q]at e;exact bD e
omit hB in
theorem y3{Φ:bE}{n:Nat}(ih:∀m v,Ho G.get? n m v=true→VR B Φ B m v){ms:List MV}:∀{xs:List Value},GQ (Ho G.get? n) ms xs=true→dy B Φ B ms xs:=by
 induction ms with
 |nil=>intro xs h;cases xs with
  |nil=>exact .nil
  |cons=>exact Bool.noConfusion h
 |cons m r ih2=>intro xs h;cases xs with
  |nil=>exact Bool.noConfusion h
  |cons x s=>exact ir h fun h1 h2=>.cons (ih m x h1) (ih2 h2)
theorem zp(Φ:bE)(n:Nat):∀m v,Ho G.get? n m v=true→VR B Φ B m v:=by
 induction n with
 |zero=>exact fun z_ z_ h=>Bool.noConfusion h
 |succ n ih=>
  intro m v h
  cases m with
  |none=>exact d6 (C:=VR B Φ B .none) (wX (a:=v) h) .none
  |bool b=>exact d6 (C:=VR B Φ B (.bool b)) (wX (a:=v) h) (.bool b)
  |int i=>exact fH (BX (wX h)) fun t e=>d6 (C:=VR B Φ B (.int i)) e (.int i t)
  |str i=>exact fH (uo (wX h)) fun t e=>d6 (C:=VR B Φ B (.str i)) e (.str i t)
  |tup ms=>exact ue h fun a ea h=>ue h fun xs ex h=>d6 (C:=VR B Φ B (.tup ms)) (sB ea) (.tup (items:=xs.toList) (D9 hB ex) (y3 ih h))
  |stat u=>exact ir h fun h1 h2=>dE (C:=fun u=>VR B Φ B (.stat u) v) (wX (a:=v) h1) (.stat v h2)
  |_=>exact Bool.noConfusion h
theorem Oi{cd:Value}{q:Str}(h:LN G.get? cd q=true):B.CodeRec cd q:=ue h fun c ec h=>ue h fun o ho h=>ue h fun vs ev h=>ue h fun v e1 h=>fH (uo (wX h)) fun t e=>⟨c,o,vs,t,sB ec,hB _ _ ho,yG ev,e1.trans (congrArg some e)⟩
theorem PA{ds:List MV}{v:Value}(h:Sn G ds v=true){C:Prop}(k:∀dv,(∀P,dy B P B ds dv)→(v=.none∧dv=[])∨(∃t,v=.ref t∧IsTup B t dv.toArray)→C):C:=by
 have h:(if v=.none then ds.isEmpty else pJ (xF v) fun t=>pJ (AG (G.get? t)) fun xs=>GQ (Ho G.get? 4) ds xs.toList)=true:=h
 by_cases q:v=.none
 ·rw[if_pos q]at h
  exact k [] (fun P=>cZ.mp h▸.nil) (.inl ⟨q,rfl⟩)
 ·rw[if_neg q]at h
  exact ue h fun t et h=>ue h fun xs ex h=>k xs.toList (fun P=>y3 (zp hB P 4) h) (.inr ⟨t,sB et,D9 hB ex⟩)
theorem N6(hfun:FW.all (FX G)=true)(hfd:FW.map (fun p=>(F7 G p.1).map fun fd=>(fd.scope,fd.body,fd.params.args.map (·.arg)))=FW.map (fun p=>some (p.2.sc,.stmts p.2.body,p.2.params))):∀a f,Kz a=some f→G8 B a f:=by
 intro a f e
 have hm:(a,f)∈FW:=pt e
 have h2:(F7 G a).map (fun fd=>(fd.scope,fd.body,fd.params.args.map (·.arg)))=some (f.sc,.stmts f.body,f.params):=by
  obtain⟨i,hi⟩:=bW hm
  have:=congrArg (fun l=>l[i]?) hfd
  rw[aq,aq,hi]at this
  exact ab this
 refine ir (bd.mp hfun _ hm) fun c1 h=>ue h fun fd e1 h=>?_
 rw[e1]at h2
 have h2:=ab h2
 refine ir h fun c2 h=>ir h fun c3 h=>ir h fun c4 h=>ir h fun c5 h=>ir h fun c6 h=>ir h fun c7 h=>ir h fun c8 h=>ir h fun g1 h=>ir h fun g2 h=>ir h fun g3 h=>ir h fun c9 h=>ir h fun c10 h=>ir h fun c11 h=>ir h fun c12 h=>ir h fun c13 c14=>?_
 refine PA hB c9 fun dv d1 d2=>⟨⟨_,fd,dv,LH hB c1,Di e1,congrArg (·.1) h2,Bc c2,Bc c3,congrArg (·.2.1) h2,Oi hB c8,nJ g1,cZ.mp g2,nJ g3,cZ.mp c4,cZ.mp c5,kE.mp c6,kE.mp c7,congrArg (·.2.2) h2,d1,d2⟩,CV c10,of_decide_eq_true c11,Fx c12,fun x hx=>Ki (bd.mp c13 x hx),fun x q=>Bool.noConfusion (bd.mp c14 _ (fL q))⟩
noncomputable abbrev Gv(K:Frag):Bool:=Bk.all fun a=>keepIn K (.ref a)
noncomputable abbrev Gu(K:Frag):Bool:=Bn.all fun p=>makesIn K p.1&&(keepIn K (.ref p.1)&&((findIn K (.ref p.1) "__init__"==some (some (.ref p.2)))&&(typeIn K (.ref p.2)==some (.type "function"))))
noncomputable abbrev Gw(K:Frag):Bool:=KC.all fun p=>(findIn K (.ref p.1) "__getattribute__"==some (some (.builtin "object.__getattribute__")))&&(hasDictIn K p.1&&((findIn K (.ref p.1) "__setattr__"==some (some (.builtin "object.__setattr__")))&&(plainOver K p.1&&p.2.all fun a=>findIn K (.ref p.1) a==some none)))
noncomputable abbrev Gs(K:Frag):Bool:=Fm.all fun p=>(findIn K (.ref p.1) "__getattribute__"==some (some (.builtin "object.__getattribute__")))&&((findIn K (.ref p.1) "__getattr__"==some none)&&p.2.all fun q=>(findIn K (.ref p.1) q.1==some (some (.ref q.2)))&&((typeIn K (.ref q.2)==some (.type "function"))&&keepIn K (.ref q.2)))
theorem F8(hA:vw.all (fun a=>(G.get? a).isSome)=true){mg:Str→Option Value}(hg:B.Ns mainGlobals mg)(x:Str):nsFind (Ob G) x=mg x:=by
 obtain⟨o,es,ep,ho,hd,_,hn⟩:=hg
 have h3:B.get? 3=some (go G 3):=LH hB (bd.mp hA 3 (by decide))
 have:o=go G 3:=ab (ho.symm.trans h3)
 exact(congrArg (nsFind · x) (show Ob G=es from congrArg (fun d=>(PB d).getD #[]) (show(go G 3).data=.dict es ep from this▸hd))).trans (hn x)
theorem OK(hA:vw.all (fun a=>(G.get? a).isSome)=true)(hgl:Qh.all (FM G)=true)(hfn:Gv (KX G)=true)(hin:Gu (KX G)=true)(hfl:Gw (KX G)=true)(hme:Gs (KX G)=true)
 {mg mb:Str→Option Value}(hg:B.Ns mainGlobals mg) (hb:B.Ns builtinsNs mb) (hbi:∀x:Str,x≠"__name__"→mb x=bootBuiltins x) (hsys:∃o,B.get? sysModules=some o):B=Mine.B→qy Mine.B dz:=fun eB=>by
 subst eB
 have K:=PW hB hA
 refine⟨fun x mv e=>?_,fun C a e=>?_,fun a e=>⟨_,K,?_⟩,fun C i e=>?_,fun C n f e=>?_,hsys⟩
 ·have h1:(match nsFind (Ob G) x with
   |some v=>Ho G.get? 5 mv v
   |none=>pJ (bootBuiltins x) fun v=>!(x==("__name__":Str))&&Ho G.get? 1 mv v)=true:=bd.mp hgl _ (yr e)
  have hes:=F8 hB hA hg x
  have st:∀{a:Addr}{m:Str→Option Value}{s:Shared},Mine.B.Ns a m→Mine.B.StaysIn s.heap→s.heap.Ns a m:=fun hg st=>by
   obtain⟨o,es,ep,ho,hd⟩:=hg
   exact⟨o,es,ep,st _ _ ho,hd⟩
  cases hv:nsFind (Ob G) x with
  |some v=>
   rw[hv]at h1
   exact⟨v,fun Φ=>zp hB Φ 5 mv v h1,fun A env s Q g1 g2 S q=>loadGlobal_global (mg:=mg) (g1▸st hg S) (hes.symm.trans hv) q⟩
  |none=>
   rw[hv]at h1
   refine ue h1 fun v hv2 h1=>ir h1 fun h2 h1=>⟨v,fun Φ=>zp hB Φ 1 mv v h1,fun A env s Q g1 g2 S q=>?_⟩
   exact loadGlobal_builtin (mg:=mg) (mb:=mb) (g1▸st hg S) (hes.symm.trans hv) (g2▸st hb S) ((hbi x fun q=>Bool.noConfusion ((beq_iff_eq.mpr q).symm.trans (Bc h2))).trans hv2) q
 ·have e:(match sZ C KC with|some l=>l.any (· ==a)|none=>false)=true:=e
  cases hl:sZ C KC with
  |none=>rw[hl]at e;exact Bool.noConfusion e
  |some l=>
   rw[hl]at e
   obtain⟨b,hb1,hb2⟩:=dW.mp e
   exact ir (bd.mp hfl _ (pt hl)) fun a1 h=>ir h fun a2 h=>ir h fun a3 h=>ir h fun a4 a5=>⟨_,K,wX a1,wX hb2▸wX (bd.mp a5 b hb1),a2,wX a3,a4⟩
 ·obtain⟨b,hb1,hb2⟩:=dW.mp (show Bk.any (· ==a)=true from e)
  exact wX hb2▸bd.mp hfn b hb1
 ·exact ir (bd.mp hin _ (pt (show sZ C Bn=some i from e))) fun a1 h=>ir h fun a2 h=>ir h fun a3 a4=>⟨_,K,a1,a2,wX a3,wX a4⟩
 ·exact bT (show(sZ C Fm).bind (Mine.gv n)=some f from e) fun l hl e=>ir (bd.mp hme _ (pt hl)) fun a1 h=>ir h fun a2 a3=>ir (bd.mp a3 _ (yr e)) fun b1 h=>ir h fun b2 b3=>⟨_,K,wX a1,wX a2,wX b1,wX b2,b3⟩
end
set_option backward.match.sparseCases true
theorem GS(P:Params):vw.all (fun a=>((Mh.H1 P).get? a).isSome)=true:=by kernel_rfl
theorem N8(P:Params):Gv (KX (Mh.H1 P))=true:=by kernel_rfl
theorem FH(P:Params):Gu (KX (Mh.H1 P))=true:=by kernel_rfl
theorem KB(P:Params):Gw (KX (Mh.H1 P))=true:=by kernel_rfl
theorem Fl(P:Params):Gs (KX (Mh.H1 P))=true:=by kernel_rfl
theorem N5(P:Params):Qh.all (FM (Mh.H1 P))=true:=by kernel_rfl
theorem Pv(P:Params):FW.map (fun p=>(F7 (Mh.H1 P) p.1).map fun fd=>(fd.scope,fd.body,fd.params.args.map (·.arg)))=FW.map (fun p=>some (p.2.sc,.stmts p.2.body,p.2.params)):=by kernel_rfl
theorem Ku(P:Params):FW.all (FX (Mh.H1 P))=true:=by kernel_rfl
theorem NY(P:Params):nsFind (Ob (Mh.H1 P)) (ag "law")=some (.ref 2033):=by kernel_rfl
theorem Mg(P:Params):((Mh.H1 P).get? sysModules).isSome=true:=by kernel_rfl
set_option backward.match.sparseCases false
theorem nb{x y:Nat}(h:x≠y):fY x y=false:=lh.mpr fun e=>h (nJ e)
noncomputable def qK:List Str:=([".0","Feature","Info","Lookup","Single","_law_codes","_law_draw","advances","ascent","at","attach","bearings","begin","bits","buffer","carets","cell","cells","charmap","classes","cluster","code","codes","count","default","defaults","depth","descent","digit","due","early","end","feature","feature_mask","features","few","first","flag","font","form","form_of","forms","found","gathered","gdef","glyph","gpos","great","gsub","has_before","has_behind","has_kern","here","info","infos","int","is_asked","is_backward","is_kern","is_required","is_run","is_set","joins_back","k","kern","kind","known","langsys","language","languages","last","layout","least_cluster","len","letters","line","lookup","lookups","mapping","maps","mark_set","mask","masks","metrics","most","newer","normal","number","one","other","parts","place","plan","points","pool","positions","ranges","required","rest","row","rows","scene","script","scripts","second","seen","self","sets","shaped","shelf","shift","sort","space","stage","stages","state","step","stretch","table","tables","tag","tags","turn","types","units","value","variations","want","wanted","wants","wish","wishes"]:List String).map ag
noncomputable def nm(n:Nat):Str:=match qK[n]? with
 |some s=>s
 |none=>⟨#[n+3000000]⟩
noncomputable def LM(s:Str):Nat:=s.cps.toList.foldl (fun a c=>a*4194304+c+1) 0
noncomputable def Bt:List Nat→Bool
 |[]=>true
 |a::r=>r.all (fun b=>!fY a b)&&Bt r
theorem NS:(Bt (qK.map LM)&&qK.all fun s=>s.cps.size != 0&&s.cps.toList.all fun c=>Hv c 3000000)=true:=by kernel_rfl
theorem yJ:∀{l:List Nat}{i j:Nat}{a:Nat},Bt l=true→l[i]?=some a→l[j]?=some a→i=j
 |[],_,_,_,_,h,_=>by simp at h
 |b::r,i,j,a,hd,h1,h2=>by
  unfold Bt at hd
  rw[bf,bd]at hd
  cases i with
  |zero=>
   cases j with
   |zero=>rfl
   |succ j=>
    simp only[l4,gV]at h1
    subst h1
    have:=hd.1 _ (ak (by simpa using h2))
    simp at this
  |succ i=>
   cases j with
   |zero=>
    simp only[l4,gV]at h2
    subst h2
    have:=hd.1 _ (ak (by simpa using h1))
    simp at this
   |succ j=>exact congrArg (· +1) (yJ (a:=a) hd.2 (by simpa using h1) (by simpa using h2))
theorem sG{a b:Nat}(h:nm a=nm b):a=b:=by
 have hc:=NS
 rw[bf,bd]at hc
 (refine d9 hc fun h1 h2=>?_;clear hc)
 have key:∀{a b:Nat}{s:Str},qK[a]?=some s→qK[b]?=none→nm a=nm b→False:=fun{a b s} ha hb h=>by
  have e1:nm a=s:=by unfold nm;(erw[ha];with_reducible rfl)
  have e2:nm b=⟨#[b+3000000]⟩:=by unfold nm;(erw[hb];with_reducible rfl)
  have hs:s=⟨#[b+3000000]⟩:=by(erw[←e1,h,e2];with_reducible rfl)
  have:=h2 s (ak ha)
  rw[hs]at this
  simp[Hv]at this
  try omega
 cases ha:qK[a]? with
 |some s=>
  cases hb:qK[b]? with
  |some t=>
   have e1:nm a=s:=by unfold nm;(erw[ha];with_reducible rfl)
   have e2:nm b=t:=by unfold nm;(erw[hb];with_reducible rfl)
   have hst:s=t:=by(erw[←e1,h,e2];with_reducible rfl)
   subst hst
   exact yJ (a:=LM s) h1 (by(erw[aq,ha]);rfl) (by(erw[aq,hb]);rfl)
  |none=>exact(key ha hb h).elim
 |none=>
  cases hb:qK[b]? with
  |some t=>exact(key hb ha h.symm).elim
  |none=>
   have e1:nm a=⟨#[a+3000000]⟩:=by unfold nm;(erw[ha];with_reducible rfl)
   have e2:nm b=⟨#[b+3000000]⟩:=by unfold nm;(erw[hb];with_reducible rfl)
   rw[e1,e2]at h
   simp at h
   exact h
noncomputable def BI(l:List (Str×MV))(L:Nat→Option MV):Prop:=∀x,Mine.gv (nm x) l=L x
noncomputable def sN(x:Nat)(v:MV)(L:Nat→Option MV):Nat→Option MV:=fun y=>bif fY x y then some v else L y
noncomputable def qg(y:Nat):List (Nat×NameKind)→Bool
 |[]=>false
 |(n,k)::r=>bif fY n y then(match k with| .free=>true|_=>false)else qg y r
noncomputable def Oj(cs:List (Nat×NameKind))(L:Nat→Option MV):Nat→Option MV:=fun y=>bif qg y cs then L y else none
noncomputable def Bg(cs:List (Nat×NameKind)):Scope:=⟨.function,cs.map fun p=>(nm p.1,p.2),false,false,[]⟩
noncomputable def zX:List (Nat×MV)→Nat→Option MV
 |[],_=>none
 |(x,v)::r,y=>bif fY x y then some v else zX r y
theorem Bp{x:Nat}{v:MV}{y:Nat}:∀{l:List (Str×MV)},Mine.gv (nm y) (Mine.jf (nm x) v l)=bif fY x y then some v else Mine.gv (nm y) l
 |[]=>by
  show(if nm x=nm y then some v else none)=_
  by_cases h:x=y
  ·apply dE h;(erw[if_pos rfl];rw[kg]);rfl
  ·(erw[if_neg fun q=>h (sG q),(show fY x y=false from nb h)]);rfl
 |(z,u)::r=>by
  show Mine.gv (nm y) (if z=nm x then(z,v)::r else(z,u)::Mine.jf (nm x) v r)=bif fY x y then some v else if z=nm y then some u else Mine.gv (nm y) r
  have ih:=Bp (x:=x) (v:=v) (y:=y) (l:=r)
  by_cases hz:z=nm x
  ·apply d6 hz
   (erw[if_pos rfl])
   show(if nm x=nm y then some v else Mine.gv (nm y) r)=_
   by_cases h:x=y
   ·apply dE h;(erw[if_pos rfl];rw[kg]);rfl
   ·(erw[if_neg fun q=>h (sG q),(show fY x y=false from nb h),if_neg fun q=>h (sG q)]);rfl
  ·(erw[if_neg hz])
   show(if z=nm y then some u else Mine.gv (nm y) (Mine.jf (nm x) v r))=_
   (erw[ih])
   by_cases h:x=y
   ·apply dE h;(rw[kg];erw[if_neg hz]);rfl
   ·(erw[(show fY x y=false from nb h)]);rfl
theorem BI.set{l:List (Str×MV)}{L:Nat→Option MV}(r:BI l L)(x:Nat)(v:MV):BI (Mine.jf (nm x) v l) (sN x v L):=fun y=>by
 (erw[Bp];rw[r]);rfl
theorem xN(x:Nat):∀cs:List (Nat×NameKind),((cs.map fun p=>(nm p.1,p.2)).lookup (nm x)==some .free)=qg x cs
 |[]=>rfl
 |(n,k)::r=>by
  (erw[bj];rw[bv])
  show _=bif fY n x then(match k with| .free=>true|_=>false)else qg x r
  by_cases h:x=n
  ·apply dE h;rw[beq_self_eq_true,kg];cases k<;>rfl
  ·have h1:(nm x==nm n)=false:=by(refine(beq_eq_false_iff_ne).mpr ?_);exact fun q=>h (sG q)
   (erw[h1,(show fY n x=false from nb (bS h))]);exact xN x r
theorem Bw{own:Scope}{y:Str}:∀{l:List (Str×MV)},Mine.gv y (tt own l)=bif own.names.lookup y==some .free then Mine.gv y l else none
 |[]=>by cases own.names.lookup y==some .free<;>rfl
 |(z,u)::r=>by
  have ih:=Bw (own:=own) (y:=y) (l:=r)
  show Mine.gv y (BS _ ((z,u)::r))=bif own.names.lookup y==some .free then(if z=y then some u else Mine.gv y r)else none
  (erw[List.filter_cons])
  have ih':Mine.gv y (BS (fun x=>own.names.lookup x.1==some NameKind.free) r)=bif own.names.lookup y==some .free then Mine.gv y r else none:=ih
  by_cases hz:z=y
  ·subst hz
   (erw[if_pos rfl])
   set_option tactic.hygienic true in split
   ·next h=>(erw[h]);show(if z=z then some u else _)=_;(erw[if_pos rfl]);rfl
   ·next h=>(erw[ih',ca _ |>.mp h]);rfl
  ·(erw[if_neg hz])
   set_option tactic.hygienic true in split
   ·show(if z=y then some u else Mine.gv y _)=_;(erw[if_neg hz]);exact ih'
   ·exact ih'
theorem BI.cap{l:List (Str×MV)}{L:Nat→Option MV}(r:BI l L)(cs:List (Nat×NameKind)):BI (tt (Bg cs) l) (Oj cs L):=fun y=>by
 show _=bif qg y cs then L y else none
 (erw[Bw];rw[r];erw[show((Bg cs).names.lookup (nm y)==some .free)=qg y cs from xN y cs];with_reducible rfl)
structure mo{α:Type}(o:Option α)(P:α→Prop):Prop where
 ex:∃a,o=some a∧P a
theorem Fk{α:Type}{o:Option α}{P:α→Prop}(h:mo o P):∃a,o=some a∧P a:=h.1
theorem au{α:Type}{o:Option α}{a:α}{P:α→Prop}(h:o=some a)(k:P a):mo o P:=⟨a,h,k⟩
noncomputable def mr{α:Type}(o:Option α)(P:α→Prop):Prop:=match o with
 |some a=>P a
 |none=>False
theorem Lz{α:Type}{o:Option α}{P:α→Prop}(h:mr o P):∃a,o=some a∧P a:=by
 cases o with
 |none=>exact h.elim
 |some a=>exact⟨a,rfl,h⟩
theorem ay{α:Type}{o:Option α}{a:α}{P:α→Prop}(h:o=some a)(k:P a):mr o P:=by apply d6 h;exact k
noncomputable abbrev dn:=Nat→Option MV
noncomputable abbrev aT(α:Type):=α→dn→MH→Prop
noncomputable def Ar{α:Type}(Q:aT α)(L:dn)(H:MH):α→Prop:=fun a=>Q a L H
noncomputable def zc{α:Type}(Q:aT α)(L:dn):α→MH→Prop:=fun a H=>Q a L H
noncomputable def Rk(Q:aT MF)(L:dn):Unit→MH→Prop:=fun z_ H=>Q .next L H
noncomputable def Gd{α:Type}(m:MM α)(st:MS)(Q:aT α):Prop:=∃a l' L H',m st=some (a,⟨l',H'⟩)∧BI l' L∧Q a L H'
structure PM(α:Type) where
 run:MM α
 wp:dn→MH→aT α→Prop
 ok:∀{l L H Q},BI l L→wp L H Q→Gd run ⟨l,H⟩ Q
noncomputable def eN{α:Type}(a:α):PM α:=⟨bO a,fun L H Q=>Q a L H,fun r h=>⟨a,_,_,_,rfl,r,h⟩⟩
noncomputable def E6{α:Type}:PM α:=⟨bP,fun z_ z_ z_=>False,fun z_ h=>h.elim⟩
theorem Gd.bind{α β:Type}{m:MM α}{f:α→MM β}{st:MS}{P:aT α}{Q:aT β}(h:Gd m st P)(k:∀a l L H,BI l L→P a L H→Gd (f a) ⟨l,H⟩ Q):Gd (aR m f) st Q:=by
 obtain⟨a,l,L,H,e,r,h⟩:=h
 obtain⟨b,l2,L2,H2,e2,r2,h2⟩:=k a l L H r h
 exact⟨b,l2,L2,H2,d6 (C:=fun z=>Option.bind z _=_) e e2,r2,h2⟩
theorem Gd.opt{α β:Type}{g:Option β}{x:β}{f:β→MM α}{st:MS}{Q:aT α}(e:g=some x)(h:Gd (f x) st Q):Gd (fun s=>g.bind fun x=>f x s) st Q:=by
 subst e;exact h
noncomputable def bF{α β:Type}(m:PM α)(k:α→PM β):PM β:=⟨aR m.run fun a=>(k a).run,fun L H Q=>m.wp L H fun a L H=>(k a).wp L H Q,fun r h=>(m.ok r h).bind fun a z_ z_ z_ r h=>(k a).ok r h⟩
noncomputable def E3{α:Type}(f:MH→Option α):PM α:=⟨iJ fun s=>f s.hp,fun L H Q=>mo (f H) (Ar Q L H),fun{l L H Q} r h=>by
 refine aM (Fk h) fun a e h=>?_
 exact⟨a,l,L,H,by show(f H).map _=_;(erw[e]);rfl,r,h⟩⟩
noncomputable def J2{α:Type}(c:Bool)(a b:PM α):PM α:=⟨if c then a.run else b.run,fun L H Q=>bif c then a.wp L H Q else b.wp L H Q,fun r h=>by
 cases c
 ·exact b.ok r h
 ·exact a.ok r h⟩
noncomputable def J3{α:Type}(op:BoolOp)(c:Bool)(stop go:PM α):PM α:=⟨match op,c with
 | .And,false=>stop.run
 | .Or,true=>stop.run
 |_,_=>go.run,fun L H Q=>match op with
 | .And=>bif c then go.wp L H Q else stop.wp L H Q
 | .Or=>bif c then stop.wp L H Q else go.wp L H Q,fun r h=>by
 cases op<;>cases c
 ·exact stop.ok r h
 ·exact go.ok r h
 ·exact go.ok r h
 ·exact stop.ok r h⟩
noncomputable def PM.as{α:Type}(m:PM α)(wp:dn→MH→aT α→Prop)(h:wp=m.wp):PM α:=⟨m.run,wp,fun r q=>m.ok r (h▸q)⟩
structure U{α:Type}(m:MM α)(H:MH)(P:α→MH→Prop):Prop where
 ex:∃a H',(∀l,m ⟨l,H⟩=some (a,⟨l,H'⟩))∧P a H'
theorem U.gd{α:Type}{m:MM α}{l:List (Str×MV)}{L:dn}{H:MH}{Q:aT α}(r:BI l L)(h:U m H fun a H'=>Q a L H'):Gd m ⟨l,H⟩ Q:=by
 obtain⟨⟨a,H',e,h⟩⟩:=h
 exact⟨a,l,L,H',e l,r,h⟩
noncomputable def sC{α:Type}(m:MM α):PM α:=⟨m,fun L H Q=>U m H (zc Q L),U.gd⟩
structure G6(H:MH)(o:MO)(P:MV→MH→Prop):Prop where
 h:P (.ref H.length) (H++[o])
noncomputable def o6(o:MO):PM MV:=⟨d0 o,fun L H Q=>G6 H o (zc Q L),fun r h=>⟨_,_,_,_,rfl,r,h.1⟩⟩
structure WC(cf:CF)(a:Addr)(args:List MV)(H:MH)(Q:MV→MH→Prop):Prop where
 ex:∃v H',cf a args H=some (v,H')∧Q v H'
theorem WC.of_eq{cf:CF}{a:Addr}{args:List MV}{H H':MH}{v:MV}{Q:MV→MH→Prop}(e:cf a args H=some (v,H'))(q:Q v H'):WC cf a args H Q:=⟨v,H',e,q⟩
noncomputable def Lx(cf:CF)(f:Addr)(vs:List MV):PM MV:=⟨tv cf f vs,fun L H Q=>WC cf f vs H (zc Q L),fun{l L H Q} r h=>by
 obtain⟨⟨v,H',e,h⟩⟩:=h
 exact⟨v,l,L,H',by show(cf f vs H).map _=_;(erw[e]);rfl,r,h⟩⟩
noncomputable def ae(x:Nat):PM MV:=⟨iJ fun s=>Mine.gv (nm x) s.loc,fun L H Q=>mr (L x) (Ar Q L H),fun{l L H Q} r h=>by
 refine aM (Lz h) fun a e h=>?_
 exact⟨a,l,L,H,by show(Mine.gv (nm x) l).map _=_;(rw[r];erw[e]);rfl,r,h⟩⟩
noncomputable def gu(x:Nat)(v:MV):PM Unit:=⟨fun s=>some ((),{s with loc:=Mine.jf (nm x) v s.loc}),fun L H Q=>Q () (sN x v L) H,fun{l L H Q} r h=>⟨(),_,_,_,rfl,r.set x v,h⟩⟩
noncomputable def ao(v:MV):PM MV:=eN v
noncomputable def nF(v:MV):PM MV:=⟨iJ fun z_=>some v,fun L H Q=>Q v L H,fun r h=>⟨v,_,_,_,rfl,r,h⟩⟩
noncomputable def Kj(v:MV)(F:Int→Prop)(E:MV→Prop):Prop:=match v with
 | .int a=>F a
 |v=>E v
noncomputable def i2(x y:MV)(F:Int→Int→Prop)(E:MV→MV→Prop):Prop:=Kj x (fun a=>Kj y (F a) (E (.int a))) fun x=>E x y
theorem FE{v:MV}{F:Int→Prop}{E C:MV→Prop}(h:Kj v F E)(k:∀a,F a→C (.int a))(e:∀v,E v→C v):C v:=by
 cases v with
 |int a=>exact k a h
 |_=>exact e _ h
theorem LF{x y:MV}{F:Int→Int→Prop}{E C:MV→MV→Prop}(h:i2 x y F E)(k:∀a b,F a b→C (.int a) (.int b))(e:∀x y,E x y→C x y):C x y:=
 FE (C:=fun x=>C x y) h (fun a h=>FE (C:=C (.int a)) h (k a) (e _)) fun x=>e x y
noncomputable def OC(x y:MV):Prop:=False
noncomputable def Ol(op:Operator)(x y:MV)(H:MH)(P:MV→MH→Prop):Prop:=match op with
 | .Add=>i2 x y (fun a b=>P (.int (a+b)) H) fun x y=>U (gT .Add x y) H P
 | .Sub=>i2 x y (fun a b=>P (.int (a - b)) H) OC
 | .BitOr=>i2 x y (fun a b=>P (.int (bg a b)) H) OC
 | .BitAnd=>i2 x y (fun a b=>P (.int (bZ a b)) H) OC
 | .Mod=>i2 x y (fun a b=>b≠0∧P (.int (a.fmod b)) H) OC
 | .Mult=>i2 x y (fun a b=>(big a=false∧big b=false)∧P (.int (a*b)) H) fun x y=>U (gT .Mult x y) H P
 | .FloorDiv=>i2 x y (fun a b=>(b≠0∧big b=false)∧P (.int (a.fdiv b)) H) OC
 |op=>U (gT op x y) H P
theorem KZ{op:Operator}{x y:MV}{H:MH}{P:MV→MH→Prop}(h:Ol op x y H P):U (gT op x y) H P:=by
 have no:∀(op:Operator) x y,OC x y→U (gT op x y) H P:=fun z_ z_ z_ h=>h.elim
 cases op with
 |Add=>exact LF (F:=fun a b=>P (.int (a+b)) H) (E:=fun x y=>U (gT .Add x y) H P) (C:=fun x y=>U (gT .Add x y) H P) h (fun z_ z_ h=>⟨_,_,fun z_=>rfl,h⟩) fun z_ z_ h=>h
 |Sub=>exact LF h (fun z_ z_ h=>⟨_,_,fun z_=>rfl,h⟩) (no _)
 |BitOr=>exact LF h (fun z_ z_ h=>⟨_,_,fun z_=>rfl,h⟩) (no _)
 |BitAnd=>exact LF h (fun z_ z_ h=>⟨_,_,fun z_=>rfl,h⟩) (no _)
 |Mod=>exact LF h (fun a b h=>⟨_,_,fun z_=>congrArg (dg _) (if_neg h.1),h.2⟩) (no _)
 |Mult=>exact LF (F:=fun a b=>(big a=false∧big b=false)∧P (.int (a*b)) H) (E:=fun x y=>U (gT .Mult x y) H P) (C:=fun x y=>U (gT .Mult x y) H P) h (fun a b h=>⟨_,_,fun z_=>congrArg (dg _) (if_neg (fun q=>Bool.noConfusion ((congr (congrArg _ h.1.1) h.1.2).symm.trans q))),h.2⟩) fun z_ z_ h=>h
 |FloorDiv=>exact LF h (fun a b h=>⟨_,_,fun z_=>congrArg (dg _) (if_neg (fun q=>Bool.noConfusion ((congr (congrArg _ (decide_eq_false h.1.1)) h.1.2).symm.trans q))),h.2⟩) (no _)
 |_=>exact h
noncomputable def Rh(op:Operator)(x y:MV):PM MV:=⟨gT op x y,fun L H Q=>Ol op x y H (zc Q L),fun r h=>(KZ h).gd r⟩
noncomputable def PN(op:Operator)(x:MV)(Q:aT MV):aT MV:=fun y L H=>Ol op x y H (zc Q L)
noncomputable def PO(op:Operator)(b:PM MV)(Q:aT MV):aT MV:=fun x L H=>b.wp L H (PN op x Q)
noncomputable def ch(op:Operator)(a b:PM MV):PM MV:=(bF a fun x=>bF b fun y=>Rh op x y).as (fun L H Q=>a.wp L H (PO op b Q)) rfl
noncomputable def Oz(v:MV)(H:MH)(P:Bool→Prop):Prop:=match v with
 | .bool b=>P b
 | .int i=>P (!decide (i=0))
 |v=>mo (iN H v) P
theorem Ea{v:MV}{H:MH}{P:Bool→Prop}(h:Oz v H P):∃c,iN H v=some c∧P c:=by
 cases v with
 |bool b=>exact⟨_,rfl,h⟩
 |int i=>exact⟨_,rfl,h⟩
 |_=>exact h.1
noncomputable def Rl(P:MV→MH→Prop)(H:MH):Bool→Prop:=fun b=>P (.bool (!b)) H
noncomputable def Qp(op:UnaryOp)(x:MV)(H:MH)(P:MV→MH→Prop):Prop:=match op with
 | .USub=>Kj x (fun a=>P (.int (-a)) H) fun z_=>False
 | .Not=>Oz x H (Rl P H)
 |op=>U (w7 op x) H P
theorem Md{op:UnaryOp}{x:MV}{H:MH}{P:MV→MH→Prop}(h:Qp op x H P):U (w7 op x) H P:=by
 cases op with
 |USub=>exact FE (C:=fun x=>U (w7 .USub x) H P) h (fun z_ h=>⟨_,_,fun z_=>rfl,h⟩) fun z_ h=>h.elim
 |Not=>
  obtain⟨b,e,h⟩:=Ea h
  exact⟨_,_,fun l=>congrArg (dg _) e,h⟩
 |_=>exact h
noncomputable def Sz(op:UnaryOp)(Q:aT MV):aT MV:=fun x L H=>Qp op x H (zc Q L)
noncomputable def SH(op:UnaryOp)(x:MV):PM MV:=⟨w7 op x,fun L H Q=>Qp op x H (zc Q L),fun r h=>(Md h).gd r⟩
noncomputable def zb(op:UnaryOp)(a:PM MV):PM MV:=(bF a fun x=>SH op x).as (fun L H Q=>a.wp L H (Sz op Q)) rfl
noncomputable def Sj{α:Type}(a b:PM α)(Q:aT α):aT Bool:=fun c L H=>bif c then a.wp L H Q else b.wp L H Q
noncomputable def pO(t:PM Bool)(a b:PM MV):PM MV:=(bF t fun c=>J2 c a b).as (fun L H Q=>t.wp L H (Sj a b Q)) rfl
noncomputable def Rb(v:MV):PM Bool:=⟨iJ fun s=>iN s.hp v,fun L H Q=>Oz v H (Ar Q L H),fun{l L H Q} r h=>by
 refine aM (Ea h) fun a e h=>?_
 exact⟨a,l,L,H,by show(iN H v).map _=_;(erw[e]);rfl,r,h⟩⟩
noncomputable def RT(r:PM MV)(v:MV)(Q:aT MV):aT Bool:=fun c L H=>bif c then r.wp L H Q else Q v L H
noncomputable def Ts(r:PM MV)(Q:aT MV):aT MV:=fun v L H=>Oz v H (Ar (RT r v Q) L H)
noncomputable def Rj(r:PM MV)(v:MV)(Q:aT MV):aT Bool:=fun c L H=>bif c then Q v L H else r.wp L H Q
noncomputable def SI(r:PM MV)(Q:aT MV):aT MV:=fun v L H=>Oz v H (Ar (Rj r v Q) L H)
noncomputable def nG:List (PM MV)→PM MV
 |[]=>E6
 |[e]=>e
 |e::x::r=>(bF e fun v=>bF (Rb v) fun c=>J3 .And c (eN v) (nG (x::r))).as (fun L H Q=>e.wp L H (Ts (nG (x::r)) Q)) rfl
noncomputable def Hm:List (PM MV)→PM MV
 |[]=>E6
 |[e]=>e
 |e::x::r=>(bF e fun v=>bF (Rb v) fun c=>J3 .Or c (eN v) (Hm (x::r))).as (fun L H Q=>e.wp L H (SI (Hm (x::r)) Q)) rfl
noncomputable def RO(op:CmpOp)(a b:Int)(H:MH)(P:Bool→Prop):Prop:=match op with
 | .Lt=>P (decide (a < b))
 | .LtE=>P (decide (a≤b))
 | .Gt=>P (decide (b < a))
 | .GtE=>P (decide (b≤a))
 | .Eq=>P (decide (a=b))
 | .NotEq=>P (!decide (a=b))
 |op=>mo (nB H op (.int a) (.int b)) P
noncomputable def KQ(op:CmpOp)(x y:MV)(H:MH)(P:Bool→Prop):Prop:=i2 x y (fun a b=>RO op a b H P) fun x y=>mo (nB H op x y) P
theorem KP{op:CmpOp}{x y:MV}{H:MH}{P:Bool→Prop}(h:KQ op x y H P):∃c,nB H op x y=some c∧P c:=
 LF (C:=fun x y=>∃c,nB H op x y=some c∧P c) h (fun a b h=>by
  cases op<;>first|exact⟨_,rfl,h⟩|exact h.1) fun z_ z_ h=>h.1
noncomputable def CO(op:CmpOp)(x y:MV):PM Bool:=⟨iJ fun s=>nB s.hp op x y,fun L H Q=>KQ op x y H (Ar Q L H),fun{l L H Q} r h=>by
 refine aM (KP h) fun a e h=>?_
 exact⟨a,l,L,H,by show(nB H op x y).map _=_;(erw[e]);rfl,r,h⟩⟩
noncomputable def LO(op:CmpOp)(x:MV)(Q:aT Bool):aT MV:=fun y L H=>KQ op x y H (Ar Q L H)
noncomputable def LP(op:CmpOp)(b:PM MV)(Q:aT Bool):aT MV:=fun x L H=>b.wp L H (LO op x Q)
noncomputable def LQ(Q:aT MV):aT Bool:=fun c L H=>Q (.bool c) L H
noncomputable def cp(a:PM MV)(op:CmpOp)(b:PM MV):PM Bool:=(bF a fun x=>bF b fun y=>CO op x y).as (fun L H Q=>a.wp L H (LP op b Q)) rfl
noncomputable def RQ(op':CmpOp)(y:MV)(c:PM MV)(Q:aT Bool):aT Bool:=fun r L H=>bif r then c.wp L H (LO op' y Q)else Q false L H
noncomputable def RR(op:CmpOp)(x:MV)(op':CmpOp)(c:PM MV)(Q:aT Bool):aT MV:=fun y L H=>KQ op x y H (Ar (RQ op' y c Q) L H)
noncomputable def PK(op:CmpOp)(b:PM MV)(op':CmpOp)(c:PM MV)(Q:aT Bool):aT MV:=fun x L H=>b.wp L H (RR op x op' c Q)
noncomputable def sf(a:PM MV)(op:CmpOp)(b:PM MV)(op':CmpOp)(c:PM MV):PM Bool:=(bF a fun x=>bF b fun y=>bF (CO op x y) fun r=>J2 r (bF c fun z=>CO op' y z) (eN false)).as (fun L H Q=>a.wp L H (PK op b op' c Q)) rfl
noncomputable def dR(a:PM MV)(op:CmpOp)(b:PM MV):PM MV:=(bF a fun x=>bF (bF b fun y=>CO op x y) fun r=>eN (.bool r)).as (fun L H Q=>a.wp L H (LP op b (LQ Q))) rfl
noncomputable def Lq(a:PM MV)(op:CmpOp)(b:PM MV)(op':CmpOp)(c:PM MV):PM MV:=(bF a fun x=>bF (bF b fun y=>bF (CO op x y) fun r=>J2 r (bF c fun z=>CO op' y z) (eN false)) fun r=>eN (.bool r)).as (fun L H Q=>a.wp L H (PK op b op' c (LQ Q))) rfl
noncomputable def SD(r:PM Bool)(Q:aT Bool):aT Bool:=fun c L H=>bif c then r.wp L H Q else Q false L H
noncomputable def SC(r:PM Bool)(Q:aT Bool):aT Bool:=fun c L H=>bif c then Q true L H else r.wp L H Q
noncomputable def eF:List (PM Bool)→PM Bool
 |[]=>eN true
 |e::r=>(bF e fun c=>J3 .And c (eN false) (eF r)).as (fun L H Q=>e.wp L H (SD (eF r) Q)) rfl
noncomputable def Hp:List (PM Bool)→PM Bool
 |[]=>eN false
 |e::r=>(bF e fun c=>J3 .Or c (eN true) (Hp r)).as (fun L H Q=>e.wp L H (SC (Hp r) Q)) rfl
noncomputable def OJ(Q:aT Bool):aT Bool:=fun b L H=>Q (!b) L H
noncomputable def B4(t:PM Bool):PM Bool:=(bF t fun b=>eN (!b)).as (fun L H Q=>t.wp L H (OJ Q)) rfl
noncomputable def SA(Q:aT Bool):aT MV:=fun v L H=>Oz v H (Ar Q L H)
noncomputable def ej(m:PM MV):PM Bool:=(bF m fun v=>Rb v).as (fun L H Q=>m.wp L H (SA Q)) rfl
noncomputable def PR(name:Str)(Q:aT MV):aT MV:=fun ov L H=>mo (aN dz H ov name) (Ar Q L H)
noncomputable def aD(o:PM MV)(name:Str):PM MV:=(bF o fun ov=>E3 fun H=>aN dz H ov name).as (fun L H Q=>o.wp L H (PR name Q)) rfl
noncomputable def Rt(a:MV)(Q:aT MV):aT MV:=fun k L H=>mo (bp H a k) (Ar Q L H)
noncomputable def Ru(i:PM MV)(Q:aT MV):aT MV:=fun a L H=>i.wp L H (Rt a Q)
noncomputable def bx(a i:PM MV):PM MV:=(bF a fun a=>bF i fun k=>E3 fun H=>bp H a k).as (fun L H Q=>a.wp L H (Ru i Q)) rfl
noncomputable def A5(e:PM MV):PM (Option MV):=bF e fun x=>eN (some x)
noncomputable def QH(a:MV)(Q:aT MV):aT MV:=fun h L H=>U (iQ a none (some h)) H (zc Q L)
noncomputable def QI(hi:PM MV)(Q:aT MV):aT MV:=fun a L H=>hi.wp L H (QH a Q)
noncomputable def DV(a hi:PM MV):PM MV:=(bF a fun a=>bF (eN none) fun l=>bF (A5 hi) fun h=>sC (iQ a l h)).as (fun L H Q=>a.wp L H (QI hi Q)) rfl
noncomputable def OF(a lo:PM MV):PM MV:=(bF a fun a=>bF (A5 lo) fun l=>bF (eN none) fun h=>sC (iQ a l h)).as (fun L H Q=>a.wp L H fun a L H=>lo.wp L H fun h L H=>U (iQ a (some h) none) H fun v H=>Q v L H) rfl
noncomputable def QR(a l:MV)(Q:aT MV):aT MV:=fun h L H=>U (iQ a (some l) (some h)) H (zc Q L)
noncomputable def QS(a:MV)(hi:PM MV)(Q:aT MV):aT MV:=fun l L H=>hi.wp L H (QR a l Q)
noncomputable def QT(lo hi:PM MV)(Q:aT MV):aT MV:=fun a L H=>lo.wp L H (QS a hi Q)
noncomputable def Lp(a lo hi:PM MV):PM MV:=(bF a fun a=>bF (A5 lo) fun l=>bF (A5 hi) fun h=>sC (iQ a l h)).as (fun L H Q=>a.wp L H (QT lo hi Q)) rfl
noncomputable def PG(v:MV)(Q:aT (List MV)):aT (List MV):=fun vs L H=>Q (v::vs) L H
noncomputable def RS(r:PM (List MV))(Q:aT (List MV)):aT MV:=fun v L H=>r.wp L H (PG v Q)
noncomputable def kj:List (PM MV)→PM (List MV)
 |[]=>eN []
 |e::r=>(bF e fun v=>bF (kj r) fun vs=>eN (v::vs)).as (fun L H Q=>e.wp L H (RS (kj r) Q)) rfl
noncomputable def Rd(a b:MV)(Q:aT (List (MV×MV))):aT (List (MV×MV)):=fun r L H=>Q ((a,b)::r) L H
noncomputable def Re(a:MV)(r:PM (List (MV×MV)))(Q:aT (List (MV×MV))):aT MV:=fun b L H=>r.wp L H (Rd a b Q)
noncomputable def Rf(v:PM MV)(r:PM (List (MV×MV)))(Q:aT (List (MV×MV))):aT MV:=fun a L H=>v.wp L H (Re a r Q)
noncomputable def vD:List (PM MV×PM MV)→PM (List (MV×MV))
 |[]=>eN []
 |(k,v)::r=>(bF k fun a=>bF v fun b=>bF (vD r) fun r=>eN ((a,b)::r)).as (fun L H Q=>k.wp L H (Rf v (vD r) Q)) rfl
noncomputable def Lw(cf:CF)(mf:Option Addr)(ov:MV)(name:Str)(vs:List MV):PM MV:=⟨match mf with
 |some f=>tv cf f (ov::vs)
 |none=>iX ov name vs,fun L H Q=>match mf with
 |some f=>WC cf f (ov::vs) H (zc Q L)
 |none=>U (iX ov name vs) H (zc Q L),fun r h=>by
 cases mf with
 |some f=>exact(Lx cf f (ov::vs)).ok r h
 |none=>exact U.gd r h⟩
noncomputable def Ro(cf:CF)(mf:Option Addr)(ov:MV)(name:Str)(Q:aT MV):aT (List MV):=fun vs L H=>(Lw cf mf ov name vs).wp L H Q
noncomputable def Rp(cf:CF)(ov:MV)(name:Str)(args:PM (List MV))(Q:aT MV):aT (Option Addr):=fun mf L H=>args.wp L H (Ro cf mf ov name Q)
noncomputable def Rq(cf:CF)(name:Str)(args:PM (List MV))(Q:aT MV):aT MV:=fun ov L H=>mo (iV dz H ov name) (Ar (Rp cf ov name args Q) L H)
noncomputable def dX(cf:CF)(o:PM MV)(name:Str)(args:List (PM MV)):PM MV:=(bF o fun ov=>bF (E3 fun H=>iV dz H ov name) fun mf=>bF (kj args) fun vs=>Lw cf mf ov name vs).as (fun L H Q=>o.wp L H (Rq cf name (kj args) Q)) rfl
noncomputable def Tp(cf:CF)(f:Addr)(Q:aT MV):aT (List MV):=fun vs L H=>WC cf f vs H (zc Q L)
noncomputable def aK(cf:CF)(f:Addr)(args:List (PM MV)):PM MV:=(bF (kj args) fun vs=>Lx cf f vs).as (fun L H Q=>(kj args).wp L H (Tp cf f Q)) rfl
noncomputable def Tr(f:Value)(Q:aT MV):aT (List MV):=fun vs L H=>U (iG f vs) H (zc Q L)
noncomputable def bl(f:Value)(args:List (PM MV)):PM MV:=(bF (kj args) fun vs=>sC (iG f vs)).as (fun L H Q=>(kj args).wp L H (Tr f Q)) rfl
noncomputable def Tq(cf:CF)(C:Addr)(Q:aT MV):aT (List MV):=fun vs L H=>U (e9 dz cf (.stat (.ref C)) vs) H (zc Q L)
noncomputable def cM(cf:CF)(C:Addr)(args:List (PM MV)):PM MV:=(bF (kj args) fun vs=>sC (e9 dz cf (.stat (.ref C)) vs)).as (fun L H Q=>(kj args).wp L H (Tq cf C Q)) rfl
noncomputable def Rr(Q:aT MV):aT (List MV):=fun vs L H=>G6 H (.list vs) (zc Q L)
noncomputable def fA(args:List (PM MV)):PM MV:=(bF (kj args) fun vs=>o6 (.list vs)).as (fun L H Q=>(kj args).wp L H (Rr Q)) rfl
noncomputable def SB(Q:aT MV):aT (List MV):=fun vs L H=>Q (.tup vs) L H
noncomputable def bJ(args:List (PM MV)):PM MV:=(bF (kj args) fun vs=>eN (.tup vs)).as (fun L H Q=>(kj args).wp L H (SB Q)) rfl
noncomputable def PC(Q:aT MV):aT (List (MV×MV)):=fun es L H=>G6 H (.dict es) (zc Q L)
noncomputable def To(Q:aT MV):aT (List (MV×MV)):=fun ps L H=>mo (iF ps []) (Ar (PC Q) L H)
noncomputable def jB(ps:List (PM MV×PM MV)):PM MV:=(bF (vD ps) fun ps=>bF (E3 fun z_=>iF ps []) fun es=>o6 (.dict es)).as (fun L H Q=>(vD ps).wp L H (To Q)) rfl
noncomputable def Sb:List Nat→List MV→MM Unit
 |[],[]=>bO ()
 |x::ts,v::vs=>aR (fun s=>some ((),{s with loc:=Mine.jf (nm x) v s.loc})) fun z_=>Sb ts vs
 |_,_=>bP
noncomputable def OH:MV→Option (MV×MV)
 | .tup [a,b]=>some (a,b)
 |_=>none
theorem HC{v:MV}{p:MV×MV}(h:OH v=some p):v=.tup [p.1,p.2]:=by
 cases v with
 |tup l=>cases l with
  |nil=>exact bD h
  |cons a l=>cases l with
   |nil=>exact bD h
   |cons b l=>cases l with
    |nil=>exact AO (C:=fun a b=>MV.tup [_,_]=.tup [a,b]) h rfl
    |cons=>exact bD h
 |_=>exact bD h
noncomputable def nZ(x y:Nat)(v:MV):PM Unit:=⟨match v with
 | .tup vs=>Sb [x,y] vs
 |_=>bP,fun L H Q=>mr (OH v) fun p=>Q () (sN y p.2 (sN x p.1 L)) H,fun{l L H Q} r h=>by
 refine aM (Lz h) fun p e h=>?_
 (erw[HC e])
 exact⟨(),_,_,_,rfl,(r.set x p.1).set y p.2,h⟩⟩
noncomputable def NO{α:Type}(cs:List (Nat×NameKind))(m:PM α):PM α:=⟨rz (Bg cs) m.run,fun L H Q=>m.wp (Oj cs L) H fun a z_ H'=>Q a L H',fun{l L H Q} r h=>by
 obtain⟨a,l',L',H',e,r',h⟩:=m.ok (r.cap cs) h
 exact⟨a,l,L,H',by show(m.run ⟨tt (Bg cs) l,H⟩).map _=_;(erw[e]);rfl,r,h⟩⟩
noncomputable def vd(v:MV)(asg:MV→PM Unit)(ok:PM Bool)(em:PM (List MV)):Nat→Nat→dn→MH→aT (List MV)→Prop
 |0,_,_,_,_=>False
 |k+1,i,L,H,Q=>mo (cW H v i) fun x=>match x with
  |none=>Q [] L H
  |some x=>(asg x).wp L H fun z_ L H=>ok.wp L H fun c L H=>bif c then em.wp L H fun l L H=>vd v asg ok em k (i+1) L H fun r L H=>Q (l++r) L H else vd v asg ok em k (i+1) L H Q
theorem Gl{v:MV}{asg:MV→PM Unit}{ok:PM Bool}{em:PM (List MV)}(k:Nat):∀(i:Nat) {l:List (Str×MV)}{L:dn}{H:MH}{Q:aT (List MV)},BI l L→vd v asg ok em k i L H Q→Gd (eZ v (fun x=>(asg x).run) ok.run em.run k i) ⟨l,H⟩ Q:=by
 induction k with
 |zero=>intro i l L H Q r h;exact h.elim
 |succ k ih=>
  intro i l L H Q r h
  refine aM (Fk h) fun x e h=>Gd.opt (g:=cW H v i) (f:=yM _ _ _ (eZ v (fun x=>(asg x).run) ok.run em.run k (i+1))) e ?_
  cases x with
  |none=>exact⟨_,_,_,_,rfl,r,h⟩
  |some x=>
   exact((asg x).ok r h).bind fun z_ z_ z_ z_ r h=>(ok.ok r h).bind fun c z_ z_ z_ r h=>by
    cases c with
    |false=>exact ih (i+1) r h
    |true=>exact(em.ok r h).bind fun a z_ z_ z_ r h=>Gd.bind (f:=fun r=>bO (a++r)) (ih (i+1) r h) fun z_ z_ z_ z_ r h=>⟨_,_,_,_,rfl,r,h⟩
noncomputable def RP(em:PM (List MV))(K:aT (List MV)):aT Bool:=fun c L H=>bif c then em.wp L H K else K [] L H
noncomputable def PH(ok:PM Bool)(em:PM (List MV))(K:aT (List MV)):aT Unit:=fun z_ L H=>ok.wp L H (RP em K)
noncomputable def Pw(b:PM MF)(K:aT MF):aT Unit:=fun z_ L H=>b.wp L H K
noncomputable def RZ(b:PM MF)(K Q:aT MF):aT Bool:=fun c L H=>bif c then b.wp L H K else Q .next L H
structure tK(v:MV)(asg:MV→PM Unit)(ok:PM Bool)(em:PM (List MV))(L:dn)(H:MH)(Q:aT (List MV)):Prop where
 h:vd v asg ok em (iR H v+1) 0 L H Q
noncomputable def dZ(v:MV)(asg:MV→PM Unit)(ok:PM Bool)(em:PM (List MV)):PM (List MV):=⟨fun s=>eZ v (fun x=>(asg x).run) ok.run em.run (iR s.hp v+1) 0 s,tK v asg ok em,fun r h=>Gl _ _ r h.1⟩
noncomputable def Ky(v:MV)(asg:MV→PM Unit)(b:PM MF):Nat→Nat→dn→MH→aT MF→Prop
 |0,_,_,_,_=>False
 |k+1,i,L,H,Q=>mo (cW H v i) fun x=>match x with
  |none=>Q .next L H
  |some x=>(asg x).wp L H fun z_ L H=>b.wp L H fun f L H=>match f with
   | .brk=>Q .next L H
   | .ret r=>Q (.ret r) L H
   |_=>Ky v asg b k (i+1) L H Q
theorem Kx{v:MV}{asg:MV→PM Unit}{b:PM MF}(k:Nat):∀(i:Nat) {l:List (Str×MV)}{L:dn}{H:MH}{Q:aT MF},BI l L→Ky v asg b k i L H Q→Gd (hV v (fun x=>(asg x).run) b.run k i) ⟨l,H⟩ Q:=by
 induction k with
 |zero=>intro i l L H Q r h;exact h.elim
 |succ k ih=>
  intro i l L H Q r h
  refine aM (Fk h) fun x e h=>Gd.opt (g:=cW H v i) (f:=x8 _ _ (hV v (fun x=>(asg x).run) b.run k (i+1))) e ?_
  cases x with
  |none=>exact⟨_,_,_,_,rfl,r,h⟩
  |some x=>
   exact((asg x).ok r h).bind fun z_ z_ z_ z_ r h=>(b.ok r h).bind fun f z_ z_ z_ r h=>by
    cases f with
    |next=>exact ih (i+1) r h
    |cont=>exact ih (i+1) r h
    |brk=>exact⟨_,_,_,_,rfl,r,h⟩
    |ret v=>exact⟨_,_,_,_,rfl,r,h⟩
structure rj(v:MV)(asg:MV→PM Unit)(b:PM MF)(L:dn)(H:MH)(Q:aT MF):Prop where
 h:Ky v asg b (iR H v+1) 0 L H Q
noncomputable def Rg(v:MV)(asg:MV→PM Unit)(b:PM MF):PM MF:=⟨fun s=>hV v (fun x=>(asg x).run) b.run (iR s.hp v+1) 0 s,rj v asg b,fun r h=>Kx _ _ r h.1⟩
noncomputable def rS(t:PM Bool)(b:PM MF):Nat→dn→MH→aT MF→Prop
 |0,_,_,_=>False
 |k+1,L,H,Q=>t.wp L H fun c L H=>bif c then(b.wp L H fun f L H=>match f with
  | .brk=>Q .next L H
  | .ret r=>Q (.ret r) L H
  |_=>rS t b k L H Q)else Q .next L H
theorem BW{t:PM Bool}{b:PM MF}(k:Nat):∀{l:List (Str×MV)}{L:dn}{H:MH}{Q:aT MF},BI l L→rS t b k L H Q→Gd (ge t.run b.run k) ⟨l,H⟩ Q:=by
 induction k with
 |zero=>intro l L H Q r h;exact h.elim
 |succ k ih=>
  intro l L H Q r h
  refine Gd.bind (f:=uk b.run (ge t.run b.run k)) (t.ok r h) fun c z_ z_ z_ r h=>?_
  cases c with
  |false=>exact⟨_,_,_,_,rfl,r,h⟩
  |true=>
   refine Gd.bind (f:=nk (ge t.run b.run k)) (b.ok r h) fun f z_ z_ z_ r h=>?_
   cases f with
   |next=>exact ih r h
   |cont=>exact ih r h
   |brk=>exact⟨_,_,_,_,rfl,r,h⟩
   |ret v=>exact⟨_,_,_,_,rfl,r,h⟩
noncomputable def O0(vs:List MV):PM (List MV):=⟨if gj vs.length then bP else bO vs,fun L H Q=>vs.length≤1000∧Q vs L H,fun r h=>⟨vs,_,_,_,by
 have:gj vs.length=false:=by unfold gj;rw[decide_eq_false_iff_not];exact aC.mpr h.1
 (erw[this]);rfl,r,h.2⟩⟩
noncomputable def Tm(Q:aT (List MV)):aT MV:=fun v L H=>Q [v] L H
noncomputable def fg(e:PM MV):PM (List MV):=(bF e fun v=>eN [v]).as (fun L H Q=>e.wp L H (Tm Q)) rfl
noncomputable def SL(L:dn)(Q:aT (List MV)):aT (List MV):=fun vs z_ H=>vs.length≤1000∧Q vs L H
noncomputable def Sd(cs:List (Nat×NameKind))(body:MV→PM (List MV))(Q:aT (List MV)):aT MV:=fun it L H=>(body it).wp (Oj cs L) H (SL L Q)
noncomputable def pT(cs:List (Nat×NameKind))(it:PM MV)(body:MV→PM (List MV)):PM (List MV):=(bF it fun it=>bF (NO cs (body it)) fun vs=>O0 vs).as (fun L H Q=>it.wp L H (Sd cs body Q)) rfl
noncomputable def hZ(cs:List (Nat×NameKind))(it:PM MV)(body:MV→PM (List MV)):PM MV:=(bF (pT cs it body) fun vs=>o6 (.list vs)).as (fun L H Q=>it.wp L H (Sd cs body (Rr Q))) rfl
noncomputable def Tn(Q:aT MV):aT MV:=fun d L H=>mo (ou H d) (Ar (PC Q) L H)
noncomputable def Sy(x:Nat):PM MV:=(bF (ae x) fun d=>bF (E3 fun H=>ou H d) fun es=>o6 (.dict es)).as (fun L H Q=>mr (L x) (Ar (Tn Q) L H)) rfl
noncomputable def A6(f:MF)(m:PM MF):PM MF:=⟨match f with
 | .next=>m.run
 |x=>bO x,fun L H Q=>match f with
 | .next=>m.wp L H Q
 |x=>Q x L H,fun r h=>by
 cases f with
 |next=>exact m.ok r h
 |brk=>exact⟨_,_,_,_,rfl,r,h⟩
 |cont=>exact⟨_,_,_,_,rfl,r,h⟩
 |ret v=>exact⟨_,_,_,_,rfl,r,h⟩⟩
structure eG(m:PM MF)(L:dn)(H:MH)(Q:aT MF):Prop where
 h:m.wp L H Q
theorem sq{m:PM MF}{L:dn}{H:MH}{Q:aT MF}(h:m.wp L H Q):eG m L H Q:=⟨h⟩
noncomputable def Cg(m:PM MF)(Q:aT MF):aT MF:=fun f L H=>match f with
 | .next=>eG m L H Q
 |x=>Q x L H
noncomputable def QJ(st rest:PM MF):PM MF:=⟨(bF st fun x=>A6 x rest).run,fun L H Q=>st.wp L H (Cg rest Q),fun{l L H Q} r h=>by
 exact(st.ok r h).bind fun f z_ z_ z_ r h=>(A6 f rest).ok r (by cases f<;>first|exact h.1|exact h)⟩
noncomputable def gD:List (PM MF)→PM MF
 |[]=>eN .next
 |[st]=>(bF st fun x=>A6 x (eN .next)).as st.wp (by
  funext L H Q
  show st.wp L H Q=st.wp L H fun x L H=>(A6 x (eN .next)).wp L H Q
  congr 1
  funext x L H
  cases x<;>rfl)
 |st::x::rest=>QJ st (gD (x::rest))
noncomputable def Sm{α:Type}(Q:aT MF):aT α:=fun z_ L H=>Q .next L H
noncomputable def dP(e:PM MV):PM MF:=(bF e fun z_=>eN .next).as (fun L H Q=>e.wp L H (Sm Q)) rfl
noncomputable def SG(Q:aT MF):aT MV:=fun v L H=>Q (.ret v) L H
noncomputable def bM(e:PM MV):PM MF:=(bF e fun v=>eN (.ret v)).as (fun L H Q=>e.wp L H (SG Q)) rfl
noncomputable def ET:PM MF:=eN (.ret .none)
noncomputable def EU:PM MF:=E6
noncomputable def fJ(t:PM Bool)(a b:List (PM MF)):PM MF:=(bF t fun c=>J2 c (gD a) (gD b)).as (fun L H Q=>t.wp L H (Sj (gD a) (gD b) Q)) rfl
noncomputable def So(x:Nat)(Q:aT MF):aT MV:=fun v L H=>Q .next (sN x v L) H
noncomputable def bN(x:Nat)(e:PM MV):PM MF:=(bF e fun v=>bF (gu x v) fun z_=>eN .next).as (fun L H Q=>e.wp L H (So x Q)) rfl
noncomputable def q0(x:Nat)(e:PM (List MV)):PM MF:=(bF e fun vs=>bF (o6 (.list vs)) fun v=>bF (gu x v) fun z_=>eN .next).as (fun L H Q=>e.wp L H (Rr (So x Q))) rfl
noncomputable def QU(a:Str)(v:MV)(Q:aT MF):aT MV:=fun ov L H=>U (dY dz ov a v) H (Rk Q L)
noncomputable def QV(o:PM MV)(a:Str)(Q:aT MF):aT MV:=fun v L H=>o.wp L H (QU a v Q)
noncomputable def bo(o:PM MV)(a:Str)(e:PM MV):PM MF:=(bF e fun v=>bF o fun ov=>bF (sC (dY dz ov a v)) fun z_=>eN .next).as (fun L H Q=>e.wp L H (QV o a Q)) rfl
noncomputable def QE(v ov:MV)(Q:aT MF):aT MV:=fun iv L H=>U (fE ov iv v) H (Rk Q L)
noncomputable def QF(i:PM MV)(v:MV)(Q:aT MF):aT MV:=fun ov L H=>i.wp L H (QE v ov Q)
noncomputable def QG(o i:PM MV)(Q:aT MF):aT MV:=fun v L H=>o.wp L H (QF i v Q)
noncomputable def lD(o i e:PM MV):PM MF:=(bF e fun v=>bF o fun ov=>bF i fun iv=>bF (sC (fE ov iv v)) fun z_=>eN .next).as (fun L H Q=>e.wp L H (QG o i Q)) rfl
noncomputable def SE(asg:MV→PM Unit)(Q:aT MF):aT MV:=fun v L H=>(asg v).wp L H (Sm Q)
noncomputable def ES(asg:MV→PM Unit)(e:PM MV):PM MF:=(bF e fun v=>bF (asg v) fun z_=>eN .next).as (fun L H Q=>e.wp L H (SE asg Q)) rfl
noncomputable def Th(asg:MV→PM Unit)(b:PM MF)(Q:aT MF):aT MV:=fun v L H=>rj v asg b L H Q
noncomputable def eY(asg:MV→PM Unit)(it:PM MV)(b:List (PM MF)):PM MF:=(bF it fun v=>Rg v asg (gD b)).as (fun L H Q=>it.wp L H (Th asg (gD b) Q)) rfl
noncomputable def OZ(f:Value)(v:MV):PM MF:=⟨v5 (.stat f) v,fun L H Q=>f=.type "reversed"∧∃n,v=.ref n∧H[n]?=some (.list [])∧Q .next L H,fun{l L H Q} r h=>by
 (refine Mc h fun q0_ n q1_ e h=>?_;first|apply dE q0_|apply d6 q0_;first|apply dE q1_|apply d6 q1_)
 refine⟨.next,l,L,H,?_,r,h⟩
 show(match H[n]? with|some (.list [])=>some (MF.next,(⟨l,H⟩:MS))|_=>none)=_
 (erw[e];with_reducible rfl)⟩
noncomputable def QW(f:Value)(e:PM MV):PM MF:=bF e fun v=>OZ f v
structure GT(t:PM Bool)(b:PM MF)(L:dn)(H:MH)(Q:aT MF):Prop where
 h:rS t b 100 L H Q
noncomputable def vT(t:PM Bool)(b:List (PM MF)):PM MF:=⟨ge t.run (gD b).run 100,GT t (gD b),fun r h=>BW 100 r h.1⟩
noncomputable def yT(ps:List Nat)(dflts args:List MV):Option (List (Nat×MV)):=
 if args.length≤ps.length&&ps.length≤args.length+dflts.length
 then some (ps.zip (args++dflts.drop (args.length+dflts.length - ps.length)))else none
noncomputable def GC(ps:List Str)(dflts args:List MV):Option (List (Str×MV)):=
 if args.length≤ps.length&&ps.length≤args.length+dflts.length
 then some (ps.zip (args++dflts.drop (args.length+dflts.length - ps.length)))else none
theorem AD:∀(ps:List Nat) (xs:List MV),(ps.map nm).zip xs=(ps.zip xs).map fun p=>(nm p.1,p.2)
 |[],_=>rfl
 |_::_,[]=>rfl
 |p::r,x::xs=>by
  show(nm p,x)::(r.map nm).zip xs=(nm p,x)::(r.zip xs).map _
  (erw[AD r xs];with_reducible rfl)
theorem KY(ps:List Nat)(D args:List MV):GC (ps.map nm) D args=(yT ps D args).map fun l=>l.map fun p=>(nm p.1,p.2):=by
 unfold GC yT
 rw[aj]
 split
 ·exact congrArg some (AD ps _)
 ·rfl
theorem AV:∀l:List (Nat×MV),BI (l.map fun p=>(nm p.1,p.2)) (zX l)
 |[]=>fun z_=>rfl
 |(x,v)::r=>fun y=>by
  show(if nm x=nm y then some v else Mine.gv (nm y) (r.map fun p=>(nm p.1,p.2)))=bif fY x y then some v else zX r y
  by_cases h:x=y
  ·apply dE h;(erw[if_pos rfl];rw[kg]);rfl
  ·(erw[if_neg fun q=>h (sG q),nb h]);exact AV r y
noncomputable def Ri(r:Option (MF×MS)):Option (MV×MH):=match r with
 |some (.ret v,s)=>some (v,s.hp)
 |some (.next,s)=>some (.none,s.hp)
 |_=>none
noncomputable def Nd(ps:List Nat)(dflts:List MV)(b:PM MF)(args:List MV)(H:MH):Option (MV×MH):=
 (GC (ps.map nm) dflts args).bind fun l=>match b.run ⟨l,H⟩with
  |some (.ret v,s)=>some (v,s.hp)
  |some (.next,s)=>some (.none,s.hp)
  |_=>none
noncomputable def xD(Q:MV→MH→Prop):aT MF
 | .ret v,_,H=>Q v H
 | .next,_,H=>Q .none H
 |_,_,_=>False
noncomputable def bU(a:Addr)(P:List Nat)(D:List MV)(b:CF→List (PM MF)):Prop:=∃f,Kz a=some f∧∀cf args H,OT dz cf f args H=Nd P D (gD (b cf)) args H
noncomputable abbrev cn(d:Nat):CF:=vf dz Kz d
noncomputable def bindL(P:List Nat)(D args:List MV):dn:=match yT P D args with
 |some l=>zX l
 |none=>fun z_=>none
theorem bC{P:List Nat}{D:List MV}{b:CF→List (PM MF)}{d:Nat}{a:Addr}(ef:bU a P D b){args:List MV}{H:MH}(el:(yT P D args).isSome=true){Q:MV→MH→Prop}
 (h:(gD (b (cn d))).wp (bindL P D args) H (xD Q)):WC (cn (d+1)) a args H Q:=by
 refine aM ef fun f ef er=>?_
 refine fH (dk.mp el) fun l el=>?_
 unfold bindL at h
 rw[el]at h
 obtain⟨x,l',L',H',e,r,q⟩:=(gD (b (cn d))).ok (AV l) h
 have:cn (d+1) a args H=Nd P D (gD (b (cn d))) args H:=by
  show(Kz a).bind _=_
  (erw[ef])
  exact er _ _ _
 have e1:cn (d+1) a args H=Ri (some (x,⟨l',H'⟩)):=by
  (erw[this,←e])
  unfold Nd
  (rw[KY];erw[el])
  rfl
 cases x with
 |ret v=>exact⟨v,H',e1,q⟩
 |next=>exact⟨.none,H',e1,q⟩
 |brk=>exact q.elim
 |cont=>exact q.elim
noncomputable def OQ(cf:CF):List (PM MF):=[bo (ae 106) "code" (ae 21),bo (ae 106) "glyph" (ae 45),bo (ae 106) "cluster" (ae 20),bo (ae 106) "mask" (ao (.int 0)),bo (ae 106) "is_unsafe" (ao (.bool false)),bo (ae 106) "lig_id" (ao (.int 0)),bo (ae 106) "lig_part" (ao (.int 0)),bo (ae 106) "lig_count" (ao (.int 0)),bo (ae 106) "kind" (ao (.str "")),bo (ae 106) "x_advance" (ao (.int 0)),bo (ae 106) "y_advance" (ao (.int 0)),bo (ae 106) "x_offset" (ao (.int 0)),bo (ae 106) "y_offset" (ao (.int 0)),bo (ae 106) "parent" (ao (.int 0)),bo (ae 106) "bond" (ao (.str ""))]
theorem OY:bU 35 [106,21,45,20] [] OQ:=⟨(bV 2 (some 0) []),by kernel_rfl,fun cf args H=>by kernel_rfl⟩
noncomputable def OP(cf:CF):List (PM MF):=[bM (bJ [(aD (ae 106) "glyph"),(aD (ae 106) "cluster"),(aD (ae 106) "x_advance"),(aD (ae 106) "y_advance"),(aD (ae 106) "x_offset"),(aD (ae 106) "y_offset")])]
theorem OX:bU 49 [106] [] OP:=⟨(bV 2 (some 2) []),by kernel_rfl,fun cf args H=>by kernel_rfl⟩
noncomputable def OO(cf:CF):List (PM MF):=[bo (ae 106) "row" (ae 54),bo (ae 106) "is_backward" (ae 57),bo (ae 106) "last_lig" (ao (.int 0))]
theorem OW:bU 71 [106,54,57] [(.bool false)] OO:=⟨(bV 3 (some 0) [(.bool false)]),by kernel_rfl,fun cf args H=>by kernel_rfl⟩
noncomputable def M9(cf:CF):List (PM MF):=[bM (cM cf 96 [(hZ [(0,.local),(9,.local),(2,.globalImplicit),(22,.free)] (bl (.type "range") [(bl (.builtin "len") [(ae 22)])]) (fun v=>dZ v (gu 9) (eF []) (fg (cM cf 52 [(bx (ae 22) (ae 9)),(ao (.int 0)),(ae 9)])))),(ae 57)])]
theorem NL:bU 106 [22,57] [(.bool false)] M9:=⟨(bV 4 none [(.bool false)]),by kernel_rfl,fun cf args H=>by kernel_rfl⟩
noncomputable def M8(cf:CF):List (PM MF):=[bN 99 (aD (ae 14) "row"),bM (hZ [(0,.local),(9,.local),(73,.globalImplicit),(99,.free)] (bl (.type "range") [(bl (.builtin "len") [(ae 99)])]) (fun v=>dZ v (gu 9) (eF [(Hp [(cp (ch .Add (ae 9) (ao (.int 1))) .Eq (bl (.builtin "len") [(ae 99)])),(cp (aD (bx (ae 99) (ch .Add (ae 9) (ao (.int 1)))) "cluster") .NotEq (aD (bx (ae 99) (ae 9)) "cluster"))])]) (fg (ch .Add (ae 9) (ao (.int 1))))))]
theorem NK:bU 111 [14] [] M8:=⟨(bV 5 none []),by kernel_rfl,fun cf args H=>by kernel_rfl⟩
noncomputable def ER(cf:CF):List (PM MF):=[fJ (cp (aD (ae 53) "cluster") .NotEq (ae 72)) [bo (ae 53) "is_unsafe" (ao (.bool true))] []]
noncomputable def M7(cf:CF):List (PM MF):=[bN 117 (Lp (aD (ae 14) "row") (ae 12) (ae 31)),fJ (cp (bl (.builtin "len") [(ae 117)]) .Lt (ao (.int 2))) [ET] [],bN 72 (bl (.builtin "min") [(hZ [(0,.local),(53,.local)] (ae 117) (fun v=>dZ v (gu 53) (eF []) (fg (aD (ae 53) "cluster"))))]),eY (gu 53) (ae 117) (ER cf)]
theorem NJ:bU 135 [14,12,31] [] M7:=⟨(bV 9 none []),by kernel_rfl,fun cf args H=>by kernel_rfl⟩
noncomputable def EQ(cf:CF):List (PM MF):=[bo (ae 53) "parent" (zb .USub (aD (ae 53) "parent"))]
noncomputable def M1(cf:CF):List (PM MF):=[dP (dX cf (aD (ae 14) "row") "reverse" []),eY (gu 53) (aD (ae 14) "row") (EQ cf)]
theorem NI:bU 154 [14] [] M1:=⟨(bV 12 none []),by kernel_rfl,fun cf args H=>by kernel_rfl⟩
noncomputable def EP(cf:CF):List (PM MF):=[bo (ae 53) "is_unsafe" (ao (.bool true))]
noncomputable def EO(cf:CF):List (PM MF):=[bN 117 (Lp (aD (ae 14) "row") (ae 12) (ae 31)),fJ (cp (hZ [(0,.local),(53,.local)] (ae 117) (fun v=>dZ v (gu 53) (eF [(ej (aD (ae 53) "is_unsafe"))]) (fg (ae 53)))) .NotEq (fA [])) [eY (gu 53) (ae 117) (EP cf)] [],bN 12 (ae 31)]
noncomputable def M0(cf:CF):List (PM MF):=[bN 12 (ao (.int 0)),eY (gu 31) (aK cf 111 [(ae 14)]) (EO cf)]
theorem NH:bU 159 [14] [] M0:=⟨(bV 13 none []),by kernel_rfl,fun cf args H=>by kernel_rfl⟩
noncomputable def MZ(cf:CF):List (PM MF):=[bo (ae 106) "kind" (ae 65),bo (ae 106) "flag" (ae 37),bo (ae 106) "mark_set" (ae 80),bo (ae 106) "tables" (ae 119)]
theorem NG:bU 173 [106,65,37,80,119] [] MZ:=⟨(bV 20 (some 0) []),by kernel_rfl,fun cf args H=>by kernel_rfl⟩
noncomputable def MY(cf:CF):List (PM MF):=[bo (ae 106) "buffer" (ae 14),bo (ae 106) "gdef" (ae 44),bo (ae 106) "lookups" (ae 77),bo (ae 106) "lookup" (ae 76),bo (ae 106) "mask" (ae 81),bo (ae 106) "depth" (ae 26)]
theorem NF:bU 200 [106,14,44,77,76,81,26] [(.int 0)] MY:=⟨(bV 21 (some 0) [(.int 0)]),by kernel_rfl,fun cf args H=>by kernel_rfl⟩
noncomputable def MX(cf:CF):List (PM MF):=[bM (dX cf (jB [((ao (.int 1)),(nF (.int 2))),((ao (.int 2)),(nF (.int 4))),((ao (.int 3)),(nF (.int 8)))]) "get" [(ae 87),(ao (.int 0))])]
theorem NE:bU 221 [87] [] MX:=⟨(bV 23 none []),by kernel_rfl,fun cf args H=>by kernel_rfl⟩
noncomputable def MW(cf:CF):List (PM MF):=[bN 87 (dX cf (ae 44) "glyph_class" [(ae 45)]),fJ (ej (ch .BitAnd (aD (ae 76) "flag") (aK cf 221 [(ae 87)]))) [bM (ao (.bool true))] [],fJ (cp (ae 87) .NotEq (ao (.int 3))) [bM (ao (.bool false))] [],fJ (ej (ch .BitAnd (aD (ae 76) "flag") (nF (.int 16)))) [bM (zb .Not (dX cf (ae 44) "is_in_set" [(aD (ae 76) "mark_set"),(ae 45)]))] [],bN 128 (cM cf 214 [(aD (ae 76) "flag")]),bM (nG [(dR (ae 128) .Gt (ao (.int 0))),(dR (dX cf (ae 44) "attach_class" [(ae 45)]) .NotEq (ae 128))])]
theorem ND:bU 228 [44,76,45] [] MW:=⟨(bV 24 none []),by kernel_rfl,fun cf args H=>by kernel_rfl⟩
noncomputable def MU(cf:CF):List (PM MF):=[bM (aK cf 228 [(aD (ae 101) "gdef"),(aD (ae 101) "lookup"),(aD (bx (aD (aD (ae 101) "buffer") "row") (ae 9)) "glyph")])]
theorem NC:bU 235 [101,9] [] MU:=⟨(bV 25 none []),by kernel_rfl,fun cf args H=>by kernel_rfl⟩
noncomputable def MT(cf:CF):List (PM MF):=[bM (nG [(dR (ch .BitAnd (aD (bx (aD (aD (ae 101) "buffer") "row") (ae 9)) "mask") (aD (ae 101) "mask")) .NotEq (ao (.int 0))),(zb .Not (aK cf 235 [(ae 101),(ae 9)]))])]
theorem NB:bU 242 [101,9] [] MT:=⟨(bV 26 none []),by kernel_rfl,fun cf args H=>by kernel_rfl⟩
noncomputable def EN(cf:CF):List (PM MF):=[dP (dX cf (ae 75) "append" [(ae 52)]),bN 52 (ch .Add (ae 52) (aD (bx (ae 99) (ae 52)) "parent"))]
noncomputable def MR(cf:CF):List (PM MF):=[bN 75 (fA []),bN 52 (ae 9),vT (eF [(cp (aD (bx (ae 99) (ae 52)) "parent") .NotEq (ao (.int 0))),(cp (ae 52) .NotIn (ae 75)),(sf (ao (.int 0)) .LtE (ch .Add (ae 52) (aD (bx (ae 99) (ae 52)) "parent")) .Lt (bl (.builtin "len") [(ae 99)]))]) (EN cf),bM (ae 75)]
theorem NA:bU 478 [99,9] [] MR:=⟨(bV 69 none []),by kernel_rfl,fun cf args H=>by kernel_rfl⟩
noncomputable def EL(cf:CF):List (PM MF):=[bo (ae 53) "parent" (ao (.int 0))]
noncomputable def EK(cf:CF):List (PM MF):=[QW (.type "reversed") (aK cf 478 [(aD (ae 14) "row"),(ae 9)])]
noncomputable def MQ(cf:CF):List (PM MF):=[eY (gu 9) (bl (.type "range") [(bl (.builtin "len") [(aD (ae 14) "row")])]) (EK cf),eY (gu 53) (aD (ae 14) "row") (EL cf)]
theorem Nz:bU 506 [14] [] MQ:=⟨(bV 73 none []),by kernel_rfl,fun cf args H=>by kernel_rfl⟩
noncomputable def MP(cf:CF):List (PM MF):=[bo (ae 106) "mapping" (ae 78)]
theorem Ny:bU 774 [106,78] [] MP:=⟨(bV 123 (some 0) []),by kernel_rfl,fun cf args H=>by kernel_rfl⟩
noncomputable def MN(cf:CF):List (PM MF):=[bN 53 (bx (aD (aD (ae 101) "buffer") "row") (ae 9)),fJ (cp (aD (ae 53) "glyph") .NotIn (aD (ae 118) "mapping")) [bM (zb .USub (ao (.int 1)))] [],bo (ae 53) "glyph" (bx (aD (ae 118) "mapping") (aD (ae 53) "glyph")),bM (ch .Add (ae 9) (ao (.int 1)))]
theorem Nx:bU 793 [101,118,9] [] MN:=⟨(bV 124 none []),by kernel_rfl,fun cf args H=>by kernel_rfl⟩
noncomputable def ML(cf:CF):List (PM MF):=[fJ (cp (ae 65) .Eq (ao (.str "single"))) [bM (aK cf 793 [(ae 101),(ae 118),(ae 9)])] [],fJ (cp (ae 65) .Eq (ao (.str "multiple"))) [bM (cM cf 800 [(ae 101),(ae 118),(ae 9)])] [],fJ (cp (ae 65) .Eq (ao (.str "alternate"))) [bM (cM cf 814 [(ae 101),(ae 118),(ae 9)])] [],fJ (cp (ae 65) .Eq (ao (.str "ligature"))) [bM (cM cf 753 [(ae 101),(ae 118),(ae 9)])] [],fJ (cp (ae 65) .Eq (ao (.str "reverse"))) [bM (cM cf 760 [(ae 101),(ae 118),(ae 9)])] [],bM (cM cf 596 [(ae 101),(ae 118),(ae 9),(nF (.stat (.ref 828)))])]
theorem Nw:bU 821 [101,65,118,9] [] ML:=⟨(bV 129 none []),by kernel_rfl,fun cf args H=>by kernel_rfl⟩
noncomputable def EJ(cf:CF):List (PM MF):=[bN 42 (aK cf 821 [(ae 101),(aD (aD (ae 101) "lookup") "kind"),(ae 118),(ae 9)]),fJ (cp (ae 42) .GtE (ao (.int 0))) [bM (ae 42)] []]
noncomputable def MK(cf:CF):List (PM MF):=[eY (gu 118) (aD (aD (ae 101) "lookup") "tables") (EJ cf),bM (zb .USub (ao (.int 1)))]
theorem Nv:bU 828 [101,9] [] MK:=⟨(bV 130 none []),by kernel_rfl,fun cf args H=>by kernel_rfl⟩
noncomputable def EI(cf:CF):List (PM MF):=[bN 42 (pO (ej (aK cf 242 [(ae 101),(ae 9)])) (aK cf 828 [(ae 101),(ae 9)]) (zb .USub (ao (.int 1)))),fJ (cp (ae 42) .Lt (ao (.int 0))) [bN 9 (ch .Add (ae 9) (ao (.int 1)))] [bN 23 (ch .Add (ae 23) (ao (.int 1))),bN 9 (ae 42)]]
noncomputable def MJ(cf:CF):List (PM MF):=[bN 23 (ao (.int 0)),bN 9 (ao (.int 0)),vT (cp (ae 9) .Lt (bl (.builtin "len") [(aD (aD (ae 101) "buffer") "row")])) (EI cf),bM (ae 23)]
theorem Nt:bU 835 [101] [] MJ:=⟨(bV 131 none []),by kernel_rfl,fun cf args H=>by kernel_rfl⟩
noncomputable def MI(cf:CF):List (PM MF):=[bN 101 (cM cf 203 [(ae 14),(ae 44),(ae 77),(bx (ae 77) (ae 87)),(ae 81)]),fJ (cp (aD (aD (ae 101) "lookup") "kind") .Eq (ao (.str "reverse"))) [bM (cM cf 842 [(ae 101)])] [],bM (aK cf 835 [(ae 101)])]
theorem Nr:bU 849 [14,44,77,87,81] [] MI:=⟨(bV 133 none []),by kernel_rfl,fun cf args H=>by kernel_rfl⟩
noncomputable def MG(cf:CF):List (PM MF):=[bM (bJ [(bJ [(ao (.int 173)),(ao (.int 173))]),(bJ [(ao (.int 847)),(ao (.int 847))]),(bJ [(ao (.int 1564)),(ao (.int 1564))]),(bJ [(ao (.int 4447)),(ao (.int 4448))]),(bJ [(ao (.int 6068)),(ao (.int 6069))]),(bJ [(ao (.int 6155)),(ao (.int 6158))]),(bJ [(ao (.int 8203)),(ao (.int 8207))]),(bJ [(ao (.int 8234)),(ao (.int 8238))]),(bJ [(ao (.int 8288)),(ao (.int 8303))]),(bJ [(ao (.int 12644)),(ao (.int 12644))]),(bJ [(ao (.int 65024)),(ao (.int 65039))]),(bJ [(ao (.int 65279)),(ao (.int 65279))]),(bJ [(ao (.int 65440)),(ao (.int 65440))]),(bJ [(ao (.int 65520)),(ao (.int 65528))]),(bJ [(ao (.int 113824)),(ao (.int 113827))]),(bJ [(ao (.int 119155)),(ao (.int 119162))]),(bJ [(ao (.int 917504)),(ao (.int 921599))])])]
theorem Q9:bU 856 [] [] MG:=⟨(bV 137 none []),by kernel_rfl,fun cf args H=>by kernel_rfl⟩
noncomputable def EH(cf:CF):List (PM MF):=[fJ (sf (ae 36) .LtE (ae 21) .LtE (ae 70)) [bM (ao (.bool true))] []]
noncomputable def ME(cf:CF):List (PM MF):=[eY (nZ 36 70) (aK cf 856 []) (EH cf),bM (ao (.bool false))]
theorem Q8:bU 863 [21] [] ME:=⟨(bV 138 none []),by kernel_rfl,fun cf args H=>by kernel_rfl⟩
noncomputable def MD(cf:CF):List (PM MF):=[bM (Hm [(Lq (ao (.int 65024)) .LtE (ae 21) .LtE (ao (.int 65039))),(Lq (ao (.int 917760)) .LtE (ae 21) .LtE (ao (.int 917999)))])]
theorem Q7:bU 870 [21] [] MD:=⟨(bV 139 none []),by kernel_rfl,fun cf args H=>by kernel_rfl⟩
noncomputable def MC(cf:CF):List (PM MF):=[fJ (cp (ae 21) .Eq (nF (.int 8205))) [bM (ao (.str "zwj"))] [],fJ (cp (ae 21) .Eq (nF (.int 8204))) [bM (ao (.str "zwnj"))] [],bM (pO (ej (aK cf 863 [(ae 21)])) (ao (.str "hidden")) (ao (.str "")))]
theorem Q6:bU 877 [21] [] MC:=⟨(bV 140 none []),by kernel_rfl,fun cf args H=>by kernel_rfl⟩
noncomputable def EG(cf:CF):List (PM MF):=[bo (ae 53) "kind" (aK cf 877 [(aD (ae 53) "code")])]
noncomputable def MB(cf:CF):List (PM MF):=[eY (gu 53) (aD (ae 14) "row") (EG cf)]
theorem Nq:bU 884 [14] [] MB:=⟨(bV 141 none []),by kernel_rfl,fun cf args H=>by kernel_rfl⟩
noncomputable def EF(cf:CF):List (PM MF):=[bN 45 (ao (.int 0)),fJ (ej (aK cf 870 [(aD (bx (aD (ae 14) "row") (ae 9)) "code")])) [bN 45 (cM cf 891 [(ae 18),(bx (aD (ae 14) "row") (ch .Sub (ae 9) (ao (.int 1)))),(aD (bx (aD (ae 14) "row") (ae 9)) "code")])] [],fJ (cp (ae 45) .Gt (ao (.int 0))) [dP (cM cf 130 [(ae 14),(ch .Sub (ae 9) (ao (.int 1))),(ch .Add (ae 9) (ao (.int 1)))]),bo (bx (aD (ae 14) "row") (ch .Sub (ae 9) (ao (.int 1)))) "glyph" (ae 45),bo (ae 14) "row" (ch .Add (DV (aD (ae 14) "row") (ae 9)) (OF (aD (ae 14) "row") (ch .Add (ae 9) (ao (.int 1)))))] [bN 9 (ch .Add (ae 9) (ao (.int 1)))]]
noncomputable def Mz(cf:CF):List (PM MF):=[bN 9 (ao (.int 1)),vT (cp (ae 9) .Lt (bl (.builtin "len") [(aD (ae 14) "row")])) (EF cf)]
theorem Np:bU 898 [14,18] [] Mz:=⟨(bV 143 none []),by kernel_rfl,fun cf args H=>by kernel_rfl⟩
noncomputable def My(cf:CF):List (PM MF):=[bM (nG [(dR (aD (ae 53) "kind") .NotEq (ao (.str ""))),(dR (aD (ae 53) "lig_count") .Eq (ao (.int 0)))])]
theorem No:bU 905 [53] [] My:=⟨(bV 144 none []),by kernel_rfl,fun cf args H=>by kernel_rfl⟩
noncomputable def EE(cf:CF):List (PM MF):=[fJ (ej (aK cf 905 [(bx (aD (ae 14) "row") (ae 9))])) [dP (cM cf 147 [(ae 14),(ae 9),(ao (.int 1)),(fA [])])] [bN 9 (ch .Add (ae 9) (ao (.int 1)))]]
noncomputable def ED(cf:CF):List (PM MF):=[fJ (ej (aK cf 905 [(ae 53)])) [dP (cM cf 912 [(ae 53),(ae 112)])] []]
noncomputable def Mx(cf:CF):List (PM MF):=[fJ (cp (ae 112) .Gt (ao (.int 0))) [eY (gu 53) (aD (ae 14) "row") (ED cf),ET] [],bN 9 (ao (.int 0)),vT (cp (ae 9) .Lt (bl (.builtin "len") [(aD (ae 14) "row")])) (EE cf)]
theorem Nn:bU 919 [14,112] [] Mx:=⟨(bV 146 none []),by kernel_rfl,fun cf args H=>by kernel_rfl⟩
noncomputable def EC(cf:CF):List (PM MF):=[fJ (sf (ae 36) .LtE (ae 21) .LtE (ae 70)) [bM (ao (.bool true))] []]
noncomputable def Mw(cf:CF):List (PM MF):=[eY (nZ 36 70) (ae 96) (EC cf),bM (ao (.bool false))]
theorem Nm:bU 928 [96,21] [] Mw:=⟨(bV 152 none []),by kernel_rfl,fun cf args H=>by kernel_rfl⟩
noncomputable def Mv(cf:CF):List (PM MF):=[bM (fA [(bJ [(ao (.int 1570)),(ao (.int 1573))]),(bJ [(ao (.int 1575)),(ao (.int 1575))]),(bJ [(ao (.int 1577)),(ao (.int 1577))]),(bJ [(ao (.int 1583)),(ao (.int 1586))]),(bJ [(ao (.int 1608)),(ao (.int 1608))]),(bJ [(ao (.int 1649)),(ao (.int 1651))]),(bJ [(ao (.int 1653)),(ao (.int 1655))]),(bJ [(ao (.int 1672)),(ao (.int 1689))]),(bJ [(ao (.int 1728)),(ao (.int 1728))]),(bJ [(ao (.int 1731)),(ao (.int 1739))]),(bJ [(ao (.int 1741)),(ao (.int 1741))]),(bJ [(ao (.int 1743)),(ao (.int 1743))]),(bJ [(ao (.int 1746)),(ao (.int 1747))]),(bJ [(ao (.int 1749)),(ao (.int 1749))]),(bJ [(ao (.int 1774)),(ao (.int 1775))])])]
theorem Q5:bU 935 [] [] Mv:=⟨(bV 153 none []),by kernel_rfl,fun cf args H=>by kernel_rfl⟩
noncomputable def Mu(cf:CF):List (PM MF):=[bM (fA [(bJ [(ao (.int 1568)),(ao (.int 1568))]),(bJ [(ao (.int 1574)),(ao (.int 1574))]),(bJ [(ao (.int 1576)),(ao (.int 1576))]),(bJ [(ao (.int 1578)),(ao (.int 1582))]),(bJ [(ao (.int 1587)),(ao (.int 1599))]),(bJ [(ao (.int 1601)),(ao (.int 1607))]),(bJ [(ao (.int 1609)),(ao (.int 1610))]),(bJ [(ao (.int 1646)),(ao (.int 1647))]),(bJ [(ao (.int 1656)),(ao (.int 1671))]),(bJ [(ao (.int 1690)),(ao (.int 1727))]),(bJ [(ao (.int 1729)),(ao (.int 1730))]),(bJ [(ao (.int 1740)),(ao (.int 1740))]),(bJ [(ao (.int 1742)),(ao (.int 1742))]),(bJ [(ao (.int 1744)),(ao (.int 1745))]),(bJ [(ao (.int 1786)),(ao (.int 1788))]),(bJ [(ao (.int 1791)),(ao (.int 1791))])])]
theorem Q4:bU 942 [] [] Mu:=⟨(bV 154 none []),by kernel_rfl,fun cf args H=>by kernel_rfl⟩
noncomputable def Mt(cf:CF):List (PM MF):=[bM (fA [(bJ [(ao (.int 768)),(ao (.int 879))]),(bJ [(ao (.int 1552)),(ao (.int 1562))]),(bJ [(ao (.int 1611)),(ao (.int 1631))]),(bJ [(ao (.int 1648)),(ao (.int 1648))]),(bJ [(ao (.int 1750)),(ao (.int 1756))]),(bJ [(ao (.int 1759)),(ao (.int 1764))]),(bJ [(ao (.int 1767)),(ao (.int 1768))]),(bJ [(ao (.int 1770)),(ao (.int 1773))]),(bJ [(ao (.int 65024)),(ao (.int 65039))])])]
theorem Q3:bU 949 [] [] Mt:=⟨(bV 155 none []),by kernel_rfl,fun cf args H=>by kernel_rfl⟩
noncomputable def Mr(cf:CF):List (PM MF):=[fJ (Hp [(cp (ae 21) .Eq (nF (.int 8205))),(cp (ae 21) .Eq (nF (.int 1600)))]) [bM (ao (.str "C"))] [],fJ (ej (aK cf 928 [(aK cf 949 []),(ae 21)])) [bM (ao (.str "T"))] [],fJ (ej (aK cf 928 [(aK cf 942 []),(ae 21)])) [bM (ao (.str "D"))] [],bM (pO (ej (aK cf 928 [(aK cf 935 []),(ae 21)])) (ao (.str "R")) (ao (.str "U")))]
theorem Nl:bU 956 [21] [] Mr:=⟨(bV 156 none []),by kernel_rfl,fun cf args H=>by kernel_rfl⟩
noncomputable def EB(cf:CF):List (PM MF):=[fJ (cp (ae 21) .NotIn (ae 66)) [lD (ae 66) (ae 21) (aK cf 956 [(ae 21)])] []]
noncomputable def Mq(cf:CF):List (PM MF):=[bN 66 (jB []),eY (gu 21) (ae 22) (EB cf),bM (hZ [(0,.local),(21,.local),(66,.free)] (ae 22) (fun v=>dZ v (gu 21) (eF []) (fg (bx (ae 66) (ae 21)))))]
theorem Nk:bU 961 [22] [] Mq:=⟨(bV 157 none []),by kernel_rfl,fun cf args H=>by kernel_rfl⟩
noncomputable def Mp(cf:CF):List (PM MF):=[bM (Hm [(dR (ae 111) .Eq (ao (.str "D"))),(dR (ae 111) .Eq (ao (.str "C")))])]
theorem Q2:bU 968 [111] [] Mp:=⟨(bV 158 none []),by kernel_rfl,fun cf args H=>by kernel_rfl⟩
noncomputable def Mn(cf:CF):List (PM MF):=[bM (Hm [(dR (ae 111) .Eq (ao (.str "D"))),(dR (ae 111) .Eq (ao (.str "C"))),(dR (ae 111) .Eq (ao (.str "R")))])]
theorem Q1:bU 975 [111] [] Mn:=⟨(bV 159 none []),by kernel_rfl,fun cf args H=>by kernel_rfl⟩
noncomputable def EA(cf:CF):List (PM MF):=[fJ (cp (bx (ae 123) (ae 9)) .NotEq (ao (.str "T"))) [fJ (eF [(cp (ae 70) .GtE (ao (.int 0))),(ej (aK cf 968 [(bx (ae 123) (ae 70))])),(ej (aK cf 975 [(bx (ae 123) (ae 9))]))]) [dP (dX cf (ae 42) "append" [(bJ [(ae 70),(ae 9)])])] [],bN 70 (ae 9)] []]
noncomputable def Mm(cf:CF):List (PM MF):=[bN 42 (fA []),bN 70 (zb .USub (ao (.int 1))),eY (gu 9) (bl (.type "range") [(bl (.builtin "len") [(ae 123)])]) (EA cf),bM (ae 42)]
theorem Nj:bU 982 [123] [] Mm:=⟨(bV 160 none []),by kernel_rfl,fun cf args H=>by kernel_rfl⟩
noncomputable def Ml(cf:CF):List (PM MF):=[fJ (ej (ae 49)) [bM (pO (ej (ae 50)) (ao (.str "medi")) (ao (.str "fina")))] [],bM (pO (ej (ae 50)) (ao (.str "init")) (ao (.str "isol")))]
theorem Q0:bU 989 [49,50] [] Ml:=⟨(bV 161 none []),by kernel_rfl,fun cf args H=>by kernel_rfl⟩
noncomputable def Ez(cf:CF):List (PM MF):=[lD (ae 50) (ae 88) (ao (.bool true)),lD (ae 49) (ae 89) (ao (.bool true))]
noncomputable def Mk(cf:CF):List (PM MF):=[q0 49 (pT [(0,.local),(111,.local)] (ae 123) (fun v=>dZ v (gu 111) (eF []) (fg (ao (.bool false))))),q0 50 (pT [(0,.local),(111,.local)] (ae 123) (fun v=>dZ v (gu 111) (eF []) (fg (ao (.bool false))))),eY (nZ 88 89) (aK cf 982 [(ae 123)]) (Ez cf),bM (hZ [(0,.local),(9,.local),(62,.globalImplicit),(40,.globalImplicit),(49,.free),(50,.free),(123,.free)] (bl (.type "range") [(bl (.builtin "len") [(ae 123)])]) (fun v=>dZ v (gu 9) (eF []) (fg (pO (ej (aK cf 975 [(bx (ae 123) (ae 9))])) (aK cf 989 [(bx (ae 49) (ae 9)),(bx (ae 50) (ae 9))]) (ao (.str ""))))))]
theorem Ni:bU 994 [123] [] Mk:=⟨(bV 162 none []),by kernel_rfl,fun cf args H=>by kernel_rfl⟩
noncomputable def Ey(cf:CF):List (PM MF):=[dP (aK cf 135 [(ae 14),(ae 88),(ch .Add (ae 89) (ao (.int 1)))])]
noncomputable def Ex(cf:CF):List (PM MF):=[bo (bx (aD (ae 14) "row") (ae 9)) "mask" (ch .BitOr (aD (bx (aD (ae 14) "row") (ae 9)) "mask") (dX cf (ae 82) "get" [(bx (ae 41) (ae 9)),(ao (.int 0))]))]
noncomputable def Mj(cf:CF):List (PM MF):=[bN 123 (aK cf 961 [(hZ [(0,.local),(53,.local)] (aD (ae 14) "row") (fun v=>dZ v (gu 53) (eF []) (fg (aD (ae 53) "code"))))]),bN 41 (aK cf 994 [(ae 123)]),eY (gu 9) (bl (.type "range") [(bl (.builtin "len") [(ae 41)])]) (Ex cf),eY (nZ 88 89) (aK cf 982 [(ae 123)]) (Ey cf)]
theorem Nh:bU 999 [14,82] [] Mj:=⟨(bV 163 none []),by kernel_rfl,fun cf args H=>by kernel_rfl⟩
noncomputable def IZ(cf:CF):List (PM MF):=[bM (dR (ae 120) .In (nF (.tup [(.str "arab")])))]
theorem Qd:bU 1006 [120] [] IZ:=⟨(bV 165 none []),by kernel_rfl,fun cf args H=>by kernel_rfl⟩
noncomputable def IY(cf:CF):List (PM MF):=[bo (ae 106) "units" (ae 124),bo (ae 106) "ascent" (ae 8),bo (ae 106) "descent" (ae 27),bo (ae 106) "advances" (bl (.type "tuple") [(ae 7)]),bo (ae 106) "bearings" (bl (.type "tuple") [(ae 11)])]
theorem JZ:bU 1048 [106,124,8,27,7,11] [] IY:=⟨(bV 173 (some 0) []),by kernel_rfl,fun cf args H=>by kernel_rfl⟩
noncomputable def IX(cf:CF):List (PM MF):=[bM (pO (sf (ao (.int 0)) .LtE (ae 45) .Lt (bl (.builtin "len") [(aD (ae 83) "advances")])) (bx (aD (ae 83) "advances") (ae 45)) (ao (.int 0)))]
theorem JY:bU 1076 [83,45] [] IX:=⟨(bV 174 none []),by kernel_rfl,fun cf args H=>by kernel_rfl⟩
noncomputable def IW(cf:CF):List (PM MF):=[bM (fA [(bJ [(ao (.int 60)),(ao (.int 62))]),(bJ [(ao (.int 91)),(ao (.int 93))]),(bJ [(ao (.int 123)),(ao (.int 125))]),(bJ [(ao (.int 171)),(ao (.int 187))]),(bJ [(ao (.int 8712)),(ao (.int 8715))]),(bJ [(ao (.int 8713)),(ao (.int 8716))]),(bJ [(ao (.int 8714)),(ao (.int 8717))]),(bJ [(ao (.int 65124)),(ao (.int 65125))]),(bJ [(ao (.int 65308)),(ao (.int 65310))]),(bJ [(ao (.int 65339)),(ao (.int 65341))]),(bJ [(ao (.int 65371)),(ao (.int 65373))])])]
theorem Qc:bU 1084 [] [] IW:=⟨(bV 177 none []),by kernel_rfl,fun cf args H=>by kernel_rfl⟩
noncomputable def IU(cf:CF):List (PM MF):=[bM (fA [(bJ [(ao (.int 40)),(ao (.int 1))]),(bJ [(ao (.int 8249)),(ao (.int 1))]),(bJ [(ao (.int 8261)),(ao (.int 1))]),(bJ [(ao (.int 8317)),(ao (.int 1))]),(bJ [(ao (.int 8333)),(ao (.int 1))]),(bJ [(ao (.int 8804)),(ao (.int 4))]),(bJ [(ao (.int 8814)),(ao (.int 14))]),(bJ [(ao (.int 8842)),(ao (.int 1))]),(bJ [(ao (.int 8847)),(ao (.int 2))]),(bJ [(ao (.int 8866)),(ao (.int 1))]),(bJ [(ao (.int 8905)),(ao (.int 2))]),(bJ [(ao (.int 8912)),(ao (.int 1))]),(bJ [(ao (.int 8918)),(ao (.int 1))]),(bJ [(ao (.int 8920)),(ao (.int 4))]),(bJ [(ao (.int 8928)),(ao (.int 7))]),(bJ [(ao (.int 8968)),(ao (.int 2))]),(bJ [(ao (.int 9001)),(ao (.int 1))]),(bJ [(ao (.int 10088)),(ao (.int 7))]),(bJ [(ao (.int 10214)),(ao (.int 5))]),(bJ [(ao (.int 10627)),(ao (.int 5))]),(bJ [(ao (.int 12296)),(ao (.int 5))]),(bJ [(ao (.int 12308)),(ao (.int 4))]),(bJ [(ao (.int 65113)),(ao (.int 3))]),(bJ [(ao (.int 65288)),(ao (.int 1))]),(bJ [(ao (.int 65375)),(ao (.int 1))]),(bJ [(ao (.int 65378)),(ao (.int 1))])])]
theorem Qb:bU 1091 [] [] IU:=⟨(bV 178 none []),by kernel_rfl,fun cf args H=>by kernel_rfl⟩
noncomputable def CG(cf:CF):List (PM MF):=[dP (dX cf (ae 42) "extend" [(hZ [(0,.local),(63,.local),(36,.free)] (bl (.type "range") [(ae 23)]) (fun v=>dZ v (gu 63) (eF []) (fg (bJ [(ch .Add (ae 36) (ch .Mult (ao (.int 2)) (ae 63))),(ch .Add (ch .Add (ae 36) (ch .Mult (ao (.int 2)) (ae 63))) (ao (.int 1)))]))))])]
noncomputable def IT(cf:CF):List (PM MF):=[bN 42 (aK cf 1084 []),eY (nZ 36 23) (aK cf 1091 []) (CG cf),bM (ae 42)]
theorem JX:bU 1096 [] [] IT:=⟨(bV 179 none []),by kernel_rfl,fun cf args H=>by kernel_rfl⟩
noncomputable def CE(cf:CF):List (PM MF):=[lD (ae 118) (ae 88) (ae 89),lD (ae 118) (ae 89) (ae 88)]
noncomputable def IS(cf:CF):List (PM MF):=[bN 118 (jB []),eY (nZ 88 89) (aK cf 1096 []) (CE cf),bM (ae 118)]
theorem JW:bU 1103 [] [] IS:=⟨(bV 180 none []),by kernel_rfl,fun cf args H=>by kernel_rfl⟩
noncomputable def IR(cf:CF):List (PM MF):=[bM (dR (ae 120) .In (nF (.tup [(.str "arab"),(.str "hebr"),(.str "syrc"),(.str "thaa"),(.str "nko ")])))]
theorem Qa:bU 1110 [120] [] IR:=⟨(bV 181 none []),by kernel_rfl,fun cf args H=>by kernel_rfl⟩
noncomputable def CD(cf:CF):List (PM MF):=[bN 89 (dX cf (ae 118) "get" [(aD (ae 53) "code"),(aD (ae 53) "code")]),fJ (eF [(cp (ae 89) .NotEq (aD (ae 53) "code")),(cp (dX cf (ae 18) "glyph" [(ae 89)]) .NotEq (ao (.int 0)))]) [bo (ae 53) "code" (ae 89)] [bo (ae 53) "mask" (ch .BitOr (aD (ae 53) "mask") (ae 81))]]
noncomputable def IQ(cf:CF):List (PM MF):=[fJ (B4 (ej (aD (ae 14) "is_backward"))) [ET] [],bN 118 (aK cf 1103 []),eY (gu 53) (aD (ae 14) "row") (CD cf)]
theorem JV:bU 1118 [14,18,81] [(.int 0)] IQ:=⟨(bV 182 none [(.int 0)]),by kernel_rfl,fun cf args H=>by kernel_rfl⟩
noncomputable def IP(cf:CF):List (PM MF):=[bM (jB [((ao (.str "beng")),(ao (.str "bng2"))),((ao (.str "deva")),(ao (.str "dev2"))),((ao (.str "gujr")),(ao (.str "gjr2"))),((ao (.str "guru")),(ao (.str "gur2"))),((ao (.str "knda")),(ao (.str "knd2"))),((ao (.str "mlym")),(ao (.str "mlm2"))),((ao (.str "mymr")),(ao (.str "mym2"))),((ao (.str "orya")),(ao (.str "ory2"))),((ao (.str "taml")),(ao (.str "tml2"))),((ao (.str "telu")),(ao (.str "tel2")))])]
theorem JU:bU 1274 [] [] IP:=⟨(bV 214 none []),by kernel_rfl,fun cf args H=>by kernel_rfl⟩
noncomputable def IO(cf:CF):List (PM MF):=[bN 85 (dX cf (aK cf 1274 []) "get" [(ae 120)]),bM (pO (cp (ae 85) .Is (ao .none)) (fA [(ae 120)]) (fA [(ae 85),(ae 120)]))]
theorem JT:bU 1281 [120] [] IO:=⟨(bV 215 none []),by kernel_rfl,fun cf args H=>by kernel_rfl⟩
noncomputable def CC(cf:CF):List (PM MF):=[fJ (cp (ae 120) .In (aD (ae 71) "scripts")) [bM (bx (aD (ae 71) "scripts") (ae 120))] []]
noncomputable def IN(cf:CF):List (PM MF):=[eY (gu 120) (ch .Add (bl (.type "list") [(ae 121)]) (bl (.type "list") [(nF (.tup [(.str "DFLT"),(.str "dflt"),(.str "latn")]))])) (CC cf),bM (ao .none)]
theorem JS:bU 1288 [71,121] [] IN:=⟨(bV 216 none []),by kernel_rfl,fun cf args H=>by kernel_rfl⟩
noncomputable def IM(cf:CF):List (PM MF):=[fJ (cp (ae 102) .Is (ao .none)) [bM (ao .none)] [],bM (dX cf (aD (ae 102) "languages") "get" [(ae 120),(aD (ae 102) "default")])]
theorem JR:bU 1295 [102,120] [] IM:=⟨(bV 217 none []),by kernel_rfl,fun cf args H=>by kernel_rfl⟩
noncomputable def IL(cf:CF):List (PM MF):=[fJ (sf (ao (.int 0)) .LtE (ae 87) .Lt (bl (.builtin "len") [(aD (ae 71) "features")])) [bM (bx (aD (ae 71) "features") (ae 87))] [],bM (ao .none)]
theorem A3:bU 1302 [71,87] [] IL:=⟨(bV 218 none []),by kernel_rfl,fun cf args H=>by kernel_rfl⟩
noncomputable def IK(cf:CF):List (PM MF):=[fJ (cp (ae 67) .Is (ao .none)) [bM (ao .none)] [],bM (aK cf 1302 [(ae 71),(aD (ae 67) "required")])]
theorem JQ:bU 1309 [71,67] [] IK:=⟨(bV 219 none []),by kernel_rfl,fun cf args H=>by kernel_rfl⟩
noncomputable def CB(cf:CF):List (PM MF):=[bN 32 (aK cf 1302 [(ae 71),(ae 87)]),fJ (eF [(cp (ae 32) .IsNot (ao .none)),(cp (aD (ae 32) "tag") .Eq (ae 120))]) [dP (dX cf (ae 42) "append" [(ae 87)])] []]
noncomputable def IJ(cf:CF):List (PM MF):=[bN 42 (fA []),fJ (cp (ae 67) .IsNot (ao .none)) [eY (gu 87) (aD (ae 67) "features") (CB cf)] [],bM (ae 42)]
theorem JP:bU 1316 [71,67,120] [] IJ:=⟨(bV 220 none []),by kernel_rfl,fun cf args H=>by kernel_rfl⟩
noncomputable def CA(cf:CF):List (PM MF):=[fJ (cp (ae 87) .Lt (bl (.builtin "len") [(aD (ae 71) "lookups")])) [lD (ae 82) (ae 87) (ch .BitOr (dX cf (ae 82) "get" [(ae 87),(ao (.int 0))]) (ae 81))] []]
noncomputable def II(cf:CF):List (PM MF):=[eY (gu 87) (aD (ae 32) "lookups") (CA cf)]
theorem JO:bU 1323 [82,71,32,81] [] II:=⟨(bV 221 none []),by kernel_rfl,fun cf args H=>by kernel_rfl⟩
noncomputable def Cz(cf:CF):List (PM MF):=[dP (aK cf 1323 [(ae 82),(ae 71),(bx (aD (ae 71) "features") (ae 87)),(bx (ae 131) (ae 120))])]
noncomputable def Cy(cf:CF):List (PM MF):=[fJ (cp (bx (ae 131) (ae 120)) .NotEq (ao (.int 0))) [eY (gu 87) (aK cf 1316 [(ae 71),(ae 67),(ae 120)]) (Cz cf)] []]
noncomputable def AS(cf:CF):List (PM MF):=[bN 82 (jB []),bN 97 (pO (ej (ae 59)) (aK cf 1309 [(ae 71),(ae 67)]) (ao .none)),fJ (cp (ae 97) .IsNot (ao .none)) [dP (aK cf 1323 [(ae 82),(ae 71),(ae 97),(nF (.int 1))])] [],eY (gu 120) (bl (.builtin "sorted") [(ae 131)]) (Cy cf),bM (hZ [(0,.local),(87,.local),(82,.free)] (bl (.builtin "sorted") [(ae 82)]) (fun v=>dZ v (gu 87) (eF []) (fg (bJ [(ae 87),(bx (ae 82) (ae 87))]))))]
theorem JN:bU 1329 [71,67,131,59] [(.bool true)] AS:=⟨(bV 222 none [(.bool true)]),by kernel_rfl,fun cf args H=>by kernel_rfl⟩
noncomputable def IH(cf:CF):List (PM MF):=[bo (ae 106) "tag" (ae 120),bo (ae 106) "value" (ae 125),bo (ae 106) "begin" (ae 12),bo (ae 106) "end" (ae 31)]
theorem JM:bU 1354 [106,120,125,12,31] [(.int 1),(.int 0),(.int (-1))] IH:=⟨(bV 230 (some 0) [(.int 1),(.int 0),(.int (-1))]),by kernel_rfl,fun cf args H=>by kernel_rfl⟩
noncomputable def IG(cf:CF):List (PM MF):=[bM (nG [(dR (aD (ae 106) "begin") .Eq (ao (.int 0))),(dR (aD (ae 106) "end") .Eq (zb .USub (ao (.int 1))))])]
theorem JL:bU 1361 [106] [] IG:=⟨(bV 230 (some 1) []),by kernel_rfl,fun cf args H=>by kernel_rfl⟩
noncomputable def IF(cf:CF):List (PM MF):=[bo (ae 106) "script" (ae 102),bo (ae 106) "language" (ae 68),bo (ae 106) "is_backward" (ae 57),bo (ae 106) "masks" (ae 82),bo (ae 106) "defaults" (ae 25),bo (ae 106) "stages" (ae 114),bo (ae 106) "positions" (ae 95),bo (ae 106) "has_kern" (ae 51)]
theorem JK:bU 1383 [106,102,68,57,82,114,95,51,25] [(.int 1)] IF:=⟨(bV 231 (some 0) [(.int 1)]),by kernel_rfl,fun cf args H=>by kernel_rfl⟩
noncomputable def IE(cf:CF):List (PM MF):=[fJ (cp (bl (.builtin "len") [(aD (ae 130) "tag")]) .NotEq (ao (.int 4))) [EU] [],fJ (B4 (sf (ao (.int 0)) .LtE (aD (ae 130) "value") .LtE (nF (.int 255)))) [EU] []]
theorem JJ:bU 1402 [130] [] IE:=⟨(bV 232 none []),by kernel_rfl,fun cf args H=>by kernel_rfl⟩
noncomputable def ID(cf:CF):List (PM MF):=[bo (ae 106) "value" (ae 125),bo (ae 106) "most" (ae 84),bo (ae 106) "has_own" (ae 61),bo (ae 106) "is_set" (ae 61)]
theorem A2:bU 1417 [106,125,84,61] [(.bool false)] ID:=⟨(bV 233 (some 0) [(.bool false)]),by kernel_rfl,fun cf args H=>by kernel_rfl⟩
noncomputable def Cw(cf:CF):List (PM MF):=[lD (ae 42) (ae 120) (cM cf 1420 [(ao (.int 0)),(ao (.int 1)),(ao (.bool true))])]
noncomputable def Cv(cf:CF):List (PM MF):=[lD (ae 42) (ae 120) (cM cf 1420 [(ao (.int 1)),(ao (.int 1))])]
noncomputable def IC(cf:CF):List (PM MF):=[bN 42 (jB []),eY (gu 120) (ch .Add (nF (.tup [(.str "abvm"),(.str "blwm"),(.str "ccmp"),(.str "locl"),(.str "mark"),(.str "mkmk"),(.str "rlig"),(.str "calt"),(.str "clig"),(.str "curs"),(.str "dist"),(.str "kern"),(.str "liga"),(.str "rclt")])) (pO (ej (ae 57)) (nF (.tup [(.str "rtla")])) (nF (.tup [(.str "ltra"),(.str "ltrm")])))) (Cv cf),fJ (ej (ae 57)) [lD (ae 42) (ao (.str "rtlm")) (cM cf 1420 [(ao (.int 0)),(ao (.int 1)),(ao (.bool true))])] [],fJ (ej (aK cf 1006 [(ae 102)])) [eY (gu 120) (nF (.tup [(.str "isol"),(.str "fina"),(.str "medi"),(.str "init")])) (Cw cf)] [],bM (ae 42)]
theorem JI:bU 1431 [102,57] [] IC:=⟨(bV 234 none []),by kernel_rfl,fun cf args H=>by kernel_rfl⟩
noncomputable def uF(cf:CF):List (PM MF):=[dP (aK cf 1402 [(ae 130)]),fJ (cp (aD (ae 130) "tag") .NotIn (ae 42)) [lD (ae 42) (aD (ae 130) "tag") (cM cf 1420 [(ao (.int 0)),(ao (.int 0))])] [],bN 127 (bx (ae 42) (aD (ae 130) "tag")),fJ (eF [(ej (dX cf (ae 130) "is_whole" [])),(B4 (ej (aD (ae 127) "is_set")))]) [bo (ae 127) "value" (aD (ae 130) "value")] [bo (ae 127) "has_own" (ao (.bool true))],bo (ae 127) "most" (bl (.builtin "max") [(aD (ae 127) "most"),(aD (ae 130) "value")])]
noncomputable def IB(cf:CF):List (PM MF):=[bN 42 (aK cf 1431 [(ae 102),(ae 57)]),eY (gu 130) (ae 131) (uF cf),bM (ae 42)]
theorem JH:bU 1438 [102,57,131] [] IB:=⟨(bV 235 none []),by kernel_rfl,fun cf args H=>by kernel_rfl⟩
noncomputable def Cu(cf:CF):List (PM MF):=[bN 127 (bx (ae 129) (ae 120)),fJ (eF [(B4 (ej (aD (ae 127) "has_own"))),(cp (aD (ae 127) "value") .Eq (ao (.int 1)))]) [lD (ae 82) (ae 120) (bJ [(ao (.int 0)),(ao (.int 1))])] [fJ (Hp [(ej (aD (ae 127) "has_own")),(cp (aD (ae 127) "value") .Gt (ao (.int 1)))]) [bN 84 (pO (ej (aD (ae 127) "has_own")) (aD (ae 127) "most") (aD (ae 127) "value")),bN 13 (bl (.builtin "max") [(ao (.int 1)),(dX cf (ae 84) "bit_length" [])]),lD (ae 82) (ae 120) (bJ [(ae 110),(ae 13)]),bN 25 (ch .BitOr (ae 25) (ch .LShift (aD (ae 127) "value") (ae 110))),bN 110 (ch .Add (ae 110) (ae 13))] []]]
noncomputable def IA(cf:CF):List (PM MF):=[bN 82 (jB []),bN 25 (ao (.int 1)),bN 110 (ao (.int 1)),eY (gu 120) (bl (.builtin "sorted") [(ae 121)]) (Cu cf),fJ (cp (ae 110) .Gt (nF (.int 31))) [EU] [],bM (bJ [(ae 82),(ae 25)])]
theorem JG:bU 1445 [129,121] [] IA:=⟨(bV 236 none []),by kernel_rfl,fun cf args H=>by kernel_rfl⟩
noncomputable def Iz(cf:CF):List (PM MF):=[fJ (cp (ae 120) .NotIn (ae 82)) [bM (ao (.int 0))] [],ES (nZ 110 13) (bx (ae 82) (ae 120)),bM (ch .LShift (ch .Sub (ch .LShift (ao (.int 1)) (ae 13)) (ao (.int 1))) (ae 110))]
theorem A0:bU 1452 [82,120] [] Iz:=⟨(bV 237 none []),by kernel_rfl,fun cf args H=>by kernel_rfl⟩
noncomputable def Iy(cf:CF):List (PM MF):=[fJ (cp (ae 71) .Is (ao .none)) [bM (ao .none)] [],bM (aK cf 1295 [(aK cf 1288 [(ae 71),(aK cf 1281 [(ae 102)])]),(ae 68)])]
theorem AZ:bU 1459 [71,102,68] [] Iy:=⟨(bV 238 none []),by kernel_rfl,fun cf args H=>by kernel_rfl⟩
noncomputable def Ix(cf:CF):List (PM MF):=[bM (nG [(dR (ae 67) .IsNot (ao .none)),(dR (aK cf 1316 [(ae 71),(ae 67),(ae 120)]) .NotEq (fA []))])]
theorem AY:bU 1466 [71,67,120] [] Ix:=⟨(bV 239 none []),by kernel_rfl,fun cf args H=>by kernel_rfl⟩
noncomputable def Ct(cf:CF):List (PM MF):=[fJ (cp (ae 120) .In (ae 82)) [lD (ae 131) (ae 120) (aK cf 1452 [(ae 82),(ae 120)])] []]
noncomputable def Iw(cf:CF):List (PM MF):=[fJ (cp (ae 67) .Is (ao .none)) [bM (fA [])] [],bN 131 (jB []),eY (gu 120) (ae 121) (Ct cf),bM (aK cf 1329 [(ae 71),(ae 67),(ae 131),(ae 59)])]
theorem AX:bU 1473 [71,67,82,121,59] [] Iw:=⟨(bV 240 none []),by kernel_rfl,fun cf args H=>by kernel_rfl⟩
noncomputable def Iv(cf:CF):List (PM MF):=[fJ (B4 (ej (aK cf 1006 [(ae 102)]))) [bM (fA [(bl (.type "list") [(ae 121)])])] [],q0 42 (pT [(0,.local),(113,.local),(121,.free)] (nF (.tup [(.tup [(.str "ccmp"),(.str "locl"),(.str "ltra"),(.str "ltrm"),(.str "rtla"),(.str "rtlm")]),(.tup [(.str "isol")]),(.tup [(.str "fina")]),(.tup [(.str "medi")]),(.tup [(.str "init")]),(.tup [(.str "rlig")])])) (fun v=>dZ v (gu 113) (eF []) (fg (hZ [(0,.local),(120,.local),(121,.free)] (ae 113) (fun v=>dZ v (gu 120) (eF [(cp (ae 120) .In (ae 121))]) (fg (ae 120))))))),q0 30 (pT [(0,.local),(113,.local),(120,.local)] (nF (.tup [(.tup [(.str "ccmp"),(.str "locl"),(.str "ltra"),(.str "ltrm"),(.str "rtla"),(.str "rtlm")]),(.tup [(.str "isol")]),(.tup [(.str "fina")]),(.tup [(.str "medi")]),(.tup [(.str "init")]),(.tup [(.str "rlig")])])) (fun v=>dZ v (gu 113) (eF []) (bF (ae 113) fun v=>dZ v (gu 120) (eF []) (fg (ae 120))))),bM (ch .Add (ae 42) (fA [(hZ [(0,.local),(120,.local),(30,.free)] (ae 121) (fun v=>dZ v (gu 120) (eF [(cp (ae 120) .NotIn (ae 30))]) (fg (ae 120))))]))]
theorem JF:bU 1478 [102,121] [] Iv:=⟨(bV 241 none []),by kernel_rfl,fun cf args H=>by kernel_rfl⟩
noncomputable def Iu(cf:CF):List (PM MF):=[bN 32 (pO (cp (ae 71) .Is (ao .none)) (ao .none) (aK cf 1309 [(ae 71),(ae 67)])),fJ (cp (ae 32) .Is (ao .none)) [bM (zb .USub (ao (.int 1)))] [],bM (dX cf (hZ [(0,.local),(113,.local),(73,.globalImplicit)] (aK cf 1478 [(ae 102),(fA [(aD (ae 32) "tag")])]) (fun v=>dZ v (gu 113) (eF []) (fg (bl (.builtin "len") [(ae 113)])))) "index" [(ao (.int 1))])]
theorem JE:bU 1483 [71,67,102] [] Iu:=⟨(bV 242 none []),by kernel_rfl,fun cf args H=>by kernel_rfl⟩
noncomputable def uE(cf:CF):List (PM MF):=[bN 58 (nG [(dR (ae 120) .Eq (ao (.str "kern"))),(dR (bl (.builtin "len") [(aD (ae 38) "kern")]) .Gt (ao (.int 0)))]),fJ (Hp [(ej (ae 58)),(ej (aK cf 1466 [(aD (ae 38) "gsub"),(ae 36),(ae 120)])),(ej (aK cf 1466 [(aD (ae 38) "gpos"),(ae 104),(ae 120)]))]) [dP (dX cf (ae 121) "append" [(ae 120)])] []]
noncomputable def AR(cf:CF):List (PM MF):=[bN 129 (aK cf 1438 [(ae 102),(ae 57),(ae 131)]),bN 36 (aK cf 1459 [(aD (ae 38) "gsub"),(ae 102),(ae 68)]),bN 104 (aK cf 1459 [(aD (ae 38) "gpos"),(ae 102),(ae 68)]),bN 121 (fA []),eY (gu 120) (bl (.builtin "sorted") [(ae 129)]) (uE cf),ES (nZ 82 25) (aK cf 1445 [(ae 129),(ae 121)]),bN 90 (aK cf 1478 [(ae 102),(ae 121)]),bN 97 (aK cf 1483 [(aD (ae 38) "gsub"),(ae 36),(ae 102)]),q0 114 (pT [(0,.local),(9,.local),(43,.globalImplicit),(36,.free),(38,.free),(82,.free),(90,.free),(97,.free)] (bl (.type "range") [(bl (.builtin "len") [(ae 90)])]) (fun v=>dZ v (gu 9) (eF []) (fg (aK cf 1473 [(aD (ae 38) "gsub"),(ae 36),(ae 82),(bx (ae 90) (ae 9)),(dR (ae 9) .Eq (ae 97))])))),bN 95 (aK cf 1473 [(aD (ae 38) "gpos"),(ae 104),(ae 82),(ae 121),(ao (.bool true))]),bN 51 (nG [(dR (ao (.str "kern")) .In (ae 82)),(dR (bl (.builtin "len") [(aD (ae 38) "kern")]) .Gt (ao (.int 0))),(zb .Not (aK cf 1466 [(aD (ae 38) "gpos"),(ae 104),(ao (.str "kern"))]))]),bM (cM cf 1391 [(ae 102),(ae 68),(ae 57),(ae 82),(ae 114),(ae 95),(ae 51),(ae 25)])]
theorem JD:bU 1488 [38,102,68,57,131] [] AR:=⟨(bV 243 none []),by kernel_rfl,fun cf args H=>by kernel_rfl⟩
noncomputable def Cs(cf:CF):List (PM MF):=[fJ (eF [(cp (aD (ae 53) "cluster") .GtE (aD (ae 130) "begin")),(Hp [(cp (aD (ae 130) "end") .Lt (ao (.int 0))),(cp (aD (ae 53) "cluster") .Lt (aD (ae 130) "end"))])]) [bN 98 (ch .BitAnd (aD (ae 53) "mask") (zb .Invert (aK cf 1452 [(aD (ae 92) "masks"),(aD (ae 130) "tag")]))),bo (ae 53) "mask" (ch .BitOr (ae 98) (ch .LShift (aD (ae 130) "value") (ae 110)))] []]
noncomputable def Cr(cf:CF):List (PM MF):=[fJ (eF [(cp (aD (ae 130) "tag") .In (aD (ae 92) "masks")),(B4 (ej (dX cf (ae 130) "is_whole" [])))]) [ES (nZ 110 13) (bx (aD (ae 92) "masks") (aD (ae 130) "tag")),eY (gu 53) (aD (ae 14) "row") (Cs cf)] []]
noncomputable def Cq(cf:CF):List (PM MF):=[bo (ae 53) "mask" (ch .BitOr (aD (ae 53) "mask") (aD (ae 92) "defaults"))]
noncomputable def It(cf:CF):List (PM MF):=[eY (gu 53) (aD (ae 14) "row") (Cq cf),eY (gu 130) (ae 131) (Cr cf)]
theorem JC:bU 1495 [14,92,131] [] It:=⟨(bV 244 none []),by kernel_rfl,fun cf args H=>by kernel_rfl⟩
noncomputable def Ir(cf:CF):List (PM MF):=[bo (ae 106) "rows" (ae 100),bo (ae 106) "is_backward" (ae 57)]
theorem JB:bU 1602 [106,100,57] [] Ir:=⟨(bV 272 (some 0) []),by kernel_rfl,fun cf args H=>by kernel_rfl⟩
noncomputable def Iq(cf:CF):List (PM MF):=[ES (nZ 110 13) (dX cf (aD (ae 92) "masks") "get" [(ae 120),(bJ [(ao (.int 0)),(ao (.int 0))])]),bM (ch .LShift (ch .Sub (ch .LShift (ao (.int 1)) (ae 13)) (ao (.int 1))) (ae 110))]
theorem AW:bU 1623 [92,120] [] Iq:=⟨(bV 273 none []),by kernel_rfl,fun cf args H=>by kernel_rfl⟩
noncomputable def Ip(cf:CF):List (PM MF):=[dP (aK cf 884 [(ae 14)]),dP (aK cf 898 [(ae 14),(ae 18)]),fJ (cp (ae 86) .IsNot (ao .none)) [dP (cM cf 1224 [(ae 14),(ae 86),(ae 18)])] []]
theorem JA:bU 1630 [14,18,86] [] Ip:=⟨(bV 274 none []),by kernel_rfl,fun cf args H=>by kernel_rfl⟩
noncomputable def Io(cf:CF):List (PM MF):=[fJ (ej (aD (ae 92) "is_backward")) [dP (aK cf 1118 [(ae 14),(ae 18),(aK cf 1623 [(ae 92),(ao (.str "rtlm"))])])] [],fJ (cp (aD (ae 92) "script") .Eq (ao (.str "arab"))) [dP (aK cf 999 [(ae 14),(bl (.type "dict") [(hZ [(0,.local),(39,.local),(33,.globalImplicit),(92,.free)] (nF (.tup [(.str "isol"),(.str "init"),(.str "medi"),(.str "fina")])) (fun v=>dZ v (gu 39) (eF []) (fg (bJ [(ae 39),(aK cf 1623 [(ae 92),(ae 39)])]))))])])] [],fJ (cp (aD (ae 92) "script") .Eq (ao (.str "deva"))) [dP (cM cf 1587 [(ae 14)])] []]
theorem Jz:bU 1635 [14,18,92] [] Io:=⟨(bV 275 none []),by kernel_rfl,fun cf args H=>by kernel_rfl⟩
noncomputable def Cp(cf:CF):List (PM MF):=[fJ (cp (aD (ae 53) "glyph") .Eq (ao (.int 0))) [bo (ae 53) "glyph" (dX cf (ae 18) "glyph" [(aD (ae 53) "code")])] []]
noncomputable def Im(cf:CF):List (PM MF):=[eY (gu 53) (aD (ae 14) "row") (Cp cf)]
theorem Jy:bU 1642 [14,18] [] Im:=⟨(bV 276 none []),by kernel_rfl,fun cf args H=>by kernel_rfl⟩
noncomputable def Co(cf:CF):List (PM MF):=[dP (aK cf 849 [(ae 14),(aD (ae 38) "gdef"),(aD (aD (ae 38) "gsub") "lookups"),(ae 87),(ae 81)])]
noncomputable def Cn(cf:CF):List (PM MF):=[eY (nZ 87 81) (ae 113) (Co cf)]
noncomputable def Il(cf:CF):List (PM MF):=[eY (gu 113) (aD (ae 92) "stages") (Cn cf)]
theorem Jx:bU 1649 [14,38,92] [] Il:=⟨(bV 277 none []),by kernel_rfl,fun cf args H=>by kernel_rfl⟩
noncomputable def Cm(cf:CF):List (PM MF):=[fJ (cp (dX cf (aD (ae 38) "gdef") "glyph_class" [(aD (ae 53) "glyph")]) .NotEq (nF (.int 3))) [bo (ae 53) "x_advance" (aK cf 1076 [(aD (ae 38) "metrics"),(aD (ae 53) "glyph")])] []]
noncomputable def Ik(cf:CF):List (PM MF):=[eY (gu 53) (aD (ae 14) "row") (Cm cf)]
theorem Jw:bU 1656 [14,38] [] Ik:=⟨(bV 278 none []),by kernel_rfl,fun cf args H=>by kernel_rfl⟩
noncomputable def Cl(cf:CF):List (PM MF):=[dP (cM cf 708 [(ae 14),(aD (ae 38) "gdef"),(aD (aD (ae 38) "gpos") "lookups"),(ae 87),(ae 81)])]
noncomputable def Ij(cf:CF):List (PM MF):=[eY (nZ 87 81) (aD (ae 92) "positions") (Cl cf),fJ (ej (aD (ae 92) "has_kern")) [dP (cM cf 1034 [(ae 14),(aD (ae 38) "gdef"),(aD (ae 38) "kern"),(aK cf 1623 [(ae 92),(ao (.str "kern"))])])] [],dP (aK cf 506 [(ae 14)])]
theorem Jv:bU 1663 [14,38,92] [] Ij:=⟨(bV 279 none []),by kernel_rfl,fun cf args H=>by kernel_rfl⟩
noncomputable def Ii(cf:CF):List (PM MF):=[bM (hZ [(0,.local),(53,.local)] (aD (ae 14) "row") (fun v=>dZ v (gu 53) (eF []) (fg (ch .Add (dX cf (ae 53) "told" []) (bJ [(aD (ae 53) "is_unsafe")])))))]
theorem Ju:bU 1668 [14] [] Ii:=⟨(bV 280 none []),by kernel_rfl,fun cf args H=>by kernel_rfl⟩
noncomputable def Ih(cf:CF):List (PM MF):=[bN 14 (aK cf 106 [(ae 22),(aD (ae 92) "is_backward")]),dP (aK cf 1630 [(ae 14),(aD (ae 38) "charmap"),(ae 86)]),dP (aK cf 1495 [(ae 14),(ae 92),(ae 131)]),dP (aK cf 1635 [(ae 14),(aD (ae 38) "charmap"),(ae 92)]),dP (aK cf 1642 [(ae 14),(aD (ae 38) "charmap")]),dP (aK cf 1649 [(ae 14),(ae 38),(ae 92)]),dP (aK cf 1656 [(ae 14),(ae 38)]),dP (aK cf 1663 [(ae 14),(ae 38),(ae 92)]),dP (aK cf 919 [(ae 14),(dX cf (aD (ae 38) "charmap") "glyph" [(nF (.int 32))])]),dP (aK cf 159 [(ae 14)]),fJ (ej (aD (ae 92) "is_backward")) [dP (aK cf 154 [(ae 14)])] [],bM (cM cf 1612 [(aK cf 1668 [(ae 14)]),(aD (ae 92) "is_backward")])]
theorem Jt:bU 1675 [38,22,92,131,86] [] Ih:=⟨(bV 281 none []),by kernel_rfl,fun cf args H=>by kernel_rfl⟩
noncomputable def Ig(cf:CF):List (PM MF):=[bN 57 (aK cf 1110 [(ae 102)]),fJ (cp (ae 109) .Is (ao .none)) [bN 92 (aK cf 1488 [(ae 38),(ae 102),(ae 68),(ae 57),(ae 131)])] [bN 92 (dX cf (ae 109) "plan" [(ae 38),(ae 102),(ae 68),(ae 57),(ae 131)])],bM (aK cf 1675 [(ae 38),(ae 22),(ae 92),(ae 131),(ae 86)])]
theorem Js:bU 1684 [38,22,102,68,131,86,109] [(.str "DFLT"),(.str "dflt"),(.tup []),.none,.none] Ig:=⟨(bV 282 none [(.str "DFLT"),(.str "dflt"),(.tup []),.none,.none]),by kernel_rfl,fun cf args H=>by kernel_rfl⟩
noncomputable def Ie(cf:CF):List (PM MF):=[bo (ae 106) "codes" (Sy 22),bo (ae 106) "variations" (ae 126)]
theorem Jr:bU 1704 [106,22,126] [.none] Ie:=⟨(bV 286 (some 0) [.none]),by kernel_rfl,fun cf args H=>by kernel_rfl⟩
noncomputable def Id(cf:CF):List (PM MF):=[bM (dX cf (aD (ae 106) "codes") "get" [(ae 21),(ao (.int 0))])]
theorem Jq:bU 1711 [106,21] [] Id:=⟨(bV 286 (some 1) []),by kernel_rfl,fun cf args H=>by kernel_rfl⟩
noncomputable def Ic(cf:CF):List (PM MF):=[bo (ae 106) "charmap" (ae 18),bo (ae 106) "metrics" (ae 83),bo (ae 106) "gdef" (ae 44),bo (ae 106) "gsub" (ae 48),bo (ae 106) "gpos" (ae 46),bo (ae 106) "kern" (ae 64)]
theorem Jp:bU 1744 [106,18,83,44,48,46,64] [] Ic:=⟨(bV 288 (some 0) []),by kernel_rfl,fun cf args H=>by kernel_rfl⟩
noncomputable def Ib(cf:CF):List (PM MF):=[bo (ae 106) "classes" (ae 19)]
theorem Jo:bU 1785 [106,19] [] Ib:=⟨(bV 291 (some 0) []),by kernel_rfl,fun cf args H=>by kernel_rfl⟩
noncomputable def Ia(cf:CF):List (PM MF):=[bM (dX cf (aD (ae 106) "classes") "get" [(ae 45),(ao (.int 0))])]
theorem Jn:bU 1792 [106,45] [] Ia:=⟨(bV 291 (some 1) []),by kernel_rfl,fun cf args H=>by kernel_rfl⟩
noncomputable def HZ(cf:CF):List (PM MF):=[bo (ae 106) "classes" (ae 19),bo (ae 106) "attach" (ae 10),bo (ae 106) "sets" (ae 107),bo (ae 106) "points" (pO (cp (ae 93) .Is (ao .none)) (jB []) (ae 93)),bo (ae 106) "carets" (pO (cp (ae 15) .Is (ao .none)) (jB []) (ae 15))]
theorem Jm:bU 1833 [106,19,10,107,93,15] [.none,.none] HZ:=⟨(bV 296 (some 0) [.none,.none]),by kernel_rfl,fun cf args H=>by kernel_rfl⟩
noncomputable def HY(cf:CF):List (PM MF):=[bN 87 (dX cf (aD (ae 106) "classes") "class_of" [(ae 45)]),bM (pO (sf (nF (.int 1)) .LtE (ae 87) .LtE (nF (.int 4))) (ae 87) (nF (.int 0)))]
theorem Jl:bU 1840 [106,45] [] HY:=⟨(bV 296 (some 1) []),by kernel_rfl,fun cf args H=>by kernel_rfl⟩
noncomputable def HX(cf:CF):List (PM MF):=[bM (cM cf 1862 [(cM cf 1814 [(jB [])]),(cM cf 1814 [(jB [])]),(fA [])])]
theorem Jk:bU 1873 [] [] HX:=⟨(bV 297 none []),by kernel_rfl,fun cf args H=>by kernel_rfl⟩
noncomputable def HW(cf:CF):List (PM MF):=[bo (ae 106) "required" (ae 97),bo (ae 106) "features" (bl (.type "list") [(ae 34)])]
theorem Jj:bU 1887 [106,97,34] [] HW:=⟨(bV 299 (some 0) []),by kernel_rfl,fun cf args H=>by kernel_rfl⟩
noncomputable def HV(cf:CF):List (PM MF):=[bo (ae 106) "tag" (ae 120),bo (ae 106) "default" (ae 24),bo (ae 106) "languages" (ae 69)]
theorem Ji:bU 1915 [106,120,24,69] [] HV:=⟨(bV 300 (some 0) []),by kernel_rfl,fun cf args H=>by kernel_rfl⟩
noncomputable def HU(cf:CF):List (PM MF):=[bo (ae 106) "tag" (ae 120),bo (ae 106) "lookups" (bl (.type "list") [(ae 77)])]
theorem Jh:bU 1941 [106,120,77] [] HU:=⟨(bV 301 (some 0) []),by kernel_rfl,fun cf args H=>by kernel_rfl⟩
noncomputable def HT(cf:CF):List (PM MF):=[bo (ae 106) "scripts" (ae 103),bo (ae 106) "features" (ae 34),bo (ae 106) "lookups" (ae 77)]
theorem Jg:bU 1969 [106,103,34,77] [] HT:=⟨(bV 302 (some 0) []),by kernel_rfl,fun cf args H=>by kernel_rfl⟩
noncomputable def HS(cf:CF):List (PM MF):=[bM (jB [((ao (.str "ccmp")),(ao (.int 0))),((ao (.str "rtla")),(ao (.int 0))),((ao (.str "isol")),(ao (.int 1))),((ao (.str "fina")),(ao (.int 2))),((ao (.str "medi")),(ao (.int 3))),((ao (.str "init")),(ao (.int 4))),((ao (.str "rlig")),(ao (.int 5)))])]
theorem Jf:bU 1997 [] [] HS:=⟨(bV 306 none []),by kernel_rfl,fun cf args H=>by kernel_rfl⟩
noncomputable def uD(cf:CF):List (PM MF):=[bN 115 (ch .Mod (ch .Add (ch .Add (ch .Mult (ae 115) (ao (.int 48271))) (ch .Mod (ae 16) (ao (.int 2147483647)))) (ao (.int 11))) (ao (.int 2147483647)))]
noncomputable def HQ(cf:CF):List (PM MF):=[q0 17 (pT [(0,.local),(16,.local),(55,.globalImplicit)] (DV (ae 102) (ao (.int 40))) (fun v=>dZ v (gu 16) (eF []) (fg (bl (.type "int") [(ae 16)])))),bN 47 (ao (.int 0)),fJ (eF [(ej (ae 17)),(cp (bl (.builtin "abs") [(bx (ae 17) (ao (.int 0)))]) .GtE (ch .Pow (ao (.int 10)) (ao (.int 15))))]) [bN 47 (ch .Mod (ch .FloorDiv (bl (.builtin "abs") [(bx (ae 17) (ao (.int 0)))]) (ao (.int 2))) (ch .Pow (ao (.int 10)) (ao (.int 200))))] [],bN 115 (ao (.int 7)),eY (gu 16) (ae 17) (uD cf),bM (fA [(ae 17),(ae 47),(ae 115),(ao (.int 0))])]
theorem Je:bU 2002 [102] [] HQ:=⟨(bV 307 none []),by kernel_rfl,fun cf args H=>by kernel_rfl⟩
noncomputable def HP(cf:CF):List (PM MF):=[bN 91 (bx (ae 94) (ao (.int 3))),lD (ae 94) (ao (.int 3)) (ch .Add (ae 91) (ao (.int 1))),fJ (cp (bx (ae 94) (ao (.int 1))) .Gt (ao (.int 0))) [bN 28 (ch .Mod (bx (ae 94) (ao (.int 1))) (ae 84)),lD (ae 94) (ao (.int 1)) (ch .FloorDiv (bx (ae 94) (ao (.int 1))) (ae 84)),bM (ae 28)] [],lD (ae 94) (ao (.int 2)) (ch .Mod (ch .Add (ch .Add (ch .Mult (bx (ae 94) (ao (.int 2))) (ao (.int 16807))) (ch .Mult (ae 91) (ae 91))) (ao (.int 5))) (ao (.int 2147483647))),fJ (cp (ae 91) .Lt (bl (.builtin "len") [(bx (ae 94) (ao (.int 0)))])) [bM (ch .Mod (bx (bx (ae 94) (ao (.int 0))) (ae 91)) (ae 84))] [],bM (ch .Mod (ch .FloorDiv (bx (ae 94) (ao (.int 2))) (ao (.int 5))) (ae 84))]
theorem Jd:bU 2009 [94,84] [] HP:=⟨(bV 308 none []),by kernel_rfl,fun cf args H=>by kernel_rfl⟩
noncomputable def Ck(cf:CF):List (PM MF):=[bN 9 (bx (ae 105) (ae 91)),fJ (cp (bx (ae 123) (ae 9)) .NotEq (ao (.str "U"))) [bN 49 (nG [(dR (ae 91) .Gt (ao (.int 0))),(dR (bx (ae 123) (bx (ae 105) (ch .Sub (ae 91) (ao (.int 1))))) .In (bJ [(ao (.str "D")),(ao (.str "C"))]))]),bN 50 (nG [(dR (bx (ae 123) (ae 9)) .NotEq (ao (.str "R"))),(dR (ch .Add (ae 91) (ao (.int 1))) .Lt (bl (.builtin "len") [(ae 105)])),(dR (bx (ae 123) (bx (ae 105) (ch .Add (ae 91) (ao (.int 1))))) .NotEq (ao (.str "U")))]),lD (ae 42) (ae 9) (pO (ej (ae 49)) (pO (ej (ae 50)) (ao (.str "medi")) (ao (.str "fina"))) (pO (ej (ae 50)) (ao (.str "init")) (ao (.str "isol"))))] []]
noncomputable def HO(cf:CF):List (PM MF):=[q0 105 (pT [(0,.local),(9,.local),(123,.free)] (bl (.type "range") [(bl (.builtin "len") [(ae 123)])]) (fun v=>dZ v (gu 9) (eF [(cp (bx (ae 123) (ae 9)) .NotEq (ao (.str "T")))]) (fg (ae 9)))),q0 42 (pT [(0,.local),(111,.local)] (ae 123) (fun v=>dZ v (gu 111) (eF []) (fg (ao (.str ""))))),eY (gu 91) (bl (.type "range") [(bl (.builtin "len") [(ae 105)])]) (Ck cf),bM (ae 42)]
theorem Jc:bU 2014 [123] [] HO:=⟨(bV 309 none []),by kernel_rfl,fun cf args H=>by kernel_rfl⟩
noncomputable def HN(cf:CF):List (PM MF):=[bN 56 (nG [(dR (ae 130) .IsNot (ao .none)),(dR (bx (ae 130) (ao (.int 0))) .Eq (ae 120)),(dR (bx (ae 130) (ao (.int 2))) .LtE (ae 20)),(Hm [(dR (bx (ae 130) (ao (.int 3))) .Lt (ao (.int 0))),(dR (ae 20) .Lt (bx (ae 130) (ao (.int 3))))])]),fJ (eF [(cp (ae 120) .In (bJ [(ao (.str "init")),(ao (.str "medi")),(ao (.str "fina")),(ao (.str "isol"))])),(cp (ae 102) .Eq (ao (.str "arab")))]) [bM (Hm [(dR (ae 120) .Eq (ae 39)),(nG [(ae 56),(dR (bx (ae 130) (ao (.int 1))) .Gt (ao (.int 0))),(Hm [(dR (bx (ae 130) (ao (.int 2))) .Gt (ao (.int 0))),(dR (bx (ae 130) (ao (.int 3))) .GtE (ao (.int 0)))])])])] [],fJ (ej (ae 56)) [bM (dR (bx (ae 130) (ao (.int 1))) .Gt (ao (.int 0)))] [],fJ (cp (ae 120) .Eq (ao (.str "rtla"))) [bM (dR (ae 102) .Eq (ao (.str "arab")))] [],bM (dR (ae 120) .In (bJ [(ao (.str "rlig")),(ao (.str "liga")),(ao (.str "ccmp")),(ao (.str "calt"))]))]
theorem Jb:bU 2021 [120,102,39,20,130] [] HN:=⟨(bV 310 none []),by kernel_rfl,fun cf args H=>by kernel_rfl⟩
noncomputable def uC(cf:CF):List (PM MF):=[ES (nZ 120 77) (bx (ae 34) (ae 91)),fJ (eF [(cp (ae 87) .In (ae 77)),(Hp [(cp (ae 102) .NotEq (ao (.str "arab"))),(cp (dX cf (aK cf 1997 []) "get" [(ae 120),(ao (.int 6))]) .Eq (ae 113))])]) [fJ (Hp [(cp (ae 91) .Eq (ae 97)),(ej (aK cf 2021 [(ae 120),(ae 102),(ae 39),(ae 20),(ae 130)]))]) [bN 60 (ao (.bool true))] []] []]
noncomputable def uB(cf:CF):List (PM MF):=[bN 60 (ao (.bool false)),eY (gu 91) (bl (.type "range") [(bl (.builtin "len") [(ae 34)])]) (uC cf),fJ (ej (ae 60)) [bN 45 (dX cf (bx (ae 79) (ae 87)) "get" [(ae 45),(ae 45)])] []]
noncomputable def uA(cf:CF):List (PM MF):=[eY (gu 87) (bl (.type "range") [(bl (.builtin "len") [(ae 79)])]) (uB cf)]
noncomputable def HM(cf:CF):List (PM MF):=[eY (gu 113) (bl (.type "range") [(pO (cp (ae 102) .Eq (ao (.str "arab"))) (ao (.int 7)) (ao (.int 1)))]) (uA cf),bM (ae 45)]
theorem Ja:bU 2028 [45,34,97,79,102,39,20,130] [] HM:=⟨(bV 311 none []),by kernel_rfl,fun cf args H=>by kernel_rfl⟩
noncomputable def Cj(cf:CF):List (PM MF):=[bN 45 (aK cf 2028 [(ch .Add (ao (.int 1)) (bx (ae 74) (ae 9))),(ae 34),(ae 97),(ae 79),(ae 120),(bx (ae 41) (ae 9)),(ae 9),(ae 130)]),dP (dX cf (ae 29) "append" [(bJ [(ae 45),(ae 9),(ch .Add (ao (.int 100)) (ch .Mult (ao (.int 3)) (ae 45))),(ao (.int 0)),(ao (.int 0)),(ao (.int 0))])])]
noncomputable def Ci(cf:CF):List (PM MF):=[bN 116 (ch .Add (ao (.int 7)) (aK cf 2009 [(ae 94),(ao (.int 12))])),bN 35 (ch .Add (ao (.int 1)) (aK cf 2009 [(ae 94),(ao (.int 4))])),dP (dX cf (ae 79) "append" [(bl (.type "dict") [(hZ [(0,.local),(45,.local),(35,.free),(116,.free)] (bl (.type "range") [(ao (.int 1)),(ao (.int 40))]) (fun v=>dZ v (gu 45) (eF [(cp (ch .Mod (ae 45) (ae 35)) .Eq (ao (.int 0)))]) (fg (bJ [(ae 45),(ch .Mod (ch .Add (ae 45) (ae 116)) (ao (.int 40)))]))))])])]
noncomputable def Ch(cf:CF):List (PM MF):=[bN 111 (bx (nF (.tup [(.str "rlig"),(.str "init"),(.str "liga"),(.str "fina"),(.str "ccmp"),(.str "salt"),(.str "medi"),(.str "isol"),(.str "calt"),(.str "rtla")])) (aK cf 2009 [(ae 94),(ao (.int 10))])),dP (dX cf (ae 34) "append" [(bJ [(ae 111),(bl (.builtin "sorted") [(hZ [(0,.local),(91,.local),(6,.globalImplicit),(94,.free)] (bl (.type "range") [(ch .Add (ao (.int 1)) (aK cf 2009 [(ae 94),(ao (.int 2))]))]) (fun v=>dZ v (gu 91) (eF []) (fg (aK cf 2009 [(ae 94),(ao (.int 6))]))))])])])]
noncomputable def AQ(cf:CF):List (PM MF):=[bN 94 (aK cf 2002 [(ae 102)]),bN 120 (bx (fA [(ao (.str "arab")),(ao (.str "latn"))]) (aK cf 2009 [(ae 94),(ao (.int 2))])),bN 34 (fA []),eY (gu 122) (bl (.type "range") [(ch .Add (ao (.int 1)) (aK cf 2009 [(ae 94),(ao (.int 5))]))]) (Ch cf),bN 79 (fA []),eY (gu 122) (bl (.type "range") [(ch .Add (ao (.int 1)) (aK cf 2009 [(ae 94),(ao (.int 6))]))]) (Ci cf),q0 34 (pT [(0,.local),(111,.local),(77,.local),(79,.free)] (ae 34) (fun v=>dZ v (nZ 111 77) (eF []) (fg (bJ [(ae 111),(hZ [(0,.local),(87,.local),(73,.globalImplicit),(79,.free)] (ae 77) (fun v=>dZ v (gu 87) (eF [(cp (ae 87) .Lt (bl (.builtin "len") [(ae 79)]))]) (fg (ae 87))))])))),bN 97 (ch .Sub (aK cf 2009 [(ae 94),(ch .Add (bl (.builtin "len") [(ae 34)]) (ao (.int 3)))]) (ao (.int 3))),bN 130 (ao .none),fJ (cp (aK cf 2009 [(ae 94),(ao (.int 3))]) .Eq (ao (.int 1))) [bN 12 (aK cf 2009 [(ae 94),(ao (.int 4))]),bN 31 (pO (cp (aK cf 2009 [(ae 94),(ao (.int 2))]) .Eq (ao (.int 0))) (zb .USub (ao (.int 1))) (ch .Add (ch .Add (ae 12) (ao (.int 1))) (aK cf 2009 [(ae 94),(ao (.int 3))]))),bN 130 (bJ [(bx (nF (.tup [(.str "rlig"),(.str "init"),(.str "liga"),(.str "fina"),(.str "ccmp"),(.str "salt"),(.str "medi"),(.str "isol"),(.str "calt"),(.str "rtla")])) (aK cf 2009 [(ae 94),(ao (.int 10))])),(aK cf 2009 [(ae 94),(ao (.int 2))]),(ae 12),(ae 31)])] [],q0 74 (pT [(0,.local),(91,.local),(6,.globalImplicit),(94,.free)] (bl (.type "range") [(ch .Add (ao (.int 1)) (aK cf 2009 [(ae 94),(ao (.int 7))]))]) (fun v=>dZ v (gu 91) (eF []) (fg (aK cf 2009 [(ae 94),(ao (.int 7))])))),bN 66 (bl (.type "dict") [(hZ [(0,.local),(91,.local),(5,.globalImplicit)] (bl (.type "range") [(ao (.int 7))]) (fun v=>dZ v (gu 91) (eF []) (fg (bJ [(bx (bx (nF (.tup [(.tup [(.int 1576),(.str "D")]),(.tup [(.int 1575),(.str "R")]),(.tup [(.int 1604),(.str "D")]),(.tup [(.int 1614),(.str "T")]),(.tup [(.int 1583),(.str "R")]),(.tup [(.int 65),(.str "U")]),(.tup [(.int 1600),(.str "C")])])) (ae 91)) (ao (.int 0))),(ch .Add (ao (.int 1)) (ae 91))]))))]),bN 67 (cM cf 1897 [(pO (cp (ae 97) .GtE (ao (.int 0))) (ae 97) (zb .USub (ao (.int 1)))),(bl (.type "list") [(bl (.type "range") [(bl (.builtin "len") [(ae 34)])])])]),q0 100 (pT [(0,.local),(111,.local),(77,.local),(1,.globalImplicit)] (ae 34) (fun v=>dZ v (nZ 111 77) (eF []) (fg (cM cf 1951 [(ae 111),(ae 77)])))),bN 71 (cM cf 1977 [(jB [((ao (.str "DFLT")),(cM cf 1923 [(ao (.str "DFLT")),(ae 67),(jB [])]))]),(ae 100),(hZ [(0,.local),(88,.local),(3,.globalImplicit),(4,.globalImplicit)] (ae 79) (fun v=>dZ v (gu 88) (eF []) (fg (cM cf 181 [(ao (.str "single")),(ao (.int 0)),(zb .USub (ao (.int 1))),(fA [(cM cf 782 [(ae 88)])])]))))]),q0 7 (pT [(0,.local),(45,.local)] (bl (.type "range") [(ao (.int 40))]) (fun v=>dZ v (gu 45) (eF []) (fg (ch .Add (ao (.int 100)) (ch .Mult (ao (.int 3)) (ae 45)))))),bN 38 (cM cf 1760 [(cM cf 1726 [(ae 66)]),(cM cf 1065 [(ao (.int 1000)),(ao (.int 800)),(zb .USub (ao (.int 200))),(ae 7),(ch .Mult (fA [(ao (.int 0))]) (ao (.int 40)))]),(aK cf 1873 []),(ae 71),(ao .none),(jB [])]),bN 131 (pO (cp (ae 130) .Is (ao .none)) (fA []) (fA [(cM cf 1364 [(bx (ae 130) (ao (.int 0))),(bx (ae 130) (ao (.int 1))),(bx (ae 130) (ao (.int 2))),(bx (ae 130) (ao (.int 3)))])])),bN 108 (aK cf 1684 [(ae 38),(hZ [(0,.local),(91,.local),(5,.globalImplicit)] (ae 74) (fun v=>dZ v (gu 91) (eF []) (fg (bx (bx (nF (.tup [(.tup [(.int 1576),(.str "D")]),(.tup [(.int 1575),(.str "R")]),(.tup [(.int 1604),(.str "D")]),(.tup [(.int 1614),(.str "T")]),(.tup [(.int 1583),(.str "R")]),(.tup [(.int 65),(.str "U")]),(.tup [(.int 1600),(.str "C")])])) (ae 91)) (ao (.int 0)))))),(ae 120),(ao (.str "dflt")),(ae 131)]),bN 41 (aK cf 2014 [(hZ [(0,.local),(91,.local),(5,.globalImplicit)] (ae 74) (fun v=>dZ v (gu 91) (eF []) (fg (bx (bx (nF (.tup [(.tup [(.int 1576),(.str "D")]),(.tup [(.int 1575),(.str "R")]),(.tup [(.int 1604),(.str "D")]),(.tup [(.int 1614),(.str "T")]),(.tup [(.int 1583),(.str "R")]),(.tup [(.int 65),(.str "U")]),(.tup [(.int 1600),(.str "C")])])) (ae 91)) (ao (.int 1))))))]),bN 29 (fA []),eY (gu 9) (bl (.type "range") [(bl (.builtin "len") [(ae 74)])]) (Cj cf),fJ (cp (ae 120) .Eq (ao (.str "arab"))) [dP (dX cf (ae 29) "reverse" [])] [],bM (nG [(dR (hZ [(0,.local),(99,.local)] (aD (ae 108) "rows") (fun v=>dZ v (gu 99) (eF []) (fg (DV (ae 99) (ao (.int 6)))))) .Eq (ae 29)),(dR (aD (ae 108) "is_backward") .Eq (dR (ae 120) .Eq (ao (.str "arab"))))])]
theorem I9:bU 2033 [102] [] AQ:=⟨(bV 312 none []),by kernel_rfl,fun cf args H=>by kernel_rfl⟩
section
variable{H:MH}
noncomputable def Mo(S:Nat→Prop)(H H':MH):Prop:=H.length≤H'.length∧∀(p:Nat) (o:MO),H[p]?=some o→¬S p→H'[p]?=some o
noncomputable abbrev Gr(H H':MH):Prop:=Mo (fun z_=>False) H H'
theorem Mo.refl(S:Nat→Prop)(H:MH):Mo S H H:=⟨aY _,fun z_ z_ e z_=>e⟩
theorem Mo.at{S:Nat→Prop}{H H':MH}(m:Mo S H H'){p:Nat}{o:MO}(e:H[p]?=some o)(h:¬S p):H'[p]?=some o:=m.2 p o e h
theorem Mo.trans{S:Nat→Prop}{H H₁ H₂:MH}(a:Mo S H H₁)(b:Mo S H₁ H₂):Mo S H H₂:=⟨ah a.1 b.1,fun p o e h=>b.2 p o (a.2 p o e h) h⟩
theorem Mo.weaken{S S':Nat→Prop}{H H':MH}(a:Mo S H H')(k:∀p,p < H.length→S p→S' p):Mo S' H H':=⟨a.1,fun p o e h=>a.2 p o e fun q=>h (k p (ai.mp e).1 q)⟩
theorem Gr.mo{S:Nat→Prop}{H H':MH}(a:Gr H H'):Mo S H H':=a.weaken fun z_ z_ q=>q.elim
theorem Gr.at{H H':MH}(m:Gr H H'){p:Nat}{o:MO}(e:H[p]?=some o):H'[p]?=some o:=m.2 p o e id
theorem Gr.refl(H:MH):Gr H H:=Mo.refl _ _
theorem Gr.trans{H H₁ H₂:MH}(a:Gr H H₁)(b:Gr H₁ H₂):Gr H H₂:=Mo.trans a b
theorem Mo.app(S:Nat→Prop)(H L:MH):Mo S H (H++L):=⟨by(erw[aJ]);exact jy _ _,fun p o e z_=>by(erw[aI (ai.mp e).1]);exact e⟩
theorem Gr.app(H L:MH):Gr H (H++L):=Mo.app _ H L
theorem Mo.setN{S:Nat→Prop}{H H':MH}(a:Mo S H H'){n:Nat}{o:MO}(h:S n∨H.length≤n):Mo S H (H'.set n o):=⟨by(erw[mR]);exact a.1,fun p o' e hp=>by
 have hne:n≠p:=fun q=>h.elim (fun h=>hp (q▸h)) fun h=>aC.mpr h (q▸(ai.mp e).1)
 (erw[cT hne])
 exact a.2 p o' e hp⟩
theorem Mo.set{S:Nat→Prop}{H:MH}{n:Nat}{o:MO}(h:S n∨H.length≤n):Mo S H (H.set n o):=(Mo.refl S H).setN h
theorem Mo.appN{S:Nat→Prop}{H H':MH}(a:Mo S H H')(L:MH):Mo S H (H'++L):=a.trans (Mo.app S H' L)
theorem ft(H:MH)(o:MO):(H++[o])[H.length]?=some o:=by(erw[aX (aY _)];rw[rn]);rfl
theorem dm{H:MH}{p:Nat}{o:MO}(h:H[p]?=some o):p < H.length:=(ai.mp h).1
theorem cB{H:MH}{p:Nat}{o o':MO}(h:H[p]?=some o):(H.set p o')[p]?=some o':=db (dm h)
theorem fQ{H:MH}{p q:Nat}{o o':MO}(h:H[p]?=some o)(hn:q≠p):(H.set q o')[p]?=some o:=by(erw[cT hn]);exact h
theorem tA{H L:MH}{p:Nat}{o:MO}(h:H[p]?=some o):(H++L)[p]?=some o:=(Gr.app H L).at h
structure Nu(H:MH)(o:MO)(p:Nat)(H':MH):Prop where
 gr:Gr H H'
 le:H.length≤p
 at_:H'[p]?=some o
theorem Nu.mk'(H:MH)(o:MO):Nu H o H.length (H++[o]):=⟨Gr.app _ _,aY _,ft _ _⟩
theorem bn{o:MO}{P:MV→MH→Prop}(k:∀p H',Nu H o p H'→P (.ref p) H'):G6 H o P:=⟨k _ _ (Nu.mk' H o)⟩
theorem dc{p:Prop}[Decidable p]{A B:Prop}(h1:p→A)(h2:¬p→B):bif decide p then A else B:=by
 by_cases h:p
 ·(erw[decide_eq_true h]);exact h1 h
 ·(erw[decide_eq_false h]);exact h2 h
theorem wn{p:Prop}[Decidable p]{A B:Prop}(h:p)(k:A):bif decide p then A else B:=dc (fun z_=>k) fun n=>(n h).elim
theorem LE{p:Prop}[Decidable p]{A B:Prop}(h:¬p)(k:B):bif decide p then A else B:=dc (fun n=>(h n).elim) fun z_=>k
theorem pn{p:Prop}[Decidable p]{A B:Prop}(h1:¬p→A)(h2:p→B):bif !decide p then A else B:=by
 by_cases h:p
 ·(erw[decide_eq_true h]);exact h2 h
 ·(erw[decide_eq_false h]);exact h1 h
theorem Rw{c:Bool}{A B:Prop}(h:c=true)(k:A):bif c then A else B:=by apply d6 h;exact k
theorem S8{c:Bool}{A B:Prop}(h:c=false)(k:B):bif c then A else B:=by apply d6 h;exact k
theorem gQ{c:Bool}{A B:Prop}(h1:c=true→A)(h2:c=false→B):bif c then A else B:=by
 cases c
 ·exact h2 rfl
 ·exact h1 rfl
theorem oz{a:Int}(h1: -4611686018427387904 < a)(h2:a < 4611686018427387904):big a=false:=by
 unfold big
 (refine(decide_eq_false_iff_not).mpr ?_)
 have e:(2^62:Nat)=4611686018427387904:=by decide
 (erw[e])
 omega
theorem eK{k:Nat}(h:k < 1000000):big (k:Int)=false:=oz (Int.lt_of_lt_of_le (by decide) (bY k)) (Int.lt_trans (dd.mpr h) (by decide))
theorem jH{n:Nat}(h:n≤1000):gj n=false:=decide_eq_false (aC.mpr h)
theorem k4(k:Nat):¬(k:Int) < 0:=fu.mpr (bY k)
theorem Bb{vs:List MV}{k:Nat}(hk:k < 1000000):NR vs (.int k)=vs[k]?:=by
 show(if(k:Int) < 0 then none else if big k then none else vs[(k:Int).toNat]?)=_
 rw[if_neg (k4 k),eK hk]
 rfl
theorem cv{p:Nat}{vs:List MV}{k:Nat}(h:H[p]?=some (.list vs))(hk:k < 1000000):bp H (.ref p) (.int k)=vs[k]?:=by
 unfold bp
 dsimp only
 rw[h]
 exact Bb hk
theorem mH{vs:List MV}{k:Nat}(hk:k < 1000000):bp H (.tup vs) (.int k)=vs[k]?:=Bb hk
theorem U.of{α:Type}{m:MM α}{H H':MH}{a:α}{P:α→MH→Prop}(e:∀l,m ⟨l,H⟩=some (a,⟨l,H'⟩))(k:P a H'):U m H P:=⟨a,H',e,k⟩
theorem Av{p:Nat}{vs:List MV}{k:Nat}{v:MV}{P:Unit→MH→Prop}(h:H[p]?=some (.list vs))(hk:(Hv k vs.length&&Hv vs.length 1000000)=true)(q:P () (H.set p (.list (vs.set k v)))):U (fE (.ref p) (.int k) v) H P:=U.of (fun l=>by
 rw[bf]at hk
 have h1:=aA hk.1
 have h2:=aA hk.2
 unfold fE
 dsimp only
 (erw[h])
 show(if(k:Int) < 0 then none else if big k then none else if vs.length≤(k:Int).toNat then none else qc p (.list (vs.set (k:Int).toNat v)) ⟨l,H⟩)=_
 (erw[if_neg (k4 k),eK (ck h1 h2)];rw[hO];erw[if_neg (wU.mpr h1)])
 rfl) q
theorem qx{p:Nat}{vs:List MV}{k:Nat}{v:MV}{P:Unit→MH→Prop}(h:H[p]?=some (.list vs))(hk:k < vs.length)(hl:vs.length < 1000000)(q:P () (H.set p (.list (vs.set k v)))):U (fE (.ref p) (.int k) v) H P:=U.of (fun l=>by
 unfold fE
 dsimp only
 (erw[h])
 show(if(k:Int) < 0 then none else if big k then none else if vs.length≤(k:Int).toNat then none else qc p (.list (vs.set (k:Int).toNat v)) ⟨l,H⟩)=_
 (erw[if_neg (k4 k),eK (ck hk hl)];rw[hO];erw[if_neg (wU.mpr hk)])
 rfl) q
theorem aG{p:Nat}{C:Addr}{fs:List (Str×MV)}{a:Str}(h:H[p]?=some (.inst C fs))(hf:dz.fld C a=true):aN dz H (.ref p) a=gv a fs:=by
 unfold aN;dsimp only;(erw[h]);dsimp only;(erw[hf]);rfl
theorem cw{p:Nat}{vs:List MV}(h:H[p]?=some (.list vs)):kW H (.ref p)=some vs.length:=by unfold kW;dsimp only;(erw[h];with_reducible rfl)
theorem Mi{p:Nat}{es:List (MV×MV)}(h:H[p]?=some (.dict es)):kW H (.ref p)=some es.length:=by unfold kW;dsimp only;(erw[h];with_reducible rfl)
theorem fj{v:MV}{n:Nat}{P:MV→MH→Prop}(h:kW H v=some n)(hn:n≤1000)(q:P (.int n) H):U (iG (.builtin "len") [v]) H P:=U.of (fun l=>by
 show(kW H v).bind _=_
 (erw[h])
 show(if gj n=true then none else _)=_
 (erw[jH hn]);rfl) q
end
section
variable{H:MH}
structure KK(J:dn→MH→Prop)(Q K:aT MF):Prop where
 next:∀L H,J L H→K .next L H
 cont:∀L H,J L H→K .cont L H
 brk:∀L H,Q .next L H→K .brk L H
 ret:∀r L H,Q (.ret r) L H→K (.ret r) L H
theorem yx{v:MV}{asg:MV→PM Unit}{b:PM MF}{vs:List MV}{Q:aT MF}(I:Nat→dn→MH→Prop)(hit:∀i L H,I i L H→cW H v i=some vs[i]?)
 (step:∀i x L H,vs[i]?=some x→I i L H→∀K,KK (I (i+1)) Q K→(asg x).wp L H (Pw b K))
 (fin:∀L H,I vs.length L H→Q .next L H):∀(k i:Nat) (L:dn) (H:MH),i+k=vs.length→I i L H→Ky v asg b (k+1) i L H Q
 |0,i,L,H,hk,hI=>by
  have hn:vs[i]?=none:=iu.mpr (ff hk.symm)
  exact au ((hit i L H hI).trans (congrArg some hn)) (fin L H (hk▸hI))
 |k+1,i,L,H,hk,hI=>by
  have hx:vs[i]?=some vs[i]:=an (by omega)
  have ih:=yx I hit step fin k (i+1)
  refine au ((hit i L H hI).trans (congrArg some hx)) ?_
  exact step i _ L H hx hI _ ⟨fun L H q=>ih L H (by omega) q,fun L H q=>ih L H (by omega) q,fun L H q=>q,fun r L H q=>q⟩
theorem N7{v:MV}{asg:MV→PM Unit}{b:PM MF}{vs:List MV}{L:dn}{Q:aT MF}(I:Nat→dn→MH→Prop)(h0:I 0 L H)(hsz:iR H v=vs.length)(hit:∀i L H,I i L H→cW H v i=some vs[i]?)
 (step:∀i x L H,vs[i]?=some x→I i L H→∀K,KK (I (i+1)) Q K→(asg x).wp L H (Pw b K))
 (fin:∀L H,I vs.length L H→Q .next L H):rj v asg b L H Q:=⟨by
 (erw[hsz]);exact yx I hit step fin vs.length 0 L H (mP _) h0⟩
theorem u8{v:MV}{asg:MV→PM Unit}{ok:PM Bool}{em:PM (List MV)}{vs:List MV}(I:Nat→List MV→dn→MH→Prop)(hit:∀i acc L H,I i acc L H→cW H v i=some vs[i]?)
 (step:∀i x acc L H,vs[i]?=some x→I i acc L H→∀K:aT (List MV),(∀L H,I (i+1) acc L H→K [] L H)→(∀l L H,I (i+1) (acc++l) L H→K l L H)→(asg x).wp L H (PH ok em K)):
 ∀(k i:Nat) (acc:List MV) (L:dn) (H:MH) (Q:aT (List MV)),(∀r L H,I vs.length (acc++r) L H→Q r L H)→i+k=vs.length→I i acc L H→vd v asg ok em (k+1) i L H Q
 |0,i,acc,L,H,Q,fin,hk,hI=>by
  have hn:vs[i]?=none:=iu.mpr (ff hk.symm)
  exact au ((hit i acc L H hI).trans (congrArg some hn)) (fin [] L H (by rw[bk];exact hk▸hI))
 |k+1,i,acc,L,H,Q,fin,hk,hI=>by
  have hx:vs[i]?=some vs[i]:=an (by omega)
  have ih:=u8 I hit step k (i+1)
  refine au ((hit i acc L H hI).trans (congrArg some hx)) ?_
  exact step i _ acc L H hx hI (fun l L H=>vd v asg ok em (k+1) (i+1) L H fun r L H=>Q (l++r) L H)
   (fun L H q=>ih acc L H _ fin (by omega) q) fun l L H q=>ih (acc++l) L H _ (fun r L H q=>fin _ L H (by rw[←dM];exact q)) (by omega) q
theorem yL{v:MV}{asg:MV→PM Unit}{ok:PM Bool}{em:PM (List MV)}{vs:List MV}{L:dn}{Q:aT (List MV)}(I:Nat→List MV→dn→MH→Prop)(h0:I 0 [] L H)(hsz:iR H v=vs.length)(hit:∀i acc L H,I i acc L H→cW H v i=some vs[i]?)
 (step:∀i x acc L H,vs[i]?=some x→I i acc L H→∀K:aT (List MV),(∀L H,I (i+1) acc L H→K [] L H)→(∀l L H,I (i+1) (acc++l) L H→K l L H)→(asg x).wp L H (PH ok em K))
 (fin:∀acc L H,I vs.length acc L H→Q acc L H):tK v asg ok em L H Q:=⟨by
 (erw[hsz]);exact u8 I hit step vs.length 0 [] L H Q fin (mP _) h0⟩
theorem qf{p:Nat}{vs:List MV}(h:H[p]?=some (.list vs))(i:Nat):cW H (.ref p) i=some vs[i]?:=by unfold cW;dsimp only;(erw[h];with_reducible rfl)
theorem pX{p:Nat}{vs:List MV}(h:H[p]?=some (.list vs)):iR H (.ref p)=vs.length:=by unfold iR;dsimp only;(erw[h];with_reducible rfl)
noncomputable def kF(a b:Nat):List MV:=(aE (b - a)).map fun i=>.int ((a+i:Nat):Int)
theorem xG{a b i:Nat}:(kF a b)[i]?=if a+i < b then some (.int ((a+i:Nat):Int))else none:=by
 (erw[aq])
 by_cases h:a+i < b
 ·(erw[if_pos h];rw[cH (by omega)]);rfl
 ·(erw[if_neg h];rw[cF (by rw[aW];omega)]);rfl
theorem lE{a b:Nat}:(kF a b).length=b - a:=by unfold kF;(rw[aj];erw[aW];with_reducible rfl)
theorem om{a b:Nat}(ha:a < 1000000)(hb:b < 1000000)(i:Nat):cW H (.range a b) i=some (kF a b)[i]?:=by
 show(if(big (a:Int)||big (b:Int))=true then none else some _)=_
 (erw[eK ha,eK hb,xG];rw[if_neg Bool.noConfusion])
 by_cases h:a+i < b
 ·(erw[if_pos h];rw[if_pos (by omega)]);rfl
 ·(erw[if_neg h];rw[if_neg (by omega)])
theorem og{a b:Nat}:iR H (.range a b)=(kF a b).length:=by
 (erw[lE]);exact Int.toNat_sub b a
theorem A4{N i:Nat}{x:MV}(h:(kF 0 N)[i]?=some x):i < N∧x=.int (i:Nat):=by
 rw[xG,mP]at h
 set_option tactic.hygienic true in split at h
 ·next h1=>(obtain rfl:=ab h;clear h);exact⟨h1,rfl⟩
 ·exact bD h
theorem cE{p:Nat}{asg:MV→PM Unit}{b:PM MF}{vs:List MV}{L:dn}{Q:aT MF}(I:Nat→dn→MH→Prop)(h0:I 0 L H)(hl:∀i L H,I i L H→H[p]?=some (.list vs))
 (step:∀i x L H,vs[i]?=some x→I i L H→∀K,KK (I (i+1)) Q K→(asg x).wp L H (Pw b K))
 (fin:∀L H,I vs.length L H→Q .next L H):rj (.ref p) asg b L H Q:=
 N7 I h0 (pX (hl 0 L H h0)) (fun i L H hI=>qf (hl i L H hI) i) step fin
theorem Kv{asg:MV→PM Unit}{b:PM MF}{vs:List MV}{L:dn}{Q:aT MF}(I:Nat→dn→MH→Prop)(h0:I 0 L H)
 (step:∀i x L H,vs[i]?=some x→I i L H→∀K,KK (I (i+1)) Q K→(asg x).wp L H (Pw b K))
 (fin:∀L H,I vs.length L H→Q .next L H):rj (.tup vs) asg b L H Q:=
 N7 I h0 rfl (fun i L H hI=>rfl) step fin
theorem gL{N:Nat}{asg:MV→PM Unit}{b:PM MF}{L:dn}{Q:aT MF}(I:Nat→dn→MH→Prop)(hN:N < 1000000)(h0:I 0 L H)
 (step:∀(i:Nat) L H,i < N→I i L H→∀K,KK (I (i+1)) Q K→(asg (.int (i:Nat))).wp L H (Pw b K))
 (fin:∀L H,I N L H→Q .next L H):rj (.range 0 (N:Nat)) asg b L H Q:=by
 refine N7 (vs:=kF 0 N) I h0 (og (a:=0)) (fun i L H z_=>om (a:=0) (by decide) hN i) (fun i x L H hx hI=>?_) fun L H hI=>?_
 ·obtain⟨h1,rfl⟩:=A4 hx
  exact step i L H h1 hI
 ·rw[lE,AA]at hI
  exact fin L H hI
theorem dG{p:Nat}{asg:MV→PM Unit}{ok:PM Bool}{em:PM (List MV)}{vs:List MV}{L:dn}{Q:aT (List MV)}(I:Nat→List MV→dn→MH→Prop)(h0:I 0 [] L H)(hl:∀i acc L H,I i acc L H→H[p]?=some (.list vs))
 (step:∀i x acc L H,vs[i]?=some x→I i acc L H→∀K:aT (List MV),(∀L H,I (i+1) acc L H→K [] L H)→(∀l L H,I (i+1) (acc++l) L H→K l L H)→(asg x).wp L H (PH ok em K))
 (fin:∀acc L H,I vs.length acc L H→Q acc L H):tK (.ref p) asg ok em L H Q:=
 yL I h0 (pX (hl 0 [] L H h0)) (fun i acc L H hI=>qf (hl i acc L H hI) i) step fin
theorem pD{asg:MV→PM Unit}{ok:PM Bool}{em:PM (List MV)}{vs:List MV}{L:dn}{Q:aT (List MV)}(I:Nat→List MV→dn→MH→Prop)(h0:I 0 [] L H)
 (step:∀i x acc L H,vs[i]?=some x→I i acc L H→∀K:aT (List MV),(∀L H,I (i+1) acc L H→K [] L H)→(∀l L H,I (i+1) (acc++l) L H→K l L H)→(asg x).wp L H (PH ok em K))
 (fin:∀acc L H,I vs.length acc L H→Q acc L H):tK (.tup vs) asg ok em L H Q:=
 yL I h0 rfl (fun i acc L H hI=>rfl) step fin
theorem fN{N:Nat}{asg:MV→PM Unit}{ok:PM Bool}{em:PM (List MV)}{L:dn}{Q:aT (List MV)}(I:Nat→List MV→dn→MH→Prop)(hN:N < 1000000)(h0:I 0 [] L H)
 (step:∀(i:Nat) acc L H,i < N→I i acc L H→∀K:aT (List MV),(∀L H,I (i+1) acc L H→K [] L H)→(∀l L H,I (i+1) (acc++l) L H→K l L H)→(asg (.int (i:Nat))).wp L H (PH ok em K))
 (fin:∀acc L H,I N acc L H→Q acc L H):tK (.range 0 (N:Nat)) asg ok em L H Q:=by
 refine yL (vs:=kF 0 N) I h0 (og (a:=0)) (fun i acc L H z_=>om (a:=0) (by decide) hN i) (fun i x acc L H hx hI=>?_) fun acc L H hI=>?_
 ·obtain⟨h1,rfl⟩:=A4 hx
  exact step i acc L H h1 hI
 ·rw[lE,AA]at hI
  exact fin acc L H hI
variable{P:MV→MH→Prop}
theorem cP{b:Int}(hb:big b=false)(q:P (.range 0 b) H):U (iG (.type "range") [.int b]) H P:=U.of (fun l=>by
 show(if big b=true then none else _)=_;(erw[hb]);rfl) q
theorem G0{a b:Int}(ha:big a=false)(hb:big b=false)(q:P (.range a b) H):U (iG (.type "range") [.int a,.int b]) H P:=U.of (fun l=>by
 show(if(big a||big b)=true then none else _)=_;(erw[ha,hb]);rfl) q
theorem oE{v:MV}{vs:List MV}(h:jI H v=some vs)(hn:vs.length≤1000)(q:∀p H',Nu H (.list vs) p H'→P (.ref p) H'):U (iG (.type "list") [v]) H P:=U.of (fun l=>by
 show(jI H v).bind _=_;(erw[h]);show(if gj vs.length=true then none else _)=_;(erw[jH hn]);rfl) (q _ _ (Nu.mk' H _))
theorem BE{v:MV}{vs:List MV}(h:cy H v=some vs)(hn:vs.length≤1000)(q:P (.tup vs) H):U (iG (.type "tuple") [v]) H P:=U.of (fun l=>by
 show(cy H v).bind _=_;(erw[h]);show(if gj vs.length=true then none else _)=_;(erw[jH hn]);rfl) q
theorem oV{p:Nat}{vs:List MV}(h:H[p]?=some (.list vs)):jI H (.ref p)=some vs:=by unfold jI;dsimp only;(erw[h];with_reducible rfl)
theorem di{p:Nat}{vs:List MV}(h:H[p]?=some (.list vs)):cy H (.ref p)=some vs:=by unfold cy;dsimp only;(erw[h];with_reducible rfl)
theorem lg{p:Nat}{vs:List MV}{v:MV}(h:H[p]?=some (.list vs))(hn:vs.length≤1000)(q:P .none (H.set p (.list (vs++[v])))):U (iX (.ref p) "append" [v]) H P:=U.of (fun l=>by
 unfold iX;dsimp only;(erw[h]);dsimp only;(erw[if_pos rfl]);show Hn _ _ _ _=_;unfold Hn;(erw[jH hn]);rfl) q
theorem gK{p:Nat}{vs:List MV}{n:Str}(h:H[p]?=some (.list vs))(hn:(n="append"||n="extend"||n="index"||n="reverse")=true):iV dz H (.ref p) n=some none:=by
 unfold iV;dsimp only;(erw[h]);exact if_pos hn
theorem gI{p:Nat}{es:List (MV×MV)}(h:H[p]?=some (.dict es)):iV dz H (.ref p) "get"=some none:=by
 unfold iV;dsimp only;(erw[h]);rfl
theorem jh{p:Nat}{C f:Addr}{fs:List (Str×MV)}{n:Str}(h:H[p]?=some (.inst C fs))(hm:dz.meth C n=some f)(hf:gv n fs=none):iV dz H (.ref p) n=some (some f):=by
 unfold iV;dsimp only;(erw[h]);dsimp only;(erw[hm,hf];with_reducible rfl)
theorem jZ{p:Nat}{es:List (MV×MV)}{k d:MV}{r:Option MV}(h:H[p]?=some (.dict es))(hk:i9 k=true)(hg:gR k es=some r)(q:P (r.getD d) H):U (iX (.ref p) "get" [k,d]) H P:=U.of (fun l=>by
 unfold iX;dsimp only;(erw[h]);dsimp only;(erw[if_pos rfl]);show(if i9 k=true then dg _ (gR k es)else none)=_;(erw[hk,hg]);rfl) q
theorem Ov{p:Nat}{es:List (MV×MV)}{k:MV}{r:Option MV}(h:H[p]?=some (.dict es))(hk:i9 k=true)(hg:gR k es=some r)(q:P (r.getD .none) H):U (iX (.ref p) "get" [k]) H P:=U.of (fun l=>by
 unfold iX;dsimp only;(erw[h]);dsimp only;(erw[if_pos rfl]);show(if i9 k=true then dg _ (gR k es)else none)=_;(erw[hk,hg]);rfl) q
theorem w8{p:Nat}{vs:List MV}(h:H[p]?=some (.list vs))(hn:vs.length≤1000):iN H (.ref p)=some (!vs.isEmpty):=by
 unfold iN;dsimp only;(erw[h]);exact if_neg (aC.mpr hn)
theorem fF{s t:String}:(ag s=ag t)↔s=t:=by
 constructor
 ·intro h
  rw[Az,Az]at h
  have h3:=congrArg (fun x:Str=>x.cps.toList) h
  exact String.toList_injective ((List.map_inj_right fun a b e=>Char.ext (UInt32.toNat.inj e)).mp h3)
 ·rintro rfl;rfl
theorem jm{a b:String}:nB H .Eq (.str (ag a)) (.str (ag b))=some (decide (a=b)):=by
 show some (ag a==ag b)=_
 congr 1
 exact decide_eq_decide.mpr fF
theorem KL{a b:String}:nB H .NotEq (.str (ag a)) (.str (ag b))=some (!decide (a=b)):=congrArg (dg (!·)) (jm (H:=H))
theorem ce{p:Nat}{C:Addr}{fs:List (Str×MV)}{a:Str}{v:MV}{P:Unit→MH→Prop}(h:H[p]?=some (.inst C fs))(hs:fs.length≤900)(hf:dz.fld C a=true)(q:P () (H.set p (.inst C (jf a v fs)))):U (dY dz (.ref p) a v) H P:=U.of (fun l=>by
 unfold dY;dsimp only;(erw[h]);dsimp only;(erw[if_neg (aC.mpr hs),hf]);rfl) q
theorem iS{o o':MO}:(H++[o]).set H.length o'=H++[o']:=by(erw[List.set_append_right _ _ (aY _)];rw[rn]);rfl
noncomputable def S6:Nat ⊕ MV→PM MV
 | .inl x=>ae x
 | .inr v=>ao v
noncomputable def Qg(fs:List (Str×(Nat ⊕ MV))):List (PM MF):=fs.map fun f=>bo (ae 106) f.1 (S6 f.2)
noncomputable def S5(l:dn):Nat ⊕ MV→Option MV
 | .inl x=>l x
 | .inr v=>some v
noncomputable def Rv(l:dn):List (Str×(Nat ⊕ MV))→List (Str×MV)→Option (List (Str×MV))
 |[],acc=>some acc
 |(a,e)::r,acc=>(S5 l e).bind fun v=>Rv l r (jf a v acc)
theorem xw{a:Str}{v:MV}:∀l:List (Str×MV),(jf a v l).length≤l.length+1
 |[]=>aY _
 |(y,u)::r=>by
  show(if y=a then(y,v)::r else(y,u)::jf a v r).length≤r.length+1+1
  split
  ·exact cN _
  ·exact gB (xw r)
theorem GA{st:PM MF}{L:dn}{H:MH}{Q K:aT MF}:∀{r:List (PM MF)},(∀f L H,K f L H↔Cg (gD r) Q f L H)→st.wp L H K→(gD (st::r)).wp L H Q
 |[],e,h=>by
  have:K=Q:=by
   funext f L H
   refine propext ((e f L H).trans ?_)
   cases f<;>first|exact Iff.rfl|exact⟨fun h=>h.1,fun h=>sq (m:=gD []) h⟩
  exact this▸h
 |x::r,e,h=>by
  have:K=Cg (gD (x::r)) Q:=by funext f L H;exact propext (e f L H)
  show st.wp L H (Cg (gD (x::r)) Q)
  exact this▸h
theorem Bf{C:Addr}{l:dn}{Q:aT MF}(h106:l 106=some (.ref H.length)):∀(fs:List (Str×(Nat ⊕ MV))) (acc out:List (Str×MV)),(fs.all fun f=>dz.fld C f.1)=true→fs.length+acc.length≤900→Rv l fs acc=some out→Q .next l (H++[.inst C out])→(gD (Qg fs)).wp l (H++[.inst C acc]) Q
 |[],acc,out,_,_,e,q=>by(obtain rfl:=ab e;clear e);exact q
 |(a,s)::r,acc,out,hf,hn,e,q=>by
  refine bT e fun v e1 e2=>?_
  (rw[List.all_cons]at hf;replace hf:=d8.mp hf)
  have hn':r.length+(acc.length+1)≤900:=by rw[dU]at hn;lia
  refine GA (K:=Cg (gD (Qg r)) Q) (fun z_ z_ z_=>Iff.rfl) ?_
  have st:(ae 106).wp l (H++[.inst C acc]) fun ov L H=>U (dY dz ov a v) H fun z_ H=>eG (gD (Qg r)) L H Q:=by
   refine ay h106 (ce (ft _ _) (ah (Nat.le_add_left _ _) (ah (eS (cN _) r.length) hn')) hf.1 ?_)
   (erw[iS])
   exact sq (Bf h106 r _ out hf.2 (ah (eS (xw acc) _) hn') e2 q)
  cases s with
  |inl x=>exact ay e1 st
  |inr u=>(obtain rfl:=ab e1;clear e1);exact st
theorem pd{C i d:Nat}{ps:List Nat}{D:List MV}{b:CF→List (PM MF)}(hi:dz.init C=some i)(hn:dz.isFn C=false)(ef:bU i ps D b)(fs:List (Str×(Nat ⊕ MV)))(eb:b=fun z_=>Qg fs)(args:List MV)(hf:(fs.all fun f=>dz.fld C f.1)=true)(hl:Nat.ble fs.length 900=true){out:List (Str×MV)}(el:(yT ps D (.ref H.length::args)).isSome=true)(h106:bindL ps D (.ref H.length::args) 106=some (.ref H.length))(eo:Rv (bindL ps D (.ref H.length::args)) fs []=some out)
 (q:∀p H',Nu H (.inst C out) p H'→P (.ref p) H'):U (e9 dz (cn (d+1)) (.stat (.ref C)) args) H P:=by
 subst eb
 have w:WC (cn (d+1)) i (.ref H.length::args) (H++[.inst C []]) fun v H'=>v=.none∧H'=H++[.inst C out]:=
  bC ef el (Bf h106 fs [] out hf (aA hl) eo ⟨rfl,rfl⟩)
 obtain⟨⟨v,H',e,rfl,rfl⟩⟩:=w
 refine U.of (fun l'=>?_) (q _ _ (Nu.mk' H _))
 unfold e9
 dsimp only
 (erw[hn,hi])
 show((cn (d+1) i (.ref H.length::args) (H++[.inst C []])).map _).bind _=_
 (erw[e]);rfl
end
section
variable{d:Nat}{H:MH}{P:MV→MH→Prop}
theorem zQ{v_tag v_value v_begin v_end:MV}(q:∀p H',Nu H (.inst 1364 [("tag",v_tag),("value",v_value),("begin",v_begin),("end",v_end)]) p H'→P (.ref p) H'):U (e9 dz (cn (d+1)) (.stat (.ref 1364)) [v_tag,v_value,v_begin,v_end]) H P:=
 pd (i:=1354) (by kernel_rfl) (by kernel_rfl) JM [("tag",.inl 120),("value",.inl 125),("begin",.inl 12),("end",.inl 31)] (by kernel_rfl) _ (by kernel_rfl) rfl rfl rfl (by kernel_rfl) q
theorem zP{v_script v_language v_is_backward v_masks v_stages v_positions v_has_kern v_defaults:MV}(q:∀p H',Nu H (.inst 1391 [("script",v_script),("language",v_language),("is_backward",v_is_backward),("masks",v_masks),("defaults",v_defaults),("stages",v_stages),("positions",v_positions),("has_kern",v_has_kern)]) p H'→P (.ref p) H'):U (e9 dz (cn (d+1)) (.stat (.ref 1391)) [v_script,v_language,v_is_backward,v_masks,v_stages,v_positions,v_has_kern,v_defaults]) H P:=
 pd (i:=1383) (by kernel_rfl) (by kernel_rfl) JK [("script",.inl 102),("language",.inl 68),("is_backward",.inl 57),("masks",.inl 82),("defaults",.inl 25),("stages",.inl 114),("positions",.inl 95),("has_kern",.inl 51)] (by kernel_rfl) _ (by kernel_rfl) rfl rfl rfl (by kernel_rfl) q
theorem ol{v_value v_most:MV}(q:∀p H',Nu H (.inst 1420 [("value",v_value),("most",v_most),("has_own",(.bool false)),("is_set",(.bool false))]) p H'→P (.ref p) H'):U (e9 dz (cn (d+1)) (.stat (.ref 1420)) [v_value,v_most]) H P:=
 pd (i:=1417) (by kernel_rfl) (by kernel_rfl) A2 [("value",.inl 125),("most",.inl 84),("has_own",.inl 61),("is_set",.inl 61)] (by kernel_rfl) _ (by kernel_rfl) rfl rfl rfl (by kernel_rfl) q
theorem sJ{v_value v_most v_is_set:MV}(q:∀p H',Nu H (.inst 1420 [("value",v_value),("most",v_most),("has_own",v_is_set),("is_set",v_is_set)]) p H'→P (.ref p) H'):U (e9 dz (cn (d+1)) (.stat (.ref 1420)) [v_value,v_most,v_is_set]) H P:=
 pd (i:=1417) (by kernel_rfl) (by kernel_rfl) A2 [("value",.inl 125),("most",.inl 84),("has_own",.inl 61),("is_set",.inl 61)] (by kernel_rfl) _ (by kernel_rfl) rfl rfl rfl (by kernel_rfl) q
theorem sI{v_rows v_is_backward:MV}(q:∀p H',Nu H (.inst 1612 [("rows",v_rows),("is_backward",v_is_backward)]) p H'→P (.ref p) H'):U (e9 dz (cn (d+1)) (.stat (.ref 1612)) [v_rows,v_is_backward]) H P:=
 pd (i:=1602) (by kernel_rfl) (by kernel_rfl) JB [("rows",.inl 100),("is_backward",.inl 57)] (by kernel_rfl) _ (by kernel_rfl) rfl rfl rfl (by kernel_rfl) q
theorem zO{v_charmap v_metrics v_gdef v_gsub v_gpos v_kern:MV}(q:∀p H',Nu H (.inst 1760 [("charmap",v_charmap),("metrics",v_metrics),("gdef",v_gdef),("gsub",v_gsub),("gpos",v_gpos),("kern",v_kern)]) p H'→P (.ref p) H'):U (e9 dz (cn (d+1)) (.stat (.ref 1760)) [v_charmap,v_metrics,v_gdef,v_gsub,v_gpos,v_kern]) H P:=
 pd (i:=1744) (by kernel_rfl) (by kernel_rfl) Jp [("charmap",.inl 18),("metrics",.inl 83),("gdef",.inl 44),("gsub",.inl 48),("gpos",.inl 46),("kern",.inl 64)] (by kernel_rfl) _ (by kernel_rfl) rfl rfl rfl (by kernel_rfl) q
theorem sH{v_classes:MV}(q:∀p H',Nu H (.inst 1814 [("classes",v_classes)]) p H'→P (.ref p) H'):U (e9 dz (cn (d+1)) (.stat (.ref 1814)) [v_classes]) H P:=
 pd (i:=1785) (by kernel_rfl) (by kernel_rfl) Jo [("classes",.inl 19)] (by kernel_rfl) _ (by kernel_rfl) rfl rfl rfl (by kernel_rfl) q
theorem CU{v_kind v_flag v_mark_set v_tables:MV}(q:∀p H',Nu H (.inst 181 [("kind",v_kind),("flag",v_flag),("mark_set",v_mark_set),("tables",v_tables)]) p H'→P (.ref p) H'):U (e9 dz (cn (d+1)) (.stat (.ref 181)) [v_kind,v_flag,v_mark_set,v_tables]) H P:=
 pd (i:=173) (by kernel_rfl) (by kernel_rfl) NG [("kind",.inl 65),("flag",.inl 37),("mark_set",.inl 80),("tables",.inl 119)] (by kernel_rfl) _ (by kernel_rfl) rfl rfl rfl (by kernel_rfl) q
theorem zN{v_tag v_default v_languages:MV}(q:∀p H',Nu H (.inst 1923 [("tag",v_tag),("default",v_default),("languages",v_languages)]) p H'→P (.ref p) H'):U (e9 dz (cn (d+1)) (.stat (.ref 1923)) [v_tag,v_default,v_languages]) H P:=
 pd (i:=1915) (by kernel_rfl) (by kernel_rfl) Ji [("tag",.inl 120),("default",.inl 24),("languages",.inl 69)] (by kernel_rfl) _ (by kernel_rfl) rfl rfl rfl (by kernel_rfl) q
theorem zM{v_scripts v_features v_lookups:MV}(q:∀p H',Nu H (.inst 1977 [("scripts",v_scripts),("features",v_features),("lookups",v_lookups)]) p H'→P (.ref p) H'):U (e9 dz (cn (d+1)) (.stat (.ref 1977)) [v_scripts,v_features,v_lookups]) H P:=
 pd (i:=1969) (by kernel_rfl) (by kernel_rfl) Jg [("scripts",.inl 103),("features",.inl 34),("lookups",.inl 77)] (by kernel_rfl) _ (by kernel_rfl) rfl rfl rfl (by kernel_rfl) q
theorem CT{v_buffer v_gdef v_lookups v_lookup v_mask:MV}(q:∀p H',Nu H (.inst 203 [("buffer",v_buffer),("gdef",v_gdef),("lookups",v_lookups),("lookup",v_lookup),("mask",v_mask),("depth",(.int 0))]) p H'→P (.ref p) H'):U (e9 dz (cn (d+1)) (.stat (.ref 203)) [v_buffer,v_gdef,v_lookups,v_lookup,v_mask]) H P:=
 pd (i:=200) (by kernel_rfl) (by kernel_rfl) NF [("buffer",.inl 14),("gdef",.inl 44),("lookups",.inl 77),("lookup",.inl 76),("mask",.inl 81),("depth",.inl 26)] (by kernel_rfl) _ (by kernel_rfl) rfl rfl rfl (by kernel_rfl) q
theorem Fi{v_code v_glyph v_cluster:MV}(q:∀p H',Nu H (.inst 52 [("code",v_code),("glyph",v_glyph),("cluster",v_cluster),("mask",(.int 0)),("is_unsafe",(.bool false)),("lig_id",(.int 0)),("lig_part",(.int 0)),("lig_count",(.int 0)),("kind",(.str "")),("x_advance",(.int 0)),("y_advance",(.int 0)),("x_offset",(.int 0)),("y_offset",(.int 0)),("parent",(.int 0)),("bond",(.str ""))]) p H'→P (.ref p) H'):U (e9 dz (cn (d+1)) (.stat (.ref 52)) [v_code,v_glyph,v_cluster]) H P:=
 pd (i:=35) (by kernel_rfl) (by kernel_rfl) OY [("code",.inl 21),("glyph",.inl 45),("cluster",.inl 20),("mask",.inr (.int 0)),("is_unsafe",.inr (.bool false)),("lig_id",.inr (.int 0)),("lig_part",.inr (.int 0)),("lig_count",.inr (.int 0)),("kind",.inr (.str "")),("x_advance",.inr (.int 0)),("y_advance",.inr (.int 0)),("x_offset",.inr (.int 0)),("y_offset",.inr (.int 0)),("parent",.inr (.int 0)),("bond",.inr (.str ""))] (by kernel_rfl) _ (by kernel_rfl) rfl rfl rfl (by kernel_rfl) q
theorem CS{v_mapping:MV}(q:∀p H',Nu H (.inst 782 [("mapping",v_mapping)]) p H'→P (.ref p) H'):U (e9 dz (cn (d+1)) (.stat (.ref 782)) [v_mapping]) H P:=
 pd (i:=774) (by kernel_rfl) (by kernel_rfl) Ny [("mapping",.inl 78)] (by kernel_rfl) _ (by kernel_rfl) rfl rfl rfl (by kernel_rfl) q
theorem Fh{v_infos v_is_backward:MV}(q:∀p H',Nu H (.inst 96 [("row",v_infos),("is_backward",v_is_backward),("last_lig",(.int 0))]) p H'→P (.ref p) H'):U (e9 dz (cn (d+1)) (.stat (.ref 96)) [v_infos,v_is_backward]) H P:=
 pd (i:=71) (by kernel_rfl) (by kernel_rfl) OW [("row",.inl 54),("is_backward",.inl 57),("last_lig",.inr (.int 0))] (by kernel_rfl) _ (by kernel_rfl) rfl rfl rfl (by kernel_rfl) q
end
section
noncomputable def K7:List Int:=[1576,1575,1604,1614,1583,65,1600]
noncomputable def d5:List String:=["rlig","init","liga","fina","ccmp","salt","medi","isol","calt","rtla"]
theorem k7{c:Int}(h:c∈K7):c=1576∨c=1575∨c=1604∨c=1614∨c=1583∨c=65∨c=1600:=by
 simpa[K7] using h
variable{d:Nat}{H:MH}
theorem wh{c:Int}(h:c∈K7):cn (d+1) 870 [.int c] H=some (.bool false,H):=by
 rcases k7 h with rfl|rfl|rfl|rfl|rfl|rfl|rfl<;>kernel_rfl
theorem tW{c:Int}(h:c∈K7):cn (d+3) 877 [.int c] H=some (.str "",H):=by
 rcases k7 h with rfl|rfl|rfl|rfl|rfl|rfl|rfl<;>kernel_rfl
noncomputable def QQ(arab:Bool):String:=if arab then"arab" else"latn"
noncomputable abbrev cc(arab:Bool):MV:=.str (ag (QQ arab))
theorem oo(b:Bool):cn (d+1) 1006 [cc b] H=some (.bool b,H):=by
 cases b<;>kernel_rfl
theorem wj(b:Bool):cn (d+1) 1110 [cc b] H=some (.bool b,H):=by
 cases b<;>kernel_rfl
inductive iy where|D|R|T|U|C
 deriving DecidableEq
noncomputable def iy.s:iy→Str| .D=>"D"| .R=>"R"| .T=>"T"| .U=>"U"| .C=>"C"
noncomputable def iy.on:iy→Bool| .D=>true| .C=>true|_=>false
noncomputable def iy.back:iy→Bool| .D=>true| .C=>true| .R=>true|_=>false
theorem Db(t:iy):cn (d+1) 968 [.str t.s] H=some (.bool t.on,H):=by cases t<;>kernel_rfl
theorem qM(t:iy):cn (d+1) 975 [.str t.s] H=some (.bool t.back,H):=by cases t<;>kernel_rfl
noncomputable def wz(b h:Bool):String:=if b then(if h then"medi" else"fina")else(if h then"init" else"isol")
theorem FT(b h:Bool):cn (d+1) 989 [.bool b,.bool h] H=some (.str (wz b h),H):=by cases b<;>cases h<;>kernel_rfl
noncomputable def gF(c:Int):iy:=if c=1576∨c=1604 then .D else if c=1575∨c=1583 then .R else if c=1614 then .T else if c=65 then .U else .C
structure Le(H:MH)(p n:Nat):Prop where
 at_:∃c g s,∃cells:List Int,H[p]?=some (.list [.ref c,.int g,.int s,.int n])∧c < p∧H[c]?=some (.list (cells.map .int))∧0≤g∧0≤s∧s < 2147483647∧cells.length≤40
theorem jl{a b:Int}(h:0 < b):0≤a.fmod b∧a.fmod b < b:=⟨Int.fmod_nonneg_of_pos a h,Int.fmod_lt_of_pos a h⟩
theorem Ko{p k:Nat}{L:List MV}{v:MV}(h:H[p]?=some (.list L))(hk:L[k]?=some v)(hb:k < 1000000:=by decide):bp H (.ref p) (.int k)=some v:=(cv h hb).trans hk
theorem RN{p n:Nat}{m:Int}{Q:MV→MH→Prop}(hP:Le H p n)(hn:n < 1000)(hm:0 < m)(hm2:m < 1000)
 (k:∀r H',0≤r→r < m→Mo (· =p) H H'→Le H' p (n+1)→Q (.int r) H'):WC (cn (d+1)) 2009 [.ref p,.int m] H Q:=by
 obtain⟨c,g,s,cells,hp,hc,hcl,g0,s0,s1,hl⟩:=hP.at_
 have done:∀r H' g' s',0≤r→r < m→0≤g'→0≤s'→s' < 2147483647→H'=H.set p (.list [.ref c,.int g',.int s',.int ((n+1:Nat):Int)])→Q (.int r) H':=fun r H' g' s' h1 h2 h3 h4 h5 e=>by
  apply d6 e
  exact k r _ h1 h2 (Mo.set (.inl rfl)) ⟨c,g',s',cells,cB hp,hc,fQ hcl (cj hc),h3,h4,h5,hl⟩
 have bm:big m=false:=oz (by omega) (by omega)
 have m0:m≠0:=by omega
 refine bC Jd rfl ?_
 refine au (Ko (k:=3) hp rfl) (sq ?_)
 refine Av (k:=3) hp rfl (sq ?_)
 refine au (Ko (k:=1) (cB hp) rfl) ?_
 refine dc (fun hg=>?_) fun hg=>?_
 ·refine au (Ko (k:=1) (cB hp) rfl) ?_
  refine⟨m0,sq ?_⟩
  refine au (Ko (k:=1) (cB hp) rfl) ?_
  refine⟨⟨m0,bm⟩,?_⟩
  refine Av (k:=1) (cB hp) rfl (sq ?_)
  exact done _ _ _ s (jl hm).1 (jl hm).2 (Int.fdiv_nonneg g0 (by exact Int.le_of_lt ‹_›)) s0 s1 (ze ..)
 ·refine sq ?_
  refine au (Ko (k:=2) (cB hp) rfl) ?_
  refine⟨⟨oz (by omega) (by omega),rfl⟩,?_⟩
  refine⟨⟨oz (by exact bY _) (by omega),oz (by omega) (by omega)⟩,?_⟩
  refine⟨by decide,?_⟩
  have hs:=jl (a:=s*16807+(n:Int)*n+5) (b:=2147483647) (by decide)
  revert hs
  generalize(s*16807+(n:Int)*n+5).fmod 2147483647=S
  intro hs
  have hcl':(H.set p (.list [.ref c,.int g,.int S,.int ((n:Int)+1)]))[c]?=some (.list (cells.map .int)):=fQ hcl (cj hc)
  refine Av (k:=2) (cB hp) rfl (sq ?_)
  rw[ze]
  refine au (Ko (k:=0) (cB hp) rfl) ?_
  refine fj (n:=cells.length) ((cw hcl').trans (by rw[aj])) (by lia) ?_
  refine dc (fun hlt=>?_) fun hlt=>?_
  ·refine au (Ko (k:=0) (cB hp) rfl) ?_
   refine au (Ko hcl' (by rw[aq,an (by omega)];rfl) (by omega)) ?_
   exact⟨m0,done _ _ g S (jl hm).1 (jl hm).2 g0 hs.1 hs.2 rfl⟩
  ·refine sq (au (Ko (k:=2) (cB hp) rfl) ?_)
   exact⟨⟨by decide,rfl⟩,m0,done _ _ g S (jl hm).1 (jl hm).2 g0 hs.1 hs.2 rfl⟩
end
section
variable{d:Nat}{H:MH}{P:MV→MH→Prop}
theorem GW{vs:List MV}{n:Nat}(hv:vs.length≤1000)(hn:n≤1000)(q:∀p H',Nu H (.list (vs.take n)) p H'→P (.ref p) H'):U (iQ (.flist vs) none (some (.int n))) H P:=U.of (fun l=>by
 have hb:lQ (some (MV.int n))=some (some n):=by
  unfold lQ
  dsimp only
  (erw[if_neg (k4 n)];rw[if_neg (by rw[show(2:Int)^40=1099511627776 from by decide];omega)])
  rfl
 unfold iQ
 rw[hb,show lQ none=some none from rfl]
 show(if 1000 < vs.length then none else _)=_
 (erw[if_neg (aC.mpr hv)])
 rfl) (q _ _ (Nu.mk' H _))
theorem PV{i:Int}(q:P (.int i) H):U (iG (.type "int") [.int i]) H P:=U.of (fun z_=>rfl) q
theorem LY{i:Int}(q:P (.int i.natAbs) H):U (iG (.builtin "abs") [.int i]) H P:=U.of (fun z_=>rfl) q
theorem K9(q:P (.int (10^15)) H):U (gT .Pow (.int 10) (.int 15)) H P:=U.of (fun z_=>by kernel_rfl) q
theorem G1(q:P (.int (10^200)) H):U (gT .Pow (.int 10) (.int 200)) H P:=U.of (fun z_=>by kernel_rfl) q
theorem Kg{sc:List Int}(hs:sc.length≤63){Q:MV→MH→Prop}(k:∀p H',Gr H H'→H.length≤p→Le H' p 0→Q (.ref p) H'):WC (cn (d+1)) 2002 [.flist (sc.map .int)] H Q:=by
 refine bC Je rfl ?_
 refine GW (n:=40) (by rw[aj];omega) (by decide) fun c0 H0 n0=>?_
 replace n0:=Eq.symm (List.map_take)▸n0
 have hl40:(sc.take 40).length≤40:=List.length_take_le ..
 revert hl40 n0
 generalize sc.take 40=cells
 intro n0 hl40
 have hm:(cells.map MV.int).length≤1000:=by rw[aj];omega
 refine dG (vs:=cells.map .int) (fun i acc L H'=>H'=H0∧acc=(cells.map MV.int).take i) ⟨rfl,rfl⟩ (fun i acc L H' hI=>hI.1▸n0.at_) (fun i x acc L H' hx hI K k0 k1=>?_) fun acc L H' hI=>?_
 ·obtain⟨y,_,rfl⟩:=aU.mp (ak hx)
  refine PV ?_
  exact k1 _ _ _ ⟨hI.1,by(erw[aO,hx,hI.2]);rfl⟩
 ·obtain⟨rfl,rfl⟩:=hI
  (erw[aZ])
  refine⟨hm,bn fun c H₁ n1=>sq (sq ?_)⟩
  have hg1:=n0.gr.trans n1.gr
  have hc:=n1.at_
  have tail:∀(L:dn) (g:Int),0≤g→L 17=some (.ref c)→L 47=some (.int g)→(gD [bN 115 (ao (.int 7)),eY (gu 16) (ae 17) (uD (cn d)),bM (fA [(ae 17),(ae 47),(ae 115),(ao (.int 0))])]).wp L H₁ (xD Q):=by
   intro L g hg0 e1 e2
   refine sq (ay e1 ?_)
   refine cE (vs:=cells.map .int) (fun i L H=>H=H₁∧L 17=some (.ref c)∧L 47=some (.int g)∧∃st,L 115=some (.int st)∧0≤st∧st < 2147483647) ⟨rfl,e1,e2,7,rfl,by decide,by decide⟩ (fun i L H hI=>hI.1▸hc) (fun i x L H hx hI K kk=>?_) fun L H hI=>?_
   ·obtain⟨rfl,f1,f2,st,f3,s0,s1⟩:=hI
    obtain⟨y,_,rfl⟩:=aU.mp (ak hx)
    refine ay f3 ⟨⟨oz (by omega) (by omega),rfl⟩,by decide,by decide,kk.next _ _ ⟨rfl,f1,f2,_,rfl,jl (by decide)⟩⟩
   ·obtain⟨rfl,f1,f2,st,f3,s0,s1⟩:=hI
    refine sq (ay f1 (ay f2 (ay f3 (bn fun p H' n2=>?_))))
    exact k _ _ (hg1.trans n2.gr) (ah hg1.1 n2.le) ⟨c,g,st,cells,n2.at_,av (dm hc) n2.le,n2.gr.at hc,hg0,s0,s1,hl40⟩
  refine au (w8 hc hm) ?_
  cases cells with
  |nil=>exact sq (tail _ 0 (by decide) rfl rfl)
  |cons c0 cs=>
   have gi:bp H₁ (.ref c) (.int 0)=some (.int c0):=cv (k:=0) hc (by decide)
   refine au gi (LY (K9 ?_))
   refine dc (fun hb=>?_) fun hb=>sq (tail _ 0 (by decide) rfl rfl)
   refine au gi (LY ⟨⟨by decide,rfl⟩,G1 ⟨by decide,?_⟩⟩)
   exact sq (tail _ _ (jl (by decide)).1 rfl rfl)
end
section
noncomputable abbrev gn:=Option (String×Int×Int×Int)
noncomputable def nK:gn→MV
 |none=>.none
 |some (t,v,b,e)=>.tup [.str t,.int v,.int b,.int e]
noncomputable def ik(tag:String)(c:Int):gn→Bool
 |none=>false
 |some (t,v,b,e)=>t==tag&&decide (b≤c)&&(decide (e < 0)||decide (c < e))
noncomputable def vJ:gn→Int
 |none=>0
 |some (t,v,b,e)=>v
noncomputable def uL:gn→Bool
 |none=>false
 |some (t,v,b,e)=>decide (0 < b)||decide (0≤e)
noncomputable def gk:List String:=["init","medi","fina","isol"]
noncomputable def countsL(tag:String)(arab:Bool)(form:String)(c:Int)(w:gn):Bool:=
 if gk.contains tag&&arab then tag==form||(ik tag c w&&decide (0 < vJ w)&&uL w)
 else if ik tag c w then decide (0 < vJ w)
 else if tag=="rtla" then arab
 else["rlig","liga","ccmp","calt"].contains tag
noncomputable def stageL(tag:String):Nat:=if tag="ccmp"∨tag="rtla" then 0 else if tag="isol" then 1 else if tag="fina" then 2 else if tag="medi" then 3 else if tag="init" then 4 else if tag="rlig" then 5 else 6
variable{d:Nat}{H:MH}
theorem oe(L:List String):je (L.map fun s=>MV.str (ag s))=some (L.map ag):=by
 induction L with
 |nil=>rfl
 |cons a r ih=>
  show(je (r.map fun s=>MV.str (ag s))).map (ag a:: ·)=_
  (erw[ih]);rfl
theorem BC(L:List String)(t:String):((L.map ag).any fun x=>x==ag t)=L.contains t:=by
 induction L with
 |nil=>rfl
 |cons a r ih=>
  (erw[bj,dr,ih];rw[DS])
  congr 1
  by_cases h:t=a
  ·apply dE h;simp
  ·have h2:(ag a==ag t)=false:=by(refine(beq_eq_false_iff_ne).mpr ?_);exact fun q=>h (fF.mp q).symm
   have h3:(t==a)=false:=by(refine(beq_eq_false_iff_ne).mpr ?_);exact h
   (erw[h2,h3];with_reducible rfl)
theorem Dd{t:String}(L:List String):rd H (.str (ag t)) (.tup (L.map fun s=>MV.str (ag s)))=some (L.contains t):=by
 unfold rd
 dsimp only
 rw[oe]
 exact congrArg some (BC L t)
theorem Bv{t a b c e:String}:nB H .In (.str (ag t)) (.tup [.str (ag a),.str (ag b),.str (ag c),.str (ag e)])=some ([a,b,c,e].contains t):=Dd (H:=H) [a,b,c,e]
theorem jW:nB H .IsNot .none .none=some false:=rfl
theorem Ak{vs:List MV}:nB H .IsNot (.tup vs) .none=some true:=rfl
theorem jr{arab:Bool}:nB H .Eq (cc arab) (.str (ag "arab"))=some arab:=by cases arab<;>kernel_rfl
theorem Dy{arab:Bool}:nB H .NotEq (cc arab) (.str (ag "arab"))=some (!arab):=congrArg (dg (!·)) (jr (H:=H))
theorem gt{vs:List MV}{k:Nat}{v:MV}(h:vs[k]?=some v)(hk:k < 1000000:=by decide):bp H (.tup vs) (.int k)=some v:=(mH hk).trans h
theorem Tg{a:MV}{r:List MV}:bp H (.tup (a::r)) (.int 0)=some a:=gt (k:=0) rfl
theorem Sl{a b:MV}{r:List MV}:bp H (.tup (a::b::r)) (.int 1)=some b:=gt (k:=1) rfl
theorem Sk{a b c:MV}{r:List MV}:bp H (.tup (a::b::c::r)) (.int 2)=some c:=gt (k:=2) rfl
theorem RG{a b c e:MV}{r:List MV}:bp H (.tup (a::b::c::e::r)) (.int 3)=some e:=gt (k:=3) rfl
theorem zZ{tag form:String}{arab:Bool}{c:Int}{w:gn}{Q:MV→MH→Prop}(q:Q (.bool (countsL tag arab form c w)) H):WC (cn (d+1)) 2021 [.str tag,cc arab,.str form,.int c,nK w] H Q:=by
 have rest:eG (gD [fJ (eF [(cp (ae 120) .In (bJ [(ao (.str "init")),(ao (.str "medi")),(ao (.str "fina")),(ao (.str "isol"))])),(cp (ae 102) .Eq (ao (.str "arab")))]) [bM (Hm [(dR (ae 120) .Eq (ae 39)),(nG [(ae 56),(dR (bx (ae 130) (ao (.int 1))) .Gt (ao (.int 0))),(Hm [(dR (bx (ae 130) (ao (.int 2))) .Gt (ao (.int 0))),(dR (bx (ae 130) (ao (.int 3))) .GtE (ao (.int 0)))])])])] [],fJ (ej (ae 56)) [bM (dR (bx (ae 130) (ao (.int 1))) .Gt (ao (.int 0)))] [],fJ (cp (ae 120) .Eq (ao (.str "rtla"))) [bM (dR (ae 102) .Eq (ao (.str "arab")))] [],bM (dR (ae 120) .In (bJ [(ao (.str "rlig")),(ao (.str "liga")),(ao (.str "ccmp")),(ao (.str "calt"))]))]) (sN 56 (.bool (ik tag c w)) (zX [(120,.str tag),(102,cc arab),(39,.str form),(20,.int c),(130,nK w)])) H (xD Q):=by
  have e0:countsL tag arab form c w=bif gk.contains tag&&arab then tag==form||(ik tag c w&&(decide (0 < vJ w)&&uL w))else bif ik tag c w then decide (0 < vJ w)else bif decide (tag="rtla")then arab else["rlig","liga","ccmp","calt"].contains tag:=by
   unfold countsL
   cases gk.contains tag&&arab<;>cases ik tag c w<;>cases hr:tag=="rtla"<;>simp_all
  rw[e0]at q
  have hc:nB H .In (.str (ag tag)) (.tup [.str (ag "init"),.str (ag "medi"),.str (ag "fina"),.str (ag "isol")])=some (gk.contains tag):=Bv
  have rest2:(gk.contains tag&&arab)=false→eG (gD [fJ (ej (ae 56)) [bM (dR (bx (ae 130) (ao (.int 1))) .Gt (ao (.int 0)))] [],fJ (cp (ae 120) .Eq (ao (.str "rtla"))) [bM (dR (ae 102) .Eq (ao (.str "arab")))] [],bM (dR (ae 120) .In (bJ [(ao (.str "rlig")),(ao (.str "liga")),(ao (.str "ccmp")),(ao (.str "calt"))]))]) (sN 56 (.bool (ik tag c w)) (zX [(120,.str tag),(102,cc arab),(39,.str form),(20,.int c),(130,nK w)])) H (xD Q):=fun hn=>sq (by
   rw[hn]at q
   refine gQ (fun ha=>?_) fun ha=>sq ?_
   ·rw[ha]at q
    cases w with
    |none=>exact Bool.noConfusion ha
    |some w=>exact au Sl q
   ·rw[ha]at q
    refine au jm (dc (fun hr=>?_) fun hr=>sq (au Bv ?_))
    ·rw[decide_eq_true hr]at q;exact au jr q
    ·rw[decide_eq_false hr]at q;exact q)
  refine sq (au hc (gQ (fun hA=>au jr (gQ (fun hr=>?_) fun hr=>rest2 (by(erw[hr];rw[d7])))) fun hA=>rest2 (by(erw[hA]);rfl)))
  (rw[hA]at q;replace q:=(hr)▸q)
  refine au jm (dc (fun hf=>?_) fun hf=>?_)
  ·rw[show(tag==form)=decide (tag=form)from rfl,decide_eq_true hf]at q
   (erw[decide_eq_true hf]);exact q
  ·(rw[show(tag==form)=decide (tag=form)from rfl]at q;replace q:=(decide_eq_false hf)▸q)
   refine gQ (fun ha=>?_) fun ha=>by rw[ha]at q ⊢;exact q
   replace q:=(ha)▸q
   cases w with
   |none=>exact Bool.noConfusion ha
   |some w=>
    obtain⟨t,v,b,e⟩:=w
    have q':Q (.bool (decide (0 < v)&&(decide (0 < b)||decide (0≤e)))) H:=q
    refine au Sl (dc (fun hv=>au Sk (dc (fun hb=>?_) fun hb=>au RG ?_)) fun hv=>?_)
    ·rw[decide_eq_true hv,decide_eq_true hb]at q';(erw[decide_eq_true hb]);exact q'
    ·rw[decide_eq_true hv,decide_eq_false hb]at q';exact q'
    ·rw[decide_eq_false hv]at q' ⊢;exact q'
 refine bC Jb rfl ?_
 cases w with
 |none=>exact au jW rest
 |some w=>
  obtain⟨t,v,b,e⟩:=w
  have ask:ik tag c (some (t,v,b,e))=(decide (t=tag)&&(decide (b≤c)&&(decide (e < 0)||decide (c < e)))):=nX ..
  replace rest:=(ask)▸rest
  refine au Ak (au Tg (au jm (dc (fun h1=>?_) fun h1=>?_)))
  ·replace rest:=(decide_eq_true h1)▸rest
   refine au Sk (dc (fun h2=>?_) fun h2=>?_)
   ·replace rest:=(decide_eq_true h2)▸rest
    refine au RG (dc (fun h3=>?_) fun h3=>?_)
    ·rw[decide_eq_true h3]at rest ⊢;exact rest
    ·rw[decide_eq_false h3]at rest;exact au RG rest
   ·rw[decide_eq_false h2]at rest ⊢;exact rest
  ·rw[decide_eq_false h1]at rest ⊢;exact rest
end
section
variable{d:Nat}{H:MH}
noncomputable def fW(L:List (Str×MV)):List (MV×MV):=L.map fun x=>(.str x.1,x.2)
theorem l0(t:Str):∀L,gR (.str t) (fW L)=some (gv t L)
 |[]=>rfl
 |(s,v)::r=>by
  show(match iE (.str s) (.str t)with|none=>none|some true=>some (some v)|some false=>gR (.str t) (fW r))=_
  have e:iE (.str s) (.str t)=some (s==t):=rfl
  (erw[e,l0 t r])
  show _=some (if s=t then some v else gv t r)
  by_cases h:s=t
  ·apply dE h;(rw[beq_self_eq_true];erw[if_pos rfl];with_reducible rfl)
  ·have:(s==t)=false:=by(refine(beq_eq_false_iff_ne).mpr ?_);exact h
   (erw[this,if_neg h];with_reducible rfl)
theorem jO(t:Str)(v:MV):∀L,l6 (.str t) v (fW L)=some (fW (jf t v L))
 |[]=>rfl
 |(s,u)::r=>by
  show(match iE (.str s) (.str t)with|none=>none|some true=>some ((MV.str s,v)::fW r)|some false=>(l6 (.str t) v (fW r)).map ((MV.str s,u):: ·))=_
  have e:iE (.str s) (.str t)=some (s==t):=rfl
  (erw[e,jO t v r])
  show _=some (fW (if s=t then(s,v)::r else(s,u)::jf t v r))
  by_cases h:s=t
  ·apply dE h;(rw[beq_self_eq_true];erw[if_pos rfl]);rfl
  ·have:(s==t)=false:=by(refine(beq_eq_false_iff_ne).mpr ?_);exact h
   (erw[this,if_neg h]);rfl
noncomputable def sm:List (Str×MV):=[("ccmp",.int 0),("rtla",.int 0),("isol",.int 1),("fina",.int 2),("medi",.int 3),("init",.int 4),("rlig",.int 5)]
theorem C6{Q:MV→MH→Prop}(q:∀p H',Nu H (.dict (fW sm)) p H'→Q (.ref p) H'):WC (cn (d+1)) 1997 [] H Q:=by
 have e:iF [(MV.str "ccmp",MV.int 0),(MV.str "rtla",MV.int 0),(MV.str "isol",MV.int 1),(MV.str "fina",MV.int 2),(MV.str "medi",MV.int 3),(MV.str "init",MV.int 4),(MV.str "rlig",MV.int 5)] []=some (fW sm):=by kernel_rfl
 exact bC Jf rfl (au e (bn q))
theorem Cb(tag:String):(gv (ag tag) sm).getD (.int 6)=.int (stageL tag):=by
 have g:∀{s:String}{v:MV}{r:List (Str×MV)},gv (ag tag) ((ag s,v)::r)=if tag=s then some v else gv (ag tag) r:=fun{s v r}=>by
  show(if ag s=ag tag then some v else _)=_
  by_cases h:tag=s
  ·(erw[if_pos h];exact if_pos (by rw[h]))
  ·(erw[if_neg h,if_neg fun q=>h (fF.mp q).symm];with_reducible rfl)
 unfold sm stageL
 (erw[g,g,g,g,g,g,g])
 by_cases h1:tag="ccmp"
 ·rw[if_pos h1,if_pos (.inl h1)];rfl
 rw[if_neg h1]
 by_cases h2:tag="rtla"
 ·rw[if_pos h2,if_pos (.inr h2)];rfl
 (erw[if_neg h2,if_neg (show¬(tag="ccmp"∨tag="rtla")from fun h=>h.elim h1 h2)])
 split
 ·rfl
 split
 ·rfl
 split
 ·rfl
 split
 ·rfl
 split<;>rfl
noncomputable def lV(H:MH)(p:Nat)(fs:List (String×List Nat)):Prop:=∃vs,H[p]?=some (.list vs)∧vs.length=fs.length∧∀(i:Nat) f,fs[i]?=some f→∃r:Nat,vs[i]?=some (.tup [.str f.1,.ref r])∧H[r]?=some (.list (f.2.map fun(n:Nat)=>.int (n:Int)))
noncomputable def qz(H:MH)(p:Nat)(ms:List (List (MV×MV))):Prop:=∃vs,H[p]?=some (.list vs)∧vs.length=ms.length∧∀(i:Nat) es,ms[i]?=some es→∃r:Nat,vs[i]?=some (.ref r)∧H[r]?=some (.dict es)
theorem lV.gr{H':MH}{p:Nat}{fs:List (String×List Nat)}(x:lV H p fs)(g:Gr H H'):lV H' p fs:=by
 (refine dH x fun vs h1 h2 h3=>?_;clear x)
 exact⟨vs,g.at h1,h2,fun i f e=>by refine aM (h3 i f e) fun r a b=>?_;exact⟨r,a,g.at b⟩⟩
theorem qz.gr{H':MH}{p:Nat}{ms:List (List (MV×MV))}(x:qz H p ms)(g:Gr H H'):qz H' p ms:=by
 (refine dH x fun vs h1 h2 h3=>?_;clear x)
 exact⟨vs,g.at h1,h2,fun i f e=>by refine aM (h3 i f e) fun r a b=>?_;exact⟨r,a,g.at b⟩⟩
noncomputable def jt(es:List (MV×MV)):Prop:=∀g:Int,∃r,gR (.int g) es=some r∧∀v,r=some v→∃g':Int,v=.int g'∧0≤g'∧g' < 40
noncomputable def iZ(es:List (MV×MV))(g:Int):Int:=match gR (.int g) es with
 |some (some (.int g'))=>g'
 |_=>g
theorem CZ{es:List (MV×MV)}(h:jt es)(g:Int):∃r,gR (.int g) es=some r∧r.getD (.int g)=.int (iZ es g):=by
 refine aM (h g) fun r e k=>?_
 refine⟨r,e,?_⟩
 unfold iZ
 (erw[e])
 cases r with
 |none=>rfl
 |some v=>(refine aM (k v rfl) fun g' q0_ z_=>?_;first|apply dE q0_|apply d6 q0_);rfl
theorem jT(L:List Int):gY (L.map .int)=some L:=by
 induction L with
 |nil=>rfl
 |cons a r ih=>
  show(gY (r.map .int)).map (a:: ·)=_
  (erw[ih]);rfl
theorem De{r:Nat}{L:List Nat}{n:Nat}(h:H[r]?=some (.list (L.map fun(n:Nat)=>.int (n:Int)))):rd H (.int n) (.ref r)=some (L.contains n):=by
 have e:(L.map fun(n:Nat)=>MV.int (n:Int))=(L.map fun(n:Nat)=>(n:Int)).map .int:=by(erw[bc]);rfl
 unfold rd
 dsimp only
 (erw[h])
 (erw[e];show(gY _).map _=_;rw[jT])
 refine congrArg some ?_
 show(L.map fun(n:Nat)=>(n:Int)).any (fun x=>x==(n:Int))=_
 clear h e
 induction L with
 |nil=>rfl
 |cons a r ih=>
  (erw[bj,dr,ih];rw[DS])
  congr 1
  (refine(fP).mpr ?_);simp only[beq_iff_eq];lia
theorem KO{r:Nat}{L:List Nat}{n:Nat}(h:H[r]?=some (.list (L.map fun(n:Nat)=>.int (n:Int)))):nB H .In (.int n) (.ref r)=some (L.contains n):=De h
structure bQ where
 feats:List (String×List Nat)
 maps:List (List (MV×MV))
 req:Int
 arab:Bool
 wish:gn
noncomputable def tZ(X:bQ)(form:String)(c:Int)(s n pl:Nat):Bool:=match X.feats[pl]? with
 |some (tag,lk)=>lk.contains n&&(!X.arab||stageL tag==s)&&((pl:Int)==X.req||countsL tag X.arab form c X.wish)
 |none=>false
noncomputable def EV(X:bQ)(form:String)(c:Int)(s n:Nat):Bool:=(aE X.feats.length).any (tZ X form c s n)
noncomputable def oU(X:bQ)(form:String)(c:Int)(s:Nat)(g:Int)(n:Nat):Int:=if EV X form c s n then iZ (X.maps.getD n []) g else g
noncomputable def kI(X:bQ)(form:String)(c:Int)(g:Int):Int:=(aE (if X.arab then 7 else 1)).foldl (fun g s=>(aE X.maps.length).foldl (oU X form c s) g) g
structure LG(X:bQ)(form:String)(c:Int)(pf pm:Nat)(L:dn):Prop where
 f:L 34=some (.ref pf)
 r:L 97=some (.int X.req)
 m:L 79=some (.ref pm)
 s:L 102=some (cc X.arab)
 fo:L 39=some (.str form)
 c:L 20=some (.int c)
 w:L 130=some (nK X.wish)
theorem GP(f:Nat→Bool)(n:Nat):(aE (n+1)).any f=((aE n).any f||f n):=by
 (erw[cX,tN]);simp
theorem s6{α:Type}(f:α→Nat→α)(a:α)(n:Nat):(aE (n+1)).foldl f a=f ((aE n).foldl f a) n:=by
 (erw[cX,hJ]);rfl
structure tI(X:bQ)(pf pm:Nat)(H:MH):Prop where
 F:lV H pf X.feats
 M:qz H pm X.maps
 fl:X.feats.length≤900
 ml:X.maps.length≤900
 ok:∀es∈X.maps,jt es
theorem tI.gr{X:bQ}{pf pm:Nat}{H':MH}(x:tI X pf pm H)(g:Gr H H'):tI X pf pm H':=⟨x.F.gr g,x.M.gr g,x.fl,x.ml,x.ok⟩
structure Qn(X:bQ)(form:String)(c g:Int)(pf pm s n:Nat)(b:Bool)(H:MH)(L:dn)(H':MH):Prop where
 gr:Gr H H'
 A:LG X form c pf pm L
 g:L 45=some (.int g)
 s:L 113=some (.int s)
 n:L 87=some (.int n)
 r:L 60=some (.bool b)
theorem yo{X:bQ}{form:String}{c g:Int}{pf pm s n:Nat}(G:tI X pf pm H){L:dn}{H₀:MH}(A:Qn X form c g pf pm s n false H L H₀){Q:aT MF}
 (k:∀L H',Qn X form c g pf pm s n (EV X form c s n) H L H'→Q .next L H'):
 rj (.range 0 (X.feats.length:Nat)) (gu 91) (gD (uC (cn (d+1)))) L H₀ Q:=by
 refine gL (fun i L H'=>Qn X form c g pf pm s n ((aE i).any (tZ X form c s n)) H L H') (aL G.fl (by decide)) A (fun i L₁ H₁ hi hI K kk=>?_) k
 obtain⟨g1,⟨af,ar,am,as,afo,ac,aw⟩,a1,a2,a3,a4⟩:=hI
 refine dH ((G.gr g1).F) fun vs v1 v2 v3=>?_
 have hf:X.feats[i]?=some X.feats[i]:=an hi
 refine aM (v3 i _ hf) fun r r1 r2=>?_
 have hit:tZ X form c s n i=(match X.feats[i]? with|some (tag,lk)=>lk.contains n&&(!X.arab||stageL tag==s)&&((i:Int)==X.req||countsL tag X.arab form c X.wish)|none=>false):=rfl
 rw[hf]at hit
 revert hit r1 r2
 generalize X.feats[i]=f
 obtain⟨tag,lk⟩:=f
 intro r1 r2 hit
 dsimp only at r1 r2 hit
 have gi:bp H₁ (.ref pf) (.int i)=some (.tup [.str tag,.ref r]):=(cv v1 (ck hi (aL G.fl (by decide)))).trans r1
 have go:∀{L:dn}{H':MH}(b:Bool),tZ X form c s n i=b→Qn X form c g pf pm s n ((aE i).any (tZ X form c s n)||b) H L H'→K .next L H':=fun b e J=>kk.next _ _ (by(rw[GP];erw[e]);exact J)
 have no:∀{H':MH},tZ X form c s n i=false→Gr H₁ H'→K .next (sN 77 (.ref r) (sN 120 (.str tag) (sN 91 (.int i) L₁))) H':=fun e k=>go false e ⟨g1.trans k,⟨af,ar,am,as,afo,ac,aw⟩,a1,a2,a3,by rw[f0];exact a4⟩
 have yes:∀{H':MH},tZ X form c s n i=true→Gr H₁ H'→K .next (sN 60 (.bool true) (sN 77 (.ref r) (sN 120 (.str tag) (sN 91 (.int i) L₁)))) H':=fun e k=>go true e ⟨g1.trans k,⟨af,ar,am,as,afo,ac,aw⟩,a1,a2,a3,by rw[gN];rfl⟩
 refine ay af (au gi (sq (ay a3 (au (KO r2) (gQ (fun hc=>?_) fun hc=>?_)))))
 ·replace hit:=(hc)▸hit
  have rest:∀{H'},Gr H₁ H'→(!X.arab||stageL tag==s)=true→(gD [fJ (Hp [(cp (ae 91) .Eq (ae 97)),(ej (aK (cn (d+1)) 2021 [(ae 120),(ae 102),(ae 39),(ae 20),(ae 130)]))]) [bN 60 (ao (.bool true))] []]).wp (sN 77 (.ref r) (sN 120 (.str tag) (sN 91 (.int i) L₁))) H' K:=fun{H'} g2 hs=>by
   replace hit:=(hs)▸hit
   refine ay ar (dc (fun hq=>?_) fun hq=>ay as (ay afo (ay ac (ay aw (zZ (gQ (fun hx=>?_) fun hx=>?_))))))
   ·exact yes (by(erw[hit,show((i:Int)==X.req)=true from decide_eq_true hq]);rfl) g2
   ·exact yes (by(erw[hit,hx];rw[gN]);rfl) g2
   ·exact no (by(erw[hit,hx,show((i:Int)==X.req)=false from decide_eq_false hq]);rfl) g2
  refine ay as (au Dy (gQ (fun ha=>rest (Gr.refl _) (by(erw[ha]);rfl)) fun ha=>C6 fun p H' nu=>?_))
  refine au (gI nu.at_) (jZ nu.at_ rfl (l0 _ sm) ?_)
  rw[Cb]
  refine ay a2 (dc (fun hs=>rest nu.gr (by(erw[show(stageL tag==s)=true from decide_eq_true (Int.ofNat.inj hs)];rw[gN]))) fun hs=>no ?_ nu.gr)
  (erw[hit,ha,show(stageL tag==s)=false from decide_eq_false fun h=>hs (congrArg Int.ofNat h)]);rfl
 ·exact no (by(erw[hit,hc]);rfl) (Gr.refl _)
end
noncomputable def pP(ts:List iy)(i:Nat):iy:=(ts[i]?).getD .T
noncomputable def jG(ts:List iy)(i:Nat):Bool:=pP ts i != .T
noncomputable def SS(ts:List iy)(m:Nat):List Nat:=(aE m).filter (jG ts)
noncomputable def gG(ts:List iy)(n i:Nat):List Nat:=(aE n).filter fun m=>decide (i < m)&&jG ts m
noncomputable def hb(ts:List iy)(i:Nat):Bool:=match(SS ts i).getLast? with
 |some j=>(pP ts j).on
 |none=>false
noncomputable def hh(ts:List iy)(i:Nat):Bool:=(pP ts i).on&&match(gG ts ts.length i).head? with
 |some j=>(pP ts j).back
 |none=>false
noncomputable def cY(ts:List iy)(i:Nat):String:=if(pP ts i).back then wz (hb ts i) (hh ts i)else""
theorem wR(ts:List iy)(m:Nat):SS ts (m+1)=SS ts m++(if jG ts m then[m]else[]):=by
 unfold SS
 (erw[cX];rw[cV])
 congr 1
 by_cases h:jG ts m=true
 ·(erw[if_pos h,bG h]);rfl
 ·(erw[if_neg h,bH h]);rfl
theorem CJ(ts:List iy)(n i:Nat):gG ts (n+1) i=gG ts n i++(if(decide (i < n)&&jG ts n)=true then[n]else[]):=by
 unfold gG
 (erw[cX];rw[cV])
 congr 1
 by_cases h:(decide (i < n)&&jG ts n)=true
 ·(erw[if_pos h];rw[bG (by exact h)]);rfl
 ·(erw[if_neg h];rw[bH (by exact h)]);rfl
theorem CK(ts:List iy){n i:Nat}(h:n≤i+1):gG ts n i=[]:=by
 unfold gG
 (refine(jc).mpr ?_)
 intro m hm
 rw[cg]at hm
 have:¬i < m:=by omega
 simp[this]
theorem j0(ts:List iy){i:Nat}(hi:jG ts i=true):∀{n:Nat},i < n→SS ts n=SS ts i++i::gG ts n i:=by
 intro n
 induction n with
 |zero=>intro h;exact absurd ‹_› (fS _)
 |succ n ih=>
  intro h
  rw[wR,CJ]
  by_cases hn:n=i
  ·subst hn
   (erw[if_pos hi,CK ts (cN _)])
   simp
  ·have hlt:i < n:=by omega
   (erw[ih hlt])
   simp[hlt]
theorem oG(ts:List iy){m j:Nat}:j∈SS ts m↔j < m∧jG ts j=true:=by
 unfold SS;rw[bt,cg]
theorem G4(ts:List iy)(m:Nat):(SS ts m).Nodup:=by
 unfold SS;exact(Hx).filter _
theorem xS{L:List Nat}(nd:L.Nodup){i j:Nat}{x:Nat}(h1:L[i]?=some x)(h2:L[j]?=some x):i=j:=by
 obtain⟨l1,e1⟩:=ai.mp h1
 obtain⟨l2,e2⟩:=ai.mp h2
 rcases Ht i j with q|q|q
 ·exact absurd (e1.trans e2.symm) (dQ.mp nd i j l1 l2 q)
 ·exact q
 ·exact absurd (e2.trans e1.symm) (dQ.mp nd j i l2 l1 q)
theorem G5(ts:List iy){n j i:Nat}(h:(SS ts n)[j]?=some i):i < n∧jG ts i=true∧j=(SS ts i).length∧(0 < j→(SS ts n)[j - 1]?=(SS ts i).getLast?)∧(SS ts n)[j+1]?=(gG ts n i).head?:=by
 have hm:=(oG ts).mp (ak h)
 have e:=j0 ts hm.2 hm.1
 have hj:j=(SS ts i).length:=by
  refine xS (G4 ts n) h ?_
  (erw[e,aX (aY _)];rw[rn]);rfl
 refine⟨hm.1,hm.2,hj,fun hp=>?_,?_⟩
 ·(erw[e];rw[aI (by omega)];erw[List.getLast?_eq_getElem?,hj];with_reducible rfl)
 ·(erw[e];rw[aX (by omega)];erw[hj])
  (erw[show(SS ts i).length+1 - (SS ts i).length=0+1 from by lia,y6,List.head?_eq_getElem?];with_reducible rfl)
noncomputable def gw(ts:List iy):Nat→List (Nat×Nat)
 |0=>[]
 |m+1=>gw ts m++(match(SS ts m).getLast? with
  |some p=>if(jG ts m&&(pP ts p).on&&(pP ts m).back)=true then[(p,m)]else[]
  |none=>[])
theorem jN(ts:List iy){a b:Nat}:∀{m:Nat},(a,b)∈gw ts m↔b < m∧jG ts b=true∧(SS ts b).getLast?=some a∧(pP ts a).on=true∧(pP ts b).back=true:=by
 intro m
 induction m with
 |zero=>simp[gw]
 |succ m ih=>
  rw[gw,aH,ih]
  constructor
  ·rintro(⟨h1,h2⟩|h)
   ·exact⟨by omega,h2⟩
   ·set_option tactic.hygienic true in split at h
    ·rename_i p hp
     set_option tactic.hygienic true in split at h
     ·rename_i hc
      simp only[bf]at hc
      replace h:=(ax).mp h
      cases h
      exact⟨d4 _,hc.1.1,hp,hc.1.2,hc.2⟩
     ·cases h
    ·cases h
  ·rintro⟨h1,h2,h3,h4,h5⟩
   by_cases hb:b < m
   ·exact .inl ⟨hb,h2,h3,h4,h5⟩
   ·have:b=m:=by omega
    apply dE this
    right
    (erw[h3])
    simp[h2,h4,h5]
theorem vv{ts:List iy}{i:Nat}(h:(pP ts i).back=true):jG ts i=true:=by
 unfold jG
 revert h
 cases pP ts i<;>intro h<;>first|rfl|exact Bool.noConfusion h
theorem A9{ts:List iy}{i:Nat}(h:(pP ts i).on=true):jG ts i=true:=by
 unfold jG
 revert h
 cases pP ts i<;>intro h<;>first|rfl|exact Bool.noConfusion h
theorem Po(ts:List iy){n i:Nat}(hi:i < n)(hbk:(pP ts i).back=true):(gw ts n).any (fun p=>p.2==i)=hb ts i:=by
 (refine(fP).mpr ?_;rw[dW])
 unfold hb
 constructor
 ·rintro⟨⟨a,b⟩,hm,he⟩
  refine rO ((jN ts).mp hm) fun z_ z_ h3 h4 z_=>?_
  have:b=i:=by simpa using he
  apply dE this
  (erw[h3]);exact h4
 ·intro h
  cases hg:(SS ts i).getLast? with
  |none=>rw[hg]at h;exact Bool.noConfusion h
  |some a=>
   rw[hg]at h
   exact⟨(a,i),(jN ts).mpr ⟨hi,vv hbk,hg,h,hbk⟩,by simp⟩
theorem Pl(ts:List iy){i:Nat}(hi:i < ts.length):(gw ts ts.length).any (fun p=>p.1==i)=hh ts i:=by
 (refine(fP).mpr ?_;rw[dW])
 unfold hh
 constructor
 ·rintro⟨⟨a,b⟩,hm,he⟩
  refine rO ((jN ts).mp hm) fun h1 h2 h3 h4 h5=>?_
  have:a=i:=by simpa using he
  apply dE this
  have hn:=A9 h4
  have hab:a < b:=((oG ts).mp (ie h3)).1
  have e:=j0 ts hn hab
  have er:gG ts b a=[]:=by
   rw[e]at h3
   cases hr:gG ts b a with
   |nil=>rfl
   |cons x r=>
    rw[hr]at h3
    have hx:(SS ts a++a::x::r).getLast?=(x::r).getLast?:=by
     (erw[List.getLast?_append,List.getLast?_cons_cons])
     cases hq:(x::r).getLast? with
     |none=>simp at hq
     |some y=>rfl
    rw[hx]at h3
    have hmem:=ie h3
    rw[←hr]at hmem
    unfold gG at hmem
    rw[bt]at hmem
    simp at hmem
  have e2:SS ts ts.length=SS ts b++b::gG ts ts.length b:=j0 ts h2 h1
  have e3:=j0 ts hn (ck hab h1)
  rw[e,er]at e2
  rw[e2]at e3
  have e4:b::gG ts ts.length b=gG ts ts.length a:=by
   have:SS ts a++(a::b::gG ts ts.length b)=SS ts a++a::gG ts ts.length a:=by simpa using e3
   have:=za this
   exact(wY this).2
  (erw[←e4,h4])
  simp[h5]
 ·intro h
  rw[bf]at h
  refine d9 h fun h4 h=>?_
  have hn:=A9 h4
  cases hr:gG ts ts.length i with
  |nil=>rw[hr]at h;exact Bool.noConfusion h
  |cons b r=>
   rw[hr]at h
   have hbk:(pP ts b).back=true:=h
   have e:=j0 ts hn hi
   replace e:=(hr)▸e
   have hbm:b∈SS ts ts.length:=by(erw[e]);simp
   have hb1:=(oG ts).mp hbm
   have hbr:b∈gG ts ts.length i:=by(erw[hr]);exact .head _
   have hib:i < b:=by unfold gG at hbr;rw[bt]at hbr;simp at hbr;exact hbr.2.1
   have e2:=j0 ts hb1.2 hb1.1
   have e3:=j0 ts hn hib
   have hnil:gG ts b i=[]:=by
    rw[e3]at e2
    have:SS ts i++(i::(b::r))=SS ts i++(i::(gG ts b i++b::gG ts ts.length b)):=by(erw[←e,e2]);simp
    have:=(wY (za this)).2
    cases hq:gG ts b i with
    |nil=>rfl
    |cons x q=>
     rw[hq]at this
     have hx:x=b:=(wY this).1.symm
     have hxm:x∈gG ts b i:=by(erw[hq]);exact .head _
     unfold gG at hxm
     rw[bt,cg]at hxm
     omega
   refine⟨(i,b),(jN ts).mpr ⟨hb1.1,hb1.2,?_,h4,hbk⟩,by simp⟩
   (erw[e3,hnil]);simp
section
variable{d:Nat}{H:MH}
structure Sq(X:bQ)(form:String)(c g:Int)(pf pm:Nat)(H:MH)(L:dn)(H':MH):Prop where
 gr:Gr H H'
 A:LG X form c pf pm L
 g:L 45=some (.int g)
structure RX(X:bQ)(form:String)(c g:Int)(pf pm s:Nat)(H:MH)(L:dn)(H':MH):Prop where
 t:Sq X form c g pf pm H L H'
 s:L 113=some (.int s)
theorem kK{n:Nat}(h:n≤900):big (n:Int)=false:=eK (aL h (by decide))
theorem wt{X:bQ}{form:String}{c:Int}{pf pm s:Nat}(G:tI X pf pm H){g:Int}{L:dn}{H₀:MH}(A:RX X form c g pf pm s H L H₀){Q:aT MF}
 (k:∀L H',RX X form c ((aE X.maps.length).foldl (oU X form c s) g) pf pm s H L H'→Q .next L H'):
 rj (.range 0 (X.maps.length:Nat)) (gu 87) (gD (uB (cn (d+1)))) L H₀ Q:=by
 refine gL (fun i L H'=>RX X form c ((aE i).foldl (oU X form c s) g) pf pm s H L H') (aL G.ml (by decide)) A (fun i L₁ H₁ hi hI K kk=>?_) k
 replace kk:=kk.next
 rw[s6]at kk
 revert hI kk
 generalize(aE i).foldl (oU X form c s) g=gi
 rintro⟨⟨g1,⟨af,ar,am,as,afo,ac,aw⟩,a1⟩,a2⟩ kk
 refine dH ((G.gr g1).F) fun fs f1 f2 z_=>?_
 refine dH ((G.gr g1).M) fun ms m1 m2 m3=>?_
 refine sq (ay af (fj (n:=X.feats.length) ((cw f1).trans (congrArg some f2)) (ah G.fl (by decide)) (cP (kK G.fl) ?_)))
 refine yo (G.gr g1) (form:=form) (c:=c) (s:=s) (n:=i) (g:=gi) ?_ fun L' H' J=>?_
 ·exact⟨Gr.refl _,⟨af,ar,am,as,afo,ac,aw⟩,a1,a2,rfl,rfl⟩
 obtain⟨j1,J1,j2,j3,j4,j5⟩:=J
 have hm:X.maps[i]?=some X.maps[i]:=an hi
 refine aM (m3 i _ hm) fun r r1 r2=>?_
 have hok:=G.ok _ (gy hi)
 have hst:oU X form c s gi i=if EV X form c s i then iZ X.maps[i] gi else gi:=by unfold oU;(erw[cU,hm]);rfl
 refine aM (CZ hok gi) fun q q1 q2=>?_
 have gm:bp H' (.ref pm) (.int i)=some (.ref r):=(cv (j1.at m1) (ck hi (aL G.ml (by decide)))).trans r1
 rw[hst]at kk
 refine sq (ay j5 (gQ (fun hr=>?_) fun hr=>?_))
 ·refine ay J1.m (ay j4 (au gm (au (gI (j1.at r2)) (ay j2 (ay j2 (jZ (j1.at r2) rfl q1 ?_))))))
  (erw[q2])
  rw[if_pos hr]at kk
  exact kk _ _ ⟨⟨g1.trans j1,⟨J1.f,J1.r,J1.m,J1.s,J1.fo,J1.c,J1.w⟩,rfl⟩,j3⟩
 ·rw[if_neg (by(erw[hr]);exact Bool.noConfusion)]at kk
  exact kk _ _ ⟨⟨g1.trans j1,J1,j2⟩,j3⟩
theorem C7{X:bQ}{form:String}{c g:Int}{pf pm:Nat}(G:tI X pf pm H){Q:MV→MH→Prop}
 (k:∀H',Gr H H'→Q (.int (kI X form c g)) H'):WC (cn (d+2)) 2028 [.int g,.ref pf,.int X.req,.ref pm,cc X.arab,.str form,.int c,nK X.wish] H Q:=by
 refine bC Ja rfl ?_
 have main:∀N:Nat,N=(if X.arab then 7 else 1)→∀{K:aT MF},(∀L H',Gr H H'→L 45=some (.int (kI X form c g))→K .next L H')→rj (.range 0 (N:Nat)) (gu 113) (gD (uA (cn (d+1)))) (zX [(45,.int g),(34,.ref pf),(97,.int X.req),(79,.ref pm),(102,cc X.arab),(39,.str form),(20,.int c),(130,nK X.wish)]) H K:=by
  intro N hN K hK
  have hN7:N≤7:=by(erw[hN]);split<;>decide
  refine gL (fun i L H'=>Sq X form c ((aE i).foldl (fun g s=>(aE X.maps.length).foldl (oU X form c s) g) g) pf pm H L H') (aL hN7 (by decide)) ⟨Gr.refl H,⟨rfl,rfl,rfl,rfl,rfl,rfl,rfl⟩,rfl⟩ (fun i L₁ H₁ hi hI K kk=>?_) fun L₁ H₁ hI=>?_
  ·replace kk:=kk.next
   rw[s6]at kk
   revert hI kk
   generalize(aE i).foldl (fun g s=>(aE X.maps.length).foldl (oU X form c s) g) g=gi
   rintro⟨g1,A1,a1⟩ kk
   refine dH ((G.gr g1).M) fun ms m1 m2 m3=>?_
   refine ay A1.m (fj (n:=X.maps.length) ((cw m1).trans (congrArg some m2)) (ah G.ml (by decide)) (cP (kK G.ml) ?_))
   refine wt (G.gr g1) (form:=form) (c:=c) (s:=i) (g:=gi) ?_ fun L' H' J=>?_
   ·exact⟨⟨Gr.refl _,⟨A1.f,A1.r,A1.m,A1.s,A1.fo,A1.c,A1.w⟩,a1⟩,rfl⟩
   exact kk _ _ ⟨g1.trans J.t.gr,J.t.A,J.t.g⟩
  ·obtain⟨g1,A1,a1⟩:=hI
   replace a1:=(hN)▸a1
   exact hK _ _ g1 a1
 refine au jr (gQ (fun ha=>cP rfl (main 7 (by(erw[ha]);rfl) ?_)) fun ha=>cP rfl (main 1 (by(erw[ha]);rfl) ?_))
 all_goals exact fun L H' g1 e=>sq (ay e (k H' g1))
end
section
variable{d:Nat}{H:MH}
theorem AN(t:iy):nB H .NotEq (.str t.s) (.str (ag "T"))=some (t != .T):=by cases t<;>kernel_rfl
theorem AM(t:iy):nB H .NotEq (.str t.s) (.str (ag "U"))=some (t != .U):=by cases t<;>kernel_rfl
theorem HE(t:iy):nB H .NotEq (.str t.s) (.str (ag "R"))=some (t != .R):=by cases t<;>kernel_rfl
theorem El(t:iy):nB H .In (.str t.s) (.tup [.str (ag "D"),.str (ag "C")])=some t.on:=by cases t<;>kernel_rfl
noncomputable abbrev iO(ts:List iy):List MV:=ts.map fun t=>.str t.s
theorem rY{p:Nat}{ts:List iy}(h:H[p]?=some (.list (iO ts)))(hl:ts.length≤900){i:Nat}(hi:i < ts.length):bp H (.ref p) (.int i)=some (.str (pP ts i).s):=by
 (erw[cv h (av hi (ah hl (by decide))),aq])
 unfold pP
 (erw[an hi]);rfl
theorem rx{p:Nat}{L:List Nat}(h:H[p]?=some (.list (L.map fun(n:Nat)=>.int (n:Int)))){i x:Nat}(hl:i < 1000000)(hi:L[i]?=some x):bp H (.ref p) (.int i)=some (.int x):=by
 (erw[cv h hl,aq,hi]);rfl
noncomputable def LD(rs:List (Int×Int))(c:Int):Bool:=rs.any fun r=>decide (r.1≤c)&&decide (c≤r.2)
theorem qk{p:Nat}{rs:List (Int×Int)}{c:Int}(h:H[p]?=some (.list (rs.map fun r=>.tup [.int r.1,.int r.2]))){Q:MV→MH→Prop}(q:Q (.bool (LD rs c)) H):WC (cn (d+1)) 928 [.ref p,.int c] H Q:=by
 refine bC Nm rfl ?_
 refine cE (vs:=rs.map fun r=>.tup [.int r.1,.int r.2]) (fun i L H'=>H'=H∧L 21=some (.int c)∧LD (rs.take i) c=false) ⟨rfl,rfl,rfl⟩ (fun i L H' hI=>hI.1▸h) (fun i x L H' hx hI K kk=>?_) fun L H' hI=>?_
 ·obtain⟨rfl,h1,h2⟩:=hI
  replace hx:=(aq)▸hx
  obtain⟨r,hr,rfl⟩:=az.mp hx
  have hall:(decide (r.1≤c)&&decide (c≤r.2))=false→LD (rs.take (i+1)) c=false:=fun e=>by
   unfold LD at h2 ⊢
   (erw[aO,hr,tN,h2])
   show(decide (r.1≤c)&&decide (c≤r.2)||false)=false
   (erw[e]);rfl
  refine ay h1 (dc (fun c1=>dc (fun c2=>?_) fun c2=>?_) fun c1=>?_)
  ·have hm:LD rs c=true:=dW.mpr ⟨r,ak hr,by(erw[decide_eq_true c1,decide_eq_true c2]);rfl⟩
   rw[hm]at q
   exact kk.ret _ _ _ q
  ·exact kk.next _ _ ⟨rfl,h1,hall (by(erw[decide_eq_false c2];rw[d7]))⟩
  ·exact kk.next _ _ ⟨rfl,h1,hall (by(erw[decide_eq_false c1]);rfl)⟩
 ·obtain⟨rfl,h1,h2⟩:=hI
  rw[aj,aZ]at h2
  rw[h2]at q
  exact sq q
noncomputable def E7:List (Int×Int):=[(768,879),(1552,1562),(1611,1631),(1648,1648),(1750,1756),(1759,1764),(1767,1768),(1770,1773),(65024,65039)]
noncomputable def Ge:List (Int×Int):=[(1568,1568),(1574,1574),(1576,1576),(1578,1582),(1587,1599),(1601,1607),(1609,1610),(1646,1647),(1656,1671),(1690,1727),(1729,1730),(1740,1740),(1742,1742),(1744,1745),(1786,1788),(1791,1791)]
noncomputable def zB:List (Int×Int):=[(1570,1573),(1575,1575),(1577,1577),(1583,1586),(1608,1608),(1649,1651),(1653,1655),(1672,1689),(1728,1728),(1731,1739),(1741,1741),(1743,1743),(1746,1747),(1749,1749),(1774,1775)]
noncomputable abbrev q8(rs:List (Int×Int)):MO:=.list (rs.map fun r=>.tup [.int r.1,.int r.2])
theorem O1:cn (d+1) 949 [] H=some (.ref H.length,H++[q8 E7]):=by kernel_rfl
theorem Pz:cn (d+1) 942 [] H=some (.ref H.length,H++[q8 Ge]):=by kernel_rfl
theorem Ng:cn (d+1) 935 [] H=some (.ref H.length,H++[q8 zB]):=by kernel_rfl
theorem NP{Q:MV→MH→Prop}(q:∀p H',Nu H (q8 E7) p H'→Q (.ref p) H'):WC (cn (d+1)) 949 [] H Q:=.of_eq O1 (q _ _ (Nu.mk' _ _))
theorem Od{Q:MV→MH→Prop}(q:∀p H',Nu H (q8 Ge) p H'→Q (.ref p) H'):WC (cn (d+1)) 942 [] H Q:=.of_eq Pz (q _ _ (Nu.mk' _ _))
theorem I7{Q:MV→MH→Prop}(q:∀p H',Nu H (q8 zB) p H'→Q (.ref p) H'):WC (cn (d+1)) 935 [] H Q:=.of_eq Ng (q _ _ (Nu.mk' _ _))
noncomputable def Si(c:Int):Str:=bif decide (c=8205)||decide (c=1600)then"C" else bif LD E7 c then"T" else bif LD Ge c then"D" else bif LD zB c then"R" else"U"
theorem Pf{c:Int}(hc:c∈K7):(gF c).s=Si c:=by
 rcases k7 hc with rfl|rfl|rfl|rfl|rfl|rfl|rfl<;>kernel_rfl
theorem wg{c:Int}(hc:c∈K7){Q:MV→MH→Prop}(k:∀H',Gr H H'→Q (.str (gF c).s) H'):WC (cn (d+2)) 956 [.int c] H Q:=by
 replace k:=(Pf hc)▸k
 unfold Si at k
 refine bC Nl rfl ?_
 refine(dc (fun h1=>?_) fun h1=>dc (fun h2=>?_) fun h2=>sq (NP fun p1 H1 n1=>qk n1.at_ (gQ (fun h3=>?_) fun h3=>sq (Od fun p2 H2 n2=>qk n2.at_ (gQ (fun h4=>?_) fun h4=>sq (I7 fun p3 H3 n3=>qk n3.at_ (gQ (fun h5=>?_) fun h5=>?_)))))))
 ·rw[decide_eq_true h1]at k;exact k _ (Gr.refl _)
 ·rw[decide_eq_true h2,gN]at k;exact k _ (Gr.refl _)
 all_goals rw[decide_eq_false h1,decide_eq_false h2,h3]at k
 ·exact k _ n1.gr
 all_goals rw[h4]at k
 ·exact k _ (n1.gr.trans n2.gr)
 all_goals rw[h5]at k;exact k _ ((n1.gr.trans n2.gr).trans n3.gr)
end
section
variable{d:Nat}{H:MH}
noncomputable abbrev cJ(L:List Nat):List MV:=L.map fun(n:Nat)=>.int (n:Int)
theorem qq{p y:Nat}{vs:List MV}{c:MV}{L:dn}{Q:aT (List MV)}(h:H[p]?=some (.list vs))(k:∀L',Q (vs.map fun z_=>c) L' H):tK (.ref p) (gu y) (eF []) (fg (ao c)) L H Q:=by
 refine dG (vs:=vs) (fun i acc L H'=>H'=H∧acc=(vs.take i).map fun z_=>c) ⟨rfl,rfl⟩ (fun i acc L H' hI=>hI.1▸h) (fun i v acc L H' hv hI K k0 k1=>?_) fun acc L H' hI=>?_
 ·obtain⟨rfl,rfl⟩:=hI
  exact k1 _ _ _ ⟨rfl,by(erw[aO,hv,aB]);rfl⟩
 ·obtain⟨rfl,rfl⟩:=hI
  (erw[aZ])
  exact k L
theorem dx(L:List Nat):(cJ L).length=L.length:=aj ..
theorem I1(ts:List iy)(m:Nat):(SS ts m).length≤m:=ah (bB _ _) (ff aW)
noncomputable abbrev lJ(ts:List iy)(j:Nat):List MV:=(aE ts.length).map fun i=>.str (ag (if((SS ts ts.length).take j).contains i then cY ts i else""))
structure TL(ts:List iy)(p q f:Nat)(H:MH)(j:Nat)(L:dn)(H':MH):Prop where
 gr:Mo (· =f) H H'
 ty:L 123=some (.ref p)
 se:L 105=some (.ref q)
 fo:L 42=some (.ref f)
 at_:H'[f]?=some (.list (lJ ts j))
theorem uI{α:Type}(n i:Nat)(f:Nat→α)(x:α)(hi:i < n):((aE n).map f).set i x=(aE n).map fun k=>if k=i then x else f k:=by
 apply bK
 intro k
 (erw[aq])
 by_cases hk:k < n
 ·(erw[cH hk])
  by_cases h:k=i
  ·apply dE h
   rw[db (by rw[aj,aW];exact hk)]
   show _=some (if k=k then x else f k)
   (erw[if_pos rfl];with_reducible rfl)
  ·(erw[cT (bS h),aq,cH hk])
   show _=some (if k=i then x else f k)
   (erw[if_neg h]);rfl
 ·(rw[cF (by rw[mR,aj,aW];exact aC.mp hk)];erw[cF (by rw[aW];exact aC.mp hk)]);rfl
theorem O4{t:iy}(h1:t≠.T)(h2:t≠.U):t.back=true∧t.on=(t != .R):=by cases t<;>first|exact absurd rfl h1|exact absurd rfl h2|exact⟨rfl,rfl⟩
theorem K0{t:iy}(h1:t≠.T):t.back=(t != .U):=by cases t<;>first|exact absurd rfl h1|rfl
theorem Ec(S:List Nat){j i:Nat}(hi:S[j]?=some i)(x:Nat):(S.take (j+1)).contains x=((S.take j).contains x||decide (x=i)):=by
 (erw[aO,hi];rw[fP,cb,cG,cG,aH,decide_eq_true_iff])
 exact or_congr Iff.rfl ax
theorem Dj{ts:List iy}{i j:Nat}(hi:(SS ts ts.length)[j]?=some i)(s1:i < ts.length):(lJ ts j).set i (.str (ag (cY ts i)))=lJ ts (j+1):=by
 (erw[uI _ _ _ _ s1])
 refine bL fun x z_=>?_
 rw[Ec _ hi]
 by_cases hx:x=i
 ·apply dE hx;(erw[if_pos rfl];rw[decide_eq_true rfl,gN]);rfl
 ·(erw[if_neg hx,decide_eq_false hx];rw[f0])
theorem z9{ts:List iy}{i j:Nat}(hi:(SS ts ts.length)[j]?=some i)(hU:cY ts i=""):lJ ts j=lJ ts (j+1):=by
 refine bL fun x z_=>?_
 rw[Ec _ hi]
 by_cases hx:x=i
 ·subst hx;(erw[hU]);split<;>split<;>rfl
 ·(erw[decide_eq_false hx];rw[f0])
theorem Dk(ts:List iy):lJ ts (SS ts ts.length).length=(aE ts.length).map fun i=>.str (ag (cY ts i)):=by
 unfold lJ
 (erw[aZ])
 refine bL fun x hx=>?_
 rw[cg]at hx
 by_cases hn:jG ts x=true
 ·(erw[show(SS ts ts.length).contains x=true from cG.mpr ((oG ts).mpr ⟨hx,hn⟩)]);rfl
 ·(erw[(show cY ts x="" from if_neg fun q=>hn (vv q))]);split<;>rfl
theorem C8{p:Nat}{ts:List iy}(h:H[p]?=some (.list (iO ts)))(hl:ts.length≤7){Q:MV→MH→Prop}
 (k:∀H' q,Gr H H'→H'[q]?=some (.list ((aE ts.length).map fun i=>.str (ag (cY ts i))))→Q (.ref q) H'):WC (cn (d+1)) 2014 [.ref p] H Q:=by
 have hlv:(iO ts).length=ts.length:=aj ..
 have hse:=I1 ts ts.length
 have hl9:ts.length≤900:=ah hl (by decide)
 have hb7:big (ts.length:Int)=false:=kK hl9
 refine bC Jc rfl ?_
 refine fj (n:=ts.length) ((cw h).trans (congrArg some hlv)) (ah hl (by decide)) (cP hb7 ?_)
 refine fN (fun i acc L H'=>H'=H∧L 123=some (.ref p)∧acc=cJ (SS ts i)) (aL hl (by decide)) ⟨rfl,rfl,rfl⟩ (fun i acc L H' hi hI K k0 k1=>?_) fun acc L H' hI=>?_
 ·obtain⟨rfl,h2,rfl⟩:=hI
  have e1:∀b,jG ts i=b→cJ (SS ts (i+1))=cJ (SS ts i)++cJ (if b=true then[i]else[]):=fun b e=>by
   (rw[wR];erw[e]);exact aB
  refine ay h2 (au (rY h hl9 hi) (au (AN _) (gQ (fun hn=>?_) fun hn=>?_)))
  ·exact k1 _ _ _ ⟨rfl,h2,(e1 true hn).symm⟩
  ·exact k0 _ _ ⟨rfl,h2,(by(erw[e1 false hn]);exact(bk _).symm)⟩
 (refine oO hI fun q0_ h2 q1_=>?_;subst q0_;subst q1_;clear hI)
 refine⟨by rw[dx];exact ah hse (ah hl (by decide)),bn fun q H₁ n1=>sq ?_⟩
 refine qq (n1.gr.at h) fun L'=>⟨by(rw[aj];erw[hlv]);exact ah hl (by decide),bn fun f H₂ n2=>sq ?_⟩
 have hm:((iO ts).map fun z_=>MV.str (ag ""))=lJ ts 0:=by
  show _=(aE ts.length).map fun z_=>MV.str (ag "")
  (erw[mQ,mQ,aW,hlv];with_reducible rfl)
 have gf:=n2.at_
 rw[show((iO ts).map fun z_=>MV.str (ag ""))=lJ ts 0 from hm]at gf
 have gq2:=n2.gr.at n1.at_
 have hqf:q < f:=av (dm n1.at_) n2.le
 have hpf:p < f:=av (dm h) (ah n1.gr.1 n2.le)
 have g2:=n1.gr.trans n2.gr
 refine fj (n:=(SS ts ts.length).length) ((cw gq2).trans (congrArg some (dx _))) (ah hse (ah hl (by decide))) (cP (kK (ah hse hl9)) ?_)
 refine gL (fun j L H'=>TL ts p q f H₂ j L H') (aL (ah hse hl) (by decide)) ⟨Mo.refl _ _,rfl,rfl,rfl,gf⟩ (fun j L H₃ hj hI K kk=>?_) fun L H₃ hI=>?_
 ·obtain⟨i1,i2,i3,i4,i5⟩:=hI
  obtain⟨i,hi⟩:∃i,(SS ts ts.length)[j]?=some i:=⟨_,an hj⟩
  refine rO (G5 ts hi) fun s1 s2 s3 s4 s5=>?_
  have hp3:H₃[p]?=some (.list (iO ts)):=i1.at (g2.at h) (aS hpf)
  have hq3:H₃[q]?=some (.list (cJ (SS ts ts.length))):=i1.at gq2 (aS hqf)
  have big:∀{x},x≤ts.length→x < 1000000:=fun h=>aL (ah h hl) (by decide)
  have tyi:=rY hp3 hl9 s1
  refine ay i3 (au (rx hq3 (big (ah (dO hj) hse)) hi) (sq (ay i2 (au tyi (au (AM _) (gQ (fun hU'=>?_) fun hU'=>?_))))))
  ·have hU:pP ts i≠.U:=fun q=>by rw[q]at hU';exact Bool.noConfusion hU'
   have hT:pP ts i≠.T:=fun q=>by unfold jG at s2;rw[q]at s2;exact Bool.noConfusion s2
   refine d9 (O4 hT hU) fun b1 b2=>?_
   have hform:cY ts i=wz (hb ts i) (hh ts i):=if_pos b1
   have rest2:eG (gD [lD (ae 42) (ae 9) (pO (ej (ae 49)) (pO (ej (ae 50)) (ao (.str "medi")) (ao (.str "fina"))) (pO (ej (ae 50)) (ao (.str "init")) (ao (.str "isol"))))]) (sN 50 (.bool (hh ts i)) (sN 49 (.bool (hb ts i)) (sN 9 (.int i) (sN 91 (.int j) L)))) H₃ K:=by
    have fin:∀{s:String},s=cY ts i→mr (L 42) fun ov=>U (fE ov (.int i) (.str (ag s))) H₃ fun z_ H=>K .next (sN 50 (.bool (hh ts i)) (sN 49 (.bool (hb ts i)) (sN 9 (.int i) (sN 91 (.int j) L)))) H:=fun{s} e=>by
     apply d6 e
     refine ay i4 (qx i5 (by(rw[aj];erw[aW]);exact s1) (by(rw[aj];erw[aW]);exact big (aY _)) ?_)
     (erw[Dj hi s1])
     exact kk.next _ _ ⟨i1.trans (Mo.set (.inl rfl)),i2,i3,i4,cB i5⟩
    refine sq (gQ (fun e1=>gQ (fun e2=>fin ?_) fun e2=>fin ?_) fun e1=>gQ (fun e2=>fin ?_) fun e2=>fin ?_)<;>((erw[hform,e1,e2])<;>rfl)
   have rest:eG (gD [bN 50 (nG [(dR (bx (ae 123) (ae 9)) .NotEq (ao (.str "R"))),(dR (ch .Add (ae 91) (ao (.int 1))) .Lt (bl (.builtin "len") [(ae 105)])),(dR (bx (ae 123) (bx (ae 105) (ch .Add (ae 91) (ao (.int 1))))) .NotEq (ao (.str "U")))]),lD (ae 42) (ae 9) (pO (ej (ae 49)) (pO (ej (ae 50)) (ao (.str "medi")) (ao (.str "fina"))) (pO (ej (ae 50)) (ao (.str "init")) (ao (.str "isol"))))]) (sN 49 (.bool (hb ts i)) (sN 9 (.int i) (sN 91 (.int j) L))) H₃ K:=by
    have hdef:hh ts i=((pP ts i).on&&match(SS ts ts.length)[j+1]? with|some j=>(pP ts j).back|none=>false):=by unfold hh;(erw[s5])<;>rfl
    refine sq (ay i2 (au tyi (au (HE _) (gQ (fun hR=>?_) fun hR=>?_))))
    ·refine ay i3 (fj (n:=(SS ts ts.length).length) ((cw hq3).trans (congrArg some (dx _))) (ah hse (ah hl (by decide))) (dc (fun hj1=>?_) fun hj1=>?_))
     ·have hj1':j+1 < (SS ts ts.length).length:=dd.mp hj1
      obtain⟨a,ha⟩:∃a,(SS ts ts.length)[j+1]?=some a:=⟨_,an hj1'⟩
      have hA:=G5 ts ha
      have hT2:pP ts a≠.T:=fun q=>by have:=hA.2.1;unfold jG at this;rw[q]at this;exact Bool.noConfusion this
      have hd2:hh ts i=(pP ts a != .U):=by(erw[hdef,ha,b2,hR];refine(K0 hT2)▸?_);rfl
      rw[hd2]at rest2
      exact ay i2 (ay i3 (au (rx (i:=j+1) hq3 (big (ah (dO hj1') hse)) ha) (au (rY hp3 hl9 hA.1) (au (AM _) rest2))))
     ·have hno:¬j+1 < (SS ts ts.length).length:=fun q=>hj1 (dd.mpr q)
      rw[hdef,cF (aC.mp hno),d7]at rest2
      (erw[decide_eq_false hj1]);exact rest2
    ·rw[hdef,b2,hR]at rest2
     (erw[hR]);exact rest2
   refine dc (fun hj0=>?_) fun hj0=>?_
   ·have hj0':0 < j:=Int.natCast_pos.mp hj0
    obtain⟨a,ha⟩:∃a,(SS ts ts.length)[j - 1]?=some a:=⟨_,an (aL (Nat.sub_le _ _) hj)⟩
    have ha2:=s4 hj0'
    rw[ha]at ha2
    have hlt:=(G5 ts ha).1
    have e4:((j:Int) - 1)=((j - 1:Nat):Int):=(Int.ofNat_sub hj0').symm
    have hbe:hb ts i=(pP ts a).on:=by unfold hb;(erw[←ha2];with_reducible rfl)
    rw[hbe]at rest
    refine ay i2 (ay i3 (au ((congrArg (fun z=>bp H₃ (.ref q) (.int z)) e4).trans (rx hq3 (big (ah (Nat.sub_le _ _) (ah (dO hj) hse))) ha)) (au (rY hp3 hl9 hlt) (au (El _) rest))))
   ·have:hb ts i=false:=by unfold hb;(erw[(show SS ts i=[]from dA.mp (by lia))]);rfl
    rw[this]at rest
    (erw[decide_eq_false hj0]);exact rest
  ·have hU:cY ts i="":=by
    unfold cY
    rw[show pP ts i=.U from by revert hU';cases pP ts i<;>intro h<;>first|rfl|exact Bool.noConfusion h];rfl
   exact kk.next _ _ ⟨i1,i2,i3,i4,by(refine(z9 hi hU)▸?_);exact i5⟩
 ·obtain⟨i1,i2,i3,i4,i5⟩:=hI
  rw[Dk]at i5
  exact sq (ay i4 (k H₃ f ((g2.mo.trans i1).weaken fun x hx q=>aC.mpr (ah n1.gr.1 n2.le) (q▸hx)) i5))
end
section
variable{d:Nat}{H:MH}
noncomputable abbrev OB(P:List (Nat×Nat)):List MV:=P.map fun(p:Nat×Nat)=>.tup [.int (p.1:Nat),.int (p.2:Nat)]
noncomputable def qL(ts:List iy)(m:Nat):Int:=match(SS ts m).getLast? with
 |some p=>(p:Int)
 |none=> -1
theorem BH(ts:List iy)(m:Nat):(SS ts (m+1)).getLast?=if jG ts m then some m else(SS ts m).getLast?:=by
 rw[wR]
 by_cases h:jG ts m=true
 ·(erw[if_pos h,if_pos h]);simp
 ·(erw[if_neg h,if_neg h]);simp
structure TF(ts:List iy)(p f:Nat)(H:MH)(j:Nat)(L:dn)(H':MH):Prop where
 gr:Mo (· =f) H H'
 ty:L 123=some (.ref p)
 fo:L 42=some (.ref f)
 la:L 70=some (.int (qL ts j))
 at_:H'[f]?=some (.list (OB (gw ts j)))
theorem CP(ts:List iy):∀m,(gw ts m).length≤m:=by
 intro m
 induction m with
 |zero=>simp[gw]
 |succ m ih=>
  (rw[gw];erw[aJ])
  split
  ·split<;>simp<;>omega
  ·simp;omega
theorem mZ{ts:List iy}{j:Nat}(hq:∀q,(SS ts j).getLast?=some q→(jG ts j&&(pP ts q).on&&(pP ts j).back)=false):gw ts (j+1)=gw ts j:=by
 rw[gw]
 cases e:(SS ts j).getLast? with
 |none=>exact bk _
 |some q=>dsimp only;(erw[hq q e];rw[if_neg Bool.noConfusion,bk])
theorem pi{p:Nat}{ts:List iy}(h:H[p]?=some (.list (iO ts)))(hl:ts.length≤7){Q:MV→MH→Prop}
 (k:∀H' q,Gr H H'→H.length≤q→H'[q]?=some (.list (OB (gw ts ts.length)))→Q (.ref q) H'):WC (cn (d+2)) 982 [.ref p] H Q:=by
 have hl9:ts.length≤900:=ah hl (by decide)
 refine bC Nj rfl (bn fun f H₁ n1=>sq (sq ?_))
 have hp1:=n1.gr.at h
 have hpf:p < f:=av (dm h) n1.le
 refine fj (n:=ts.length) ((cw hp1).trans (congrArg some (aj ..))) (ah hl (by decide)) (cP (kK hl9) ?_)
 refine gL (fun j L H'=>TF ts p f H₁ j L H') (aL hl (by decide)) ⟨Mo.refl _ _,rfl,rfl,rfl,n1.at_⟩ (fun j L H₃ hj hI K kk=>?_) fun L H₃ hI=>?_
 ·obtain⟨i1,i2,i3,i4,i5⟩:=hI
  have hp3:H₃[p]?=some (.list (iO ts)):=i1.at hp1 (aS hpf)
  have tyj:=rY hp3 hl9 hj
  refine ay i2 (au tyj (au (AN _) (gQ (fun hn=>?_) fun hn=>?_)))
  ·replace hn:jG ts j=true:=hn
   have hnew:qL ts (j+1)=j:=by unfold qL;(rw[BH];erw[hn]);rfl
   have fin:∀{H':MH}{P},Mo (· =f) H₁ H'→H'[f]?=some (.list (OB P))→gw ts (j+1)=P→eG (gD [bN 70 (ae 9)]) (sN 9 (.int j) L) H' K:=fun a b c=>sq (kk.next _ _ ⟨a,i2,i3,by(erw[hnew]);rfl,by(erw[c]);exact b⟩)
   cases e:(SS ts j).getLast? with
   |none=>
    have hm1:L 70=some (.int (-1)):=i4.trans (by unfold qL;(erw[e];with_reducible rfl))
    exact ay hm1 (fin i1 i5 (mZ fun q hq=>by rw[e]at hq;exact bD hq))
   |some q=>
    have hm1:L 70=some (.int (q:Nat)):=i4.trans (by unfold qL;(erw[e];with_reducible rfl))
    have hq:=(oG ts).mp (ie e)
    refine ay hm1 (ay i2 (ay hm1 (au (rY hp3 hl9 (ck hq.1 hj)) (.of_eq (Db _) (gQ (fun ho=>ay i2 (au tyj (.of_eq (qM _) (gQ (fun hb=>?_) fun hb=>?_)))) fun ho=>?_)))))
    ·have hadd:gw ts (j+1)=gw ts j++[(q,j)]:=by(rw[gw];erw[e]);dsimp only;(erw[hn,ho,hb]);rfl
     refine ay i3 (au (gK i5 rfl) (ay hm1 (lg i5 (by rw[aj];exact ah (CP ts j) (ah (dO hj) (ah hl (by decide)))) ?_)))
     exact fin (P:=gw ts j++[(q,j)]) (i1.setN (.inl rfl)) (by(erw[cB i5]);unfold OB;(erw[aB]);rfl) hadd
    ·exact fin i1 i5 (mZ fun q' hq'=>by(erw[hb];rw[d7]))
    ·exact fin i1 i5 (mZ fun q' hq'=>by rw[e]at hq';(obtain rfl:=ab hq';clear hq');(erw[ho];rw[d7]);rfl)
  ·replace hn:jG ts j=false:=hn
   have h1:qL ts (j+1)=qL ts j:=by unfold qL;(rw[BH];erw[hn]);rfl
   have h2:gw ts (j+1)=gw ts j:=mZ fun q hq=>by(erw[hn]);rfl
   exact kk.next _ _ ⟨i1,i2,i3,by(erw[h1]);exact i4,by(erw[h2]);exact i5⟩
 ·obtain⟨i1,i2,i3,i4,i5⟩:=hI
  exact sq (ay i3 (k H₃ f ((n1.gr.mo.trans i1).weaken fun x hx q=>aC.mpr n1.le (q▸hx)) n1.le i5))
end
section
variable{d:Nat}{H:MH}
noncomputable abbrev qV(n:Nat)(f:Nat→Bool):List MV:=(aE n).map fun i=>.bool (f i)
theorem pG{n:Nat}{f:Nat→Bool}:(qV n f).length=n:=(aj ..).trans aW
theorem By{p n:Nat}{f:Nat→Bool}(h:H[p]?=some (.list (qV n f))){i:Nat}(hi:i < n)(hn:n≤900):bp H (.ref p) (.int i)=some (.bool (f i)):=by
 (erw[cv h (av hi (ah hn (by decide))),aq,cH hi]);rfl
structure TM(ts:List iy)(p a b:Nat)(H:MH)(P:List (Nat×Nat))(L:dn)(H':MH):Prop where
 gr:Mo (fun x=>x=a∨x=b) H H'
 ty:L 123=some (.ref p)
 ha:L 49=some (.ref a)
 hb:L 50=some (.ref b)
 aa:H'[a]?=some (.list (qV ts.length fun i=>P.any fun q=>q.2==i))
 bb:H'[b]?=some (.list (qV ts.length fun i=>P.any fun q=>q.1==i))
theorem yS{n i:Nat}{f g:Nat→Bool}(hi:i < n)(hg:∀k,g k=(f k||i==k)):(qV n f).set i (.bool true)=qV n g:=by
 (erw[uI _ _ _ _ hi])
 refine bL fun k z_=>?_
 rw[hg]
 by_cases h:k=i
 ·apply dE h;(erw[if_pos rfl];rw[beq_self_eq_true,gN])
 ·(erw[if_neg h,show(i==k)=false from beq_eq_false_iff_ne.mpr (bS h)];rw[f0])
theorem B6{ts:List iy}:((iO ts).map fun z_=>MV.bool false)=qV ts.length fun z_=>false:=by
 unfold qV
 (erw[mQ,mQ,aW];rw[aj])
theorem y2{α:Type}(P:List α)(x:α)(f:α→Bool):(P++[x]).any f=(P.any f||f x):=by
 (erw[tN,dr,List.any_nil];rw[f0])
theorem FS{p:Nat}{ts:List iy}(h:H[p]?=some (.list (iO ts)))(hl:ts.length≤7){Q:MV→MH→Prop}
 (k:∀H' q,Gr H H'→H'[q]?=some (.list ((aE ts.length).map fun i=>.str (ag (cY ts i))))→Q (.ref q) H'):WC (cn (d+3)) 994 [.ref p] H Q:=by
 have hsz:(iO ts).length=ts.length:=aj ..
 have hl9:ts.length≤900:=ah hl (by decide)
 have hl1:ts.length≤1000:=ah hl (by decide)
 have hf1:((iO ts).map fun z_=>MV.bool false).length≤1000:=by(rw[aj];erw[hsz]);exact hl1
 refine bC Ni rfl ?_
 refine qq h fun L'=>⟨hf1,bn fun a H₁ n1=>sq (qq (n1.gr.at h) fun L'=>⟨hf1,bn fun b H₂ n2=>sq ?_⟩)⟩
 have ga2:=n2.gr.at n1.at_
 have gb:=n2.at_
 rw[B6]at ga2 gb
 have hpa:p < a:=av (dm h) n1.le
 have hab:a < b:=av (dm n1.at_) n2.le
 refine pi (n2.gr.at (n1.gr.at h)) hl fun H₃ q g3 hlq hq=>?_
 have hbq:b < q:=av (dm gb) hlq
 have g13:=(n1.gr.trans n2.gr).trans g3
 have hp3:=g13.at h
 refine cE (vs:=OB (gw ts ts.length)) (fun j L H'=>TM ts p a b H₃ ((gw ts ts.length).take j) L H') ⟨Mo.refl _ _,rfl,rfl,rfl,g3.at ga2,g3.at gb⟩ (fun j L H' hI=>hI.gr.at hq fun e=>e.elim (cj (ck hab hbq)) (cj hbq)) (fun j x L H₄ hx hI K kk=>?_) fun L H₄ hI=>?_
 ·obtain⟨i1,i2,i3,i4,i5,i6⟩:=hI
  rw[aq]at hx
  obtain⟨⟨u,v⟩,hr,rfl⟩:=az.mp hx
  refine rO ((jN ts).mp (ak hr)) fun m1 m2 m3 m4 m5=>?_
  have hu:u < ts.length:=ck ((oG ts).mp (ie m3)).1 m1
  have tk:(gw ts ts.length).take (j+1)=(gw ts ts.length).take j++[(u,v)]:=by(erw[aO,hr]);rfl
  have big:ts.length < 1000000:=aL hl (by decide)
  refine ay i4 (qx i6 (by(erw[pG]);exact hu) (by(erw[pG]);exact big) (sq (ay i3 (qx (fQ i5 (cj hab)) (by(erw[pG]);exact m1) (by(erw[pG]);exact big) (kk.next _ _ ⟨(i1.setN (.inl (.inr rfl))).setN (.inl (.inl rfl)),i2,i3,i4,?_,?_⟩)))))
  ·exact(cB (fQ i5 (cj hab))).trans (congrArg (fun l=>some (MO.list l)) (yS m1 fun k=>by(erw[tk];rw[y2])))
  ·exact(fQ (cB i6) (aS hab)).trans (congrArg (fun l=>some (MO.list l)) (yS hu fun k=>by(erw[tk];rw[y2])))
 ·obtain⟨i1,i2,i3,i4,i5,i6⟩:=hI
  rw[aj,aZ]at i5 i6
  have hp4:H₄[p]?=some (.list (iO ts)):=i1.at hp3 fun e=>e.elim (aS hpa) (aS (ck hpa hab))
  have hHa:H.length≤a:=n1.le
  have g14:Gr H H₄:=(g13.mo.trans i1).weaken fun x hx q=>q.elim (fun e=>aC.mpr hHa (e▸hx)) fun e=>aC.mpr (ah hHa (dO hab)) (e▸hx)
  refine sq (ay i2 (fj (n:=ts.length) ((cw hp4).trans (congrArg some hsz)) hl1 (cP (kK hl9) ?_)))
  refine fN (fun i acc L H'=>H'=H₄∧L 123=some (.ref p)∧L 49=some (.ref a)∧L 50=some (.ref b)∧acc=(aE i).map fun i=>MV.str (ag (cY ts i))) (aL hl (by decide)) ⟨rfl,i2,i3,i4,rfl⟩ (fun i acc L' H' hi hI K k0 k1=>?_) fun acc L' H' hI=>?_
  ·obtain⟨rfl,h2,h3,h4,rfl⟩:=hI
   have e1:=By i5 hi hl9
   have e2:=By i6 hi hl9
   have fin:∀{s},s=cY ts i→K [.str (ag s)] (sN 9 (.int i) L') H':=fun{s} e=>k1 _ _ _ ⟨rfl,h2,h3,h4,by(erw[cX,aB,e]);rfl⟩
   rw[Pl ts hi]at e2
   refine ay h2 (au (rY hp4 hl9 hi) (.of_eq (qM _) (gQ (fun hK=>?_) fun hK=>?_)))
   ·rw[Po ts hi hK]at e1
    exact ay h3 (au e1 (ay h4 (au e2 (.of_eq (FT _ _) (fin (if_pos hK).symm)))))
   ·exact fin (if_neg (by(erw[hK]);exact Bool.noConfusion)).symm
  ·obtain⟨rfl,h2,h3,h4,rfl⟩:=hI
   exact⟨by(rw[aj];erw[aW]);exact hl1,bn fun q' H' nu=>k _ _ (g14.trans nu.gr) nu.at_⟩
end
section
structure IV where
 code:Int
 glyph:Int
 cluster:Int
 mask:Int
 unsf:Bool
 xadv:Int
noncomputable def Pi(v:IV):List (Str×MV):=[("code",.int v.code),("glyph",.int v.glyph),("cluster",.int v.cluster),("mask",.int v.mask),("is_unsafe",.bool v.unsf),("lig_id",.int 0),("lig_part",.int 0),("lig_count",.int 0),("kind",.str ""),("x_advance",.int v.xadv),("y_advance",.int 0),("x_offset",.int 0),("y_offset",.int 0),("parent",.int 0),("bond",.str "")]
noncomputable def eO(v:IV):MO:=.inst 52 (Pi v)
variable{d:Nat}{H:MH}{r:Nat}{v:IV}
theorem lI(h:H[r]?=some (eO v)):aN dz H (.ref r) "code"=some (.int v.code):=(aG h (by kernel_rfl)).trans (by kernel_rfl)
theorem jV(h:H[r]?=some (eO v)):aN dz H (.ref r) "glyph"=some (.int v.glyph):=(aG h (by kernel_rfl)).trans (by kernel_rfl)
theorem iC(h:H[r]?=some (eO v)):aN dz H (.ref r) "cluster"=some (.int v.cluster):=(aG h (by kernel_rfl)).trans (by kernel_rfl)
theorem pv(h:H[r]?=some (eO v)):aN dz H (.ref r) "mask"=some (.int v.mask):=(aG h (by kernel_rfl)).trans (by kernel_rfl)
theorem py(h:H[r]?=some (eO v)):aN dz H (.ref r) "is_unsafe"=some (.bool v.unsf):=(aG h (by kernel_rfl)).trans (by kernel_rfl)
theorem Kt(h:H[r]?=some (eO v)):aN dz H (.ref r) "kind"=some (.str ""):=(aG h (by kernel_rfl)).trans (by kernel_rfl)
theorem wx(h:H[r]?=some (eO v)):aN dz H (.ref r) "x_advance"=some (.int v.xadv):=(aG h (by kernel_rfl)).trans (by kernel_rfl)
theorem ww(h:H[r]?=some (eO v)):aN dz H (.ref r) "y_advance"=some (.int 0):=(aG h (by kernel_rfl)).trans (by kernel_rfl)
theorem yw(h:H[r]?=some (eO v)):aN dz H (.ref r) "x_offset"=some (.int 0):=(aG h (by kernel_rfl)).trans (by kernel_rfl)
theorem yv(h:H[r]?=some (eO v)):aN dz H (.ref r) "y_offset"=some (.int 0):=(aG h (by kernel_rfl)).trans (by kernel_rfl)
theorem uY(h:H[r]?=some (eO v)):aN dz H (.ref r) "parent"=some (.int 0):=(aG h (by kernel_rfl)).trans (by kernel_rfl)
theorem xB{x:Int}{P:Unit→MH→Prop}(h:H[r]?=some (eO v))(q:P () (H.set r (eO {v with glyph:=x}))):U (dY dz (.ref r) "glyph" (.int x)) H P:=ce h (aA rfl) (by kernel_rfl) q
theorem rv{x:Int}{P:Unit→MH→Prop}(h:H[r]?=some (eO v))(q:P () (H.set r (eO {v with mask:=x}))):U (dY dz (.ref r) "mask" (.int x)) H P:=ce h (aA rfl) (by kernel_rfl) q
theorem o0{x:Bool}{P:Unit→MH→Prop}(h:H[r]?=some (eO v))(q:P () (H.set r (eO {v with unsf:=x}))):U (dY dz (.ref r) "is_unsafe" (.bool x)) H P:=ce h (aA rfl) (by kernel_rfl) q
theorem I4{P:Unit→MH→Prop}(h:H[r]?=some (eO v))(q:P () (H.set r (eO v))):U (dY dz (.ref r) "kind" (.str "")) H P:=ce h (aA rfl) (by kernel_rfl) q
theorem vS{x:Int}{P:Unit→MH→Prop}(h:H[r]?=some (eO v))(q:P () (H.set r (eO {v with xadv:=x}))):U (dY dz (.ref r) "x_advance" (.int x)) H P:=ce h (aA rfl) (by kernel_rfl) q
theorem uG{P:Unit→MH→Prop}(h:H[r]?=some (eO v))(q:P () (H.set r (eO v))):U (dY dz (.ref r) "parent" (.int 0)) H P:=ce h (aA rfl) (by kernel_rfl) q
structure eQ(H:MH)(b q:Nat)(bw:Bool)(rs:List Nat)(vs:List IV):Prop where
 buf:H[b]?=some (.inst 96 [("row",.ref q),("is_backward",.bool bw),("last_lig",.int 0)])
 row:H[q]?=some (.list (rs.map fun r=>.ref r))
 len:rs.length=vs.length
 inf:∀(i:Nat) r v,rs[i]?=some r→vs[i]?=some v→H[r]?=some (eO v)
 nd:rs.Nodup
 nb:b∉rs
 nq:q∉rs
 ne:b≠q
 short:vs.length≤7
theorem eQ.mo{H':MH}{S:Nat→Prop}{b q:Nat}{bw:Bool}{rs:List Nat}{vs:List IV}(R:eQ H b q bw rs vs)(m:Mo S H H')(hb:¬S b)(hq:¬S q)(hr:∀r∈rs,¬S r):eQ H' b q bw rs vs:=
 ⟨m.at R.buf hb,m.at R.row hq,R.len,fun i r v e1 e2=>m.at (R.inf i r v e1 e2) (hr r (ak e1)),R.nd,R.nb,R.nq,R.ne,R.short⟩
theorem eQ.gr{H':MH}{b q:Nat}{bw:Bool}{rs:List Nat}{vs:List IV}(R:eQ H b q bw rs vs)(m:Gr H H'):eQ H' b q bw rs vs:=R.mo m id id fun z_ z_=>id
theorem eQ.at{b q:Nat}{bw:Bool}{rs:List Nat}{vs:List IV}(R:eQ H b q bw rs vs){i:Nat}(hi:i < vs.length):∃r,rs[i]?=some r∧H[r]?=some (eO vs[i]):=by
 have hr:i < rs.length:=by(erw[R.len]);exact hi
 exact⟨rs[i],an hr,R.inf i _ _ (an hr) (an hi)⟩
theorem eQ.set{b q:Nat}{bw:Bool}{rs:List Nat}{vs:List IV}(R:eQ H b q bw rs vs){i:Nat}{v':IV}(hr:rs[i]?=some r):eQ (H.set r (eO v')) b q bw rs (vs.set i v'):=by
 have hm:=ak hr
 have hb:r≠b:=fun e=>R.nb (e▸hm)
 have hq:r≠q:=fun e=>R.nq (e▸hm)
 refine⟨fQ R.buf hb,fQ R.row hq,by(erw[mR]);exact R.len,fun j r' w e1 e2=>?_,R.nd,R.nb,R.nq,R.ne,by(erw[mR]);exact R.short⟩
 by_cases hj:i=j
 ·subst hj
  rw[hr]at e1;(obtain rfl:=ab e1;clear e1)
  have hlt:i < vs.length:=by(erw[←R.len]);exact(ai.mp hr).1
  rw[db hlt]at e2;(obtain rfl:=ab e2;clear e2)
  exact cB (R.inf i _ _ hr (an hlt))
 ·rw[cT hj]at e2
  refine fQ (R.inf j r' w e1 e2) fun e=>hj ?_
  subst e
  exact xS R.nd hr e1
theorem eQ.lt{b q:Nat}{bw:Bool}{rs:List Nat}{vs:List IV}(R:eQ H b q bw rs vs){i:Nat}(hr:rs[i]?=some r):i < 7:=av (ai.mp hr).1 (R.len▸R.short)
theorem ip{b q:Nat}{bw:Bool}{rs:List Nat}{vs:List IV}(R:eQ H b q bw rs vs){i:Nat}(hr:rs[i]?=some r):bp H (.ref q) (.int i)=some (.ref r):=by
 (erw[cv R.row (ck (R.lt hr) (by decide)),aq,hr]);rfl
theorem d3{b q:Nat}{bw:Bool}{rs:List Nat}{vs:List IV}(R:eQ H b q bw rs vs):aN dz H (.ref b) "row"=some (.ref q):=(aG R.buf (by kernel_rfl)).trans (by kernel_rfl)
theorem Ps{b q:Nat}{bw:Bool}{rs:List Nat}{vs:List IV}(R:eQ H b q bw rs vs):aN dz H (.ref b) "is_backward"=some (.bool bw):=(aG R.buf (by kernel_rfl)).trans (by kernel_rfl)
theorem kY{b q:Nat}{bw:Bool}{rs:List Nat}{vs:List IV}(R:eQ H b q bw rs vs):kW H (.ref q)=some vs.length:=by
 (erw[cw R.row];rw[aj];erw[R.len];with_reducible rfl)
noncomputable def pU(φ:Nat→IV→IV)(vs:List IV)(i:Nat):List IV:=vs.mapIdx fun j v=>if j < i then φ j v else v
theorem kl{φ:Nat→IV→IV}{vs:List IV}{i j:Nat}:(pU φ vs i)[j]?=(vs[j]?).map fun v=>if j < i then φ j v else v:=bh ..
theorem zq{φ:Nat→IV→IV}{vs:List IV}:pU φ vs 0=vs:=by
 apply bK;intro j;(erw[kl]);cases vs[j]?<;>rfl
theorem rX{φ:Nat→IV→IV}{vs:List IV}:pU φ vs vs.length=vs.mapIdx φ:=by
 apply bK;intro j
 (erw[kl,bh])
 cases h:vs[j]? with
 |none=>rfl
 |some w=>exact congrArg some (if_pos (ai.mp h).1)
theorem rW{φ:Nat→IV→IV}{vs:List IV}{i:Nat}{v:IV}(hv:vs[i]?=some v):(pU φ vs i).set i (φ i v)=pU φ vs (i+1):=by
 apply bK
 intro j
 by_cases hj:i=j
 ·apply dE hj
  (rw[db (by rw[pU,dT];exact(ai.mp hv).1)];erw[kl,hv])
  exact congrArg some (if_pos (d4 i)).symm
 ·(erw[cT hj,kl,kl])
  cases vs[j]? with
  |none=>rfl
  |some w=>
   refine congrArg some ?_
   show(if j < i then φ j w else w)=if j < i+1 then φ j w else w
   by_cases h1:j < i
   ·(erw[if_pos h1,if_pos (li h1)];with_reducible rfl)
   ·(erw[if_neg h1,if_neg fun q=>h1 (Hi (fX q) (bS hj))];with_reducible rfl)
theorem jo{b q x:Nat}{bw:Bool}{rs:List Nat}{vs:List IV}{body:PM MF}{L:dn}{Q:aT MF}(G:dn→MH→Prop)(R:eQ H b q bw rs vs)(h0:G L H)(φ:Nat→IV→IV)
 (step:∀(i r:Nat) (v:IV) (us:List IV) (L:dn) (H₁:MH),Mo (fun p=>p∈rs) H H₁→eQ H₁ b q bw rs us→rs[i]?=some r→vs[i]?=some v→us[i]?=some v→H₁[r]?=some (eO v)→G L H₁→
  ∀K:aT MF,KK (fun L H'=>Mo (fun p=>p∈rs) H H'∧eQ H' b q bw rs (us.set i (φ i v))∧G L H') Q K→body.wp (sN x (.ref r) L) H₁ K)
 (fin:∀L H₁,Mo (fun p=>p∈rs) H H₁→eQ H₁ b q bw rs (vs.mapIdx φ)→G L H₁→Q .next L H₁):
 rj (.ref q) (gu x) body L H Q:=by
 refine cE (vs:=rs.map fun r=>.ref r) (fun i L H'=>Mo (fun p=>p∈rs) H H'∧eQ H' b q bw rs (pU φ vs i)∧G L H') ⟨Mo.refl _ _,by(erw[zq]);exact R,h0⟩ (fun i L H' hI=>hI.2.1.row) (fun i y L₁ H₁ hy hI K kk=>?_) fun L₁ H₁ hI=>?_
 ·obtain⟨i1,i2,i3⟩:=hI
  replace hy:=(aq)▸hy
  obtain⟨r,hr,rfl⟩:=az.mp hy
  have hlt:i < vs.length:=R.len▸(ai.mp hr).1
  have hv:vs[i]?=some vs[i]:=an hlt
  have hu:(pU φ vs i)[i]?=some vs[i]:=by(erw[kl,hv]);exact congrArg some (if_neg (gp i))
  replace kk:=Eq.symm (rW hv)▸kk
  exact step i r _ _ L₁ H₁ i1 i2 hr hv hu (i2.inf i r _ hr hu) i3 K kk
 ·obtain⟨i1,i2,i3⟩:=hI
  rw[aj,R.len,rX]at i2
  exact fin L₁ H₁ i1 i2 i3
end
section
variable{d:Nat}{H:MH}
theorem rR{t:PM Bool}{b:PM MF}{Q:aT MF}(N:Nat)(I:Nat→dn→MH→Prop)
 (step:∀i L H,I i L H→∀K,KK (fun L H=>i < N∧I (i+1) L H) Q K→t.wp L H (RZ b K Q)):∀(k i:Nat) (L:dn) (H:MH),i≤N→N < i+k→I i L H→rS t b k L H Q
 |0,i,L,H,h1,h2,_=>absurd h2 (aC.mpr h1)
 |k+1,i,L,H,h1,h2,hI=>by
  have ih:=rR N I step k (i+1)
  have go:∀L H,i < N∧I (i+1) L H→rS t b k L H Q:=fun L H q=>ih L H q.1 (by rw[qB];exact h2) q.2
  exact step i L H hI _ ⟨go,go,fun z_ z_ q=>q,fun z_ z_ z_ q=>q⟩
theorem vH{t:PM Bool}{b:PM MF}{L:dn}{Q:aT MF}(N:Nat)(I:Nat→dn→MH→Prop)(hN:N < 100)(h0:I 0 L H)
 (step:∀i L H,I i L H→∀K,KK (fun L H=>i < N∧I (i+1) L H) Q K→t.wp L H (RZ b K Q)):GT t b L H Q:=
 ⟨rR N I step 100 0 L H (jM _) (by rw[mP];exact hN) h0⟩
structure fR where
 font:Nat
 kern:Nat
 cm:Nat
 cd:Nat
 me:Nat
 gd:Nat
 gc:Nat
 gdd:Nat
 lay:Nat
 sd:Nat
 scr:Nat
 lsl:Nat
 ls:Nat
 lsf:Nat
 fl:Nat
 ll:Nat
noncomputable def iW:List (MV×MV):=[(.int 1576,.int 1),(.int 1575,.int 2),(.int 1604,.int 3),(.int 1614,.int 4),(.int 1583,.int 5),(.int 65,.int 6),(.int 1600,.int 7)]
noncomputable def gP(c:Int):Int:=if c=1576 then 1 else if c=1575 then 2 else if c=1604 then 3 else if c=1614 then 4 else if c=1583 then 5 else if c=65 then 6 else if c=1600 then 7 else 0
noncomputable def DJ:List MV:=(aE 40).map fun(g:Nat)=>.int (100+3*(g:Int))
structure dw(H:MH)(X:bQ)(A:fR):Prop where
 font:H[A.font]?=some (.inst 1760 [("charmap",.ref A.cm),("metrics",.ref A.me),("gdef",.ref A.gd),("gsub",.ref A.lay),("gpos",.none),("kern",.ref A.kern)])
 kern:H[A.kern]?=some (.dict [])
 cm:H[A.cm]?=some (.inst 1726 [("codes",.ref A.cd),("variations",.none)])
 cd:H[A.cd]?=some (.dict iW)
 me:∃be,H[A.me]?=some (.inst 1065 [("units",.int 1000),("ascent",.int 800),("descent",.int (-200)),("advances",.tup DJ),("bearings",be)])
 gd:∃a b c e,H[A.gd]?=some (.inst 1862 [("classes",.ref A.gc),("attach",a),("sets",b),("points",c),("carets",e)])
 gc:H[A.gc]?=some (.inst 1814 [("classes",.ref A.gdd)])
 gdd:H[A.gdd]?=some (.dict [])
 lay:H[A.lay]?=some (.inst 1977 [("scripts",.ref A.sd),("features",.ref A.fl),("lookups",.ref A.ll)])
 sd:H[A.sd]?=some (.dict [(.str "DFLT",.ref A.scr)])
 scr:H[A.scr]?=some (.inst 1923 [("tag",.str "DFLT"),("default",.ref A.ls),("languages",.ref A.lsl)])
 lsl:H[A.lsl]?=some (.dict [])
 ls:H[A.ls]?=some (.inst 1897 [("required",.int (if 0≤X.req then X.req else -1)),("features",.ref A.lsf)])
 lsf:H[A.lsf]?=some (.list (cJ (aE X.feats.length)))
 fl:∃vs,H[A.fl]?=some (.list vs)∧vs.length=X.feats.length∧∀(i:Nat) f,X.feats[i]?=some f→∃r r2:Nat,vs[i]?=some (.ref r)∧H[r]?=some (.inst 1951 [("tag",.str f.1),("lookups",.ref r2)])∧H[r2]?=some (.list (cJ f.2))
 ll:∃vs,H[A.ll]?=some (.list vs)∧vs.length=X.maps.length∧∀(i:Nat) es,X.maps[i]?=some es→∃r t s m:Nat,vs[i]?=some (.ref r)∧H[r]?=some (.inst 181 [("kind",.str "single"),("flag",.int 0),("mark_set",.int (-1)),("tables",.ref t)])∧H[t]?=some (.list [.ref s])∧H[s]?=some (.inst 782 [("mapping",.ref m)])∧H[m]?=some (.dict es)
theorem sO(c:Int):∃r,gR (.int c) iW=some r∧r.getD (.int 0)=.int (gP c):=by
 have step:∀(k v:Int) (r:List (MV×MV)),gR (.int c) ((.int k,.int v)::r)=if c=k then some (some (.int v))else gR (.int c) r:=fun k v r=>by
  show(match iE (.int k) (.int c)with|none=>none|some true=>some (some (MV.int v))|some false=>gR (.int c) r)=_
  have e:iE (.int k) (.int c)=some (k==c):=rfl
  (erw[e])
  by_cases h:c=k
  ·apply dE h;(rw[beq_self_eq_true];erw[if_pos rfl];with_reducible rfl)
  ·have:(k==c)=false:=by(refine(beq_eq_false_iff_ne).mpr ?_);exact fun q=>h q.symm
   (erw[this,if_neg h];with_reducible rfl)
 unfold iW gP
 rw[step,step,step,step,step,step,step]
 by_cases h1:c=1576
 ·(erw[if_pos h1,if_pos h1]);exact⟨_,rfl,rfl⟩
 (erw[if_neg h1,if_neg h1])
 by_cases h1:c=1575
 ·(erw[if_pos h1,if_pos h1]);exact⟨_,rfl,rfl⟩
 (erw[if_neg h1,if_neg h1])
 by_cases h1:c=1604
 ·(erw[if_pos h1,if_pos h1]);exact⟨_,rfl,rfl⟩
 (erw[if_neg h1,if_neg h1])
 by_cases h1:c=1614
 ·(erw[if_pos h1,if_pos h1]);exact⟨_,rfl,rfl⟩
 (erw[if_neg h1,if_neg h1])
 by_cases h1:c=1583
 ·(erw[if_pos h1,if_pos h1]);exact⟨_,rfl,rfl⟩
 (erw[if_neg h1,if_neg h1])
 by_cases h1:c=65
 ·(erw[if_pos h1,if_pos h1]);exact⟨_,rfl,rfl⟩
 (erw[if_neg h1,if_neg h1])
 by_cases h1:c=1600
 ·(erw[if_pos h1,if_pos h1]);exact⟨_,rfl,rfl⟩
 (erw[if_neg h1,if_neg h1])
 exact⟨none,rfl,rfl⟩
theorem yQ{X:bQ}{A:fR}{H₀:MH}(F:dw H₀ X A)(g:Gr H₀ H){c:Int}{Q:MV→MH→Prop}(q:Q (.int (gP c)) H):WC (cn (d+1)) 1711 [.ref A.cm,.int c] H Q:=by
 refine aM (sO c) fun r r1 r2=>?_
 have ga:aN dz H (.ref A.cm) "codes"=some (.ref A.cd):=(aG (g.at F.cm) (by kernel_rfl)).trans (by kernel_rfl)
 refine bC Jq rfl (au ga (au (gI (g.at F.cd)) (jZ (g.at F.cd) rfl r1 ?_)))
 (erw[r2]);exact q
theorem ng{vs:List IV}:vs.mapIdx (fun z_ v=>v)=vs:=by apply bK;intro j;(erw[bh]);cases vs[j]?<;>rfl
theorem ji{vs:List IV}{f:IV→IV}:vs.mapIdx (fun z_ v=>f v)=vs.map f:=by apply bK;intro j;(erw[bh,aq];with_reducible rfl)
theorem Mo.low{rs:List Nat}{H₀ H₁:MH}(g:Gr H₀ H)(hlo:∀r∈rs,H₀.length≤r)(m:Mo (fun p=>p∈rs) H H₁):Gr H₀ H₁:=⟨ah g.1 m.1,fun p o e z_=>m.at (g.at e) fun hp=>aC.mpr (hlo p hp) (dm e)⟩
theorem zS{b q:Nat}{bw:Bool}{rs:List Nat}{vs:List IV}(R:eQ H b q bw rs vs)(hc:∀v∈vs,v.code∈K7){Q:MV→MH→Prop}
 (k:∀H',Mo (fun p=>p∈rs) H H'→eQ H' b q bw rs vs→Q .none H'):WC (cn (d+4)) 884 [.ref b] H Q:=by
 refine bC Nq rfl (au (d3 R) ?_)
 refine jo (fun z_ z_=>True) R trivial (fun z_ v=>v) (fun i r v us L H₁ m R₁ hr hv hu h z_ K kk=>?_) fun L H₁ m R₁ z_=>k H₁ m (by rw[ng]at R₁;exact R₁)
 exact au (lI h) (.of_eq (tW (hc v (ak hv))) (I4 h (kk.next _ _ ⟨m.setN (.inl (ak hr)),R₁.set hr,trivial⟩)))
theorem r9{b q:Nat}{bw:Bool}{rs:List Nat}{vs:List IV}(R:eQ H b q bw rs vs)(hc:∀v∈vs,v.code∈K7){cm:MV}{Q:MV→MH→Prop}(q:Q .none H):WC (cn (d+2)) 898 [.ref b,cm] H Q:=by
 refine bC Np rfl (sq ?_)
 refine vH 8 (fun i L H'=>H'=H∧L 14=some (.ref b)∧L 9=some (.int ((i+1:Nat):Int))) (by decide) ⟨rfl,rfl,rfl⟩ fun i L H' hI K kk=>?_
 (refine oO hI fun q0_ h2 h3=>?_;subst q0_;clear hI)
 refine ay h3 (ay h2 (au (d3 R) (fj (kY R) (ah R.short (by decide)) (dc (fun hlt=>?_) fun hlt=>q))))
 have hlt':i+1 < vs.length:=dd.mp hlt
 refine aM (R.at hlt') fun r hr h=>?_
 have hcd:=hc _ (gy hlt')
 refine sq (ay h2 (au (d3 R) (ay h3 (au (ip R hr) (au (lI h) (.of_eq (wh hcd) (sq (ay h3 (kk.next _ _ ⟨?_,rfl,h2,rfl⟩)))))))))
 exact li (av (Hu hlt') R.short)
theorem zT{X:bQ}{A:fR}{H₀:MH}(F:dw H₀ X A)(g:Gr H₀ H){b q:Nat}{bw:Bool}{rs:List Nat}{vs:List IV}(R:eQ H b q bw rs vs)(hlo:∀r∈rs,H₀.length≤r)(hg:∀v∈vs,v.glyph=0){Q:MV→MH→Prop}
 (k:∀H',Mo (fun p=>p∈rs) H H'→eQ H' b q bw rs (vs.map fun v=>{v with glyph:=gP v.code})→Q .none H'):WC (cn (d+2)) 1642 [.ref b,.ref A.cm] H Q:=by
 refine bC Jy rfl (au (d3 R) ?_)
 refine jo (fun L z_=>L 18=some (.ref A.cm)) R rfl (fun z_ v=>{v with glyph:=gP v.code}) (fun i r v us L H₁ m R₁ hr hv hu h hG K kk=>?_) fun L H₁ m R₁ z_=>k H₁ m (by rw[ji]at R₁;exact R₁)
 have g1:=Mo.low g hlo m
 have ez:aN dz H₁ (.ref r) "glyph"=some (.int 0):=by(erw[jV h,hg v (ak hv)];with_reducible rfl)
 exact au ez (ay hG (au (jh (g1.at F.cm) (n:="glyph") (f:=1711) (by kernel_rfl) (by kernel_rfl)) (au (lI h) (yQ F g1 (xB h (kk.next _ _ ⟨m.setN (.inl (ak hr)),R₁.set hr,hG⟩))))))
end
section
variable{d:Nat}{H:MH}
theorem Dz{X:bQ}{A:fR}{H₀:MH}(F:dw H₀ X A)(g:Gr H₀ H){c:Int}{Q:MV→MH→Prop}(q:Q (.int 0) H):WC (cn (d+1)) 1792 [.ref A.gc,.int c] H Q:=by
 have ga:aN dz H (.ref A.gc) "classes"=some (.ref A.gdd):=(aG (g.at F.gc) (by kernel_rfl)).trans (by kernel_rfl)
 exact bC Jn rfl (au ga (au (gI (g.at F.gdd)) (jZ (g.at F.gdd) (k:=.int c) rfl (r:=none) rfl q)))
theorem pr{X:bQ}{A:fR}{H₀:MH}(F:dw H₀ X A)(g:Gr H₀ H){c:Int}{Q:MV→MH→Prop}(q:Q (.int 0) H):WC (cn (d+2)) 1840 [.ref A.gd,.int c] H Q:=by
 refine zn F.gd fun a b c' e hgd=>?_
 have ga:aN dz H (.ref A.gd) "classes"=some (.ref A.gc):=(aG (g.at hgd) (by kernel_rfl)).trans (by kernel_rfl)
 exact bC Jl rfl (au ga (au (jh (g.at F.gc) (n:="class_of") (f:=1792) (by kernel_rfl) (by kernel_rfl)) (Dz F g (sq q))))
theorem GR{X:bQ}{A:fR}{H₀:MH}(F:dw H₀ X A)(g:Gr H₀ H){c:Int}(h0:0≤c)(h1:c < 40){Q:MV→MH→Prop}(q:Q (.int (100+3*c)) H):WC (cn (d+1)) 1076 [.ref A.me,.int c] H Q:=by
 refine fH F.me fun be hme=>?_
 have ga:aN dz H (.ref A.me) "advances"=some (.tup DJ):=(aG (g.at hme) (by kernel_rfl)).trans (by kernel_rfl)
 (refine fH (l9 h0) fun n q0_=>?_;subst q0_)
 have hn:n < 40:=dd.mp h1
 have gi:bp H (.tup DJ) (.int n)=some (.int (100+3*(n:Int))):=by(erw[mH (ck hn (by decide))]);(erw[aq,cH hn]);rfl
 exact bC JY rfl (au ga (fj (n:=40) rfl (by decide) (wn h1 (au ga (au gi q)))))
theorem vQ{X:bQ}{A:fR}{H₀:MH}(F:dw H₀ X A)(g:Gr H₀ H){b q:Nat}{bw:Bool}{rs:List Nat}{vs:List IV}(R:eQ H b q bw rs vs)(hlo:∀r∈rs,H₀.length≤r)(hg:∀v∈vs,0≤v.glyph∧v.glyph < 40){Q:MV→MH→Prop}
 (k:∀H',Mo (fun p=>p∈rs) H H'→eQ H' b q bw rs (vs.map fun v=>{v with xadv:=100+3*v.glyph})→Q .none H'):WC (cn (d+3)) 1656 [.ref b,.ref A.font] H Q:=by
 refine bC Jw rfl (au (d3 R) ?_)
 refine jo (fun L z_=>L 38=some (.ref A.font)) R rfl (fun z_ v=>{v with xadv:=100+3*v.glyph}) (fun i r v us L H₁ m R₁ hr hv hu h hG K kk=>?_) fun L H₁ m R₁ z_=>k H₁ m (by rw[ji]at R₁;exact R₁)
 have g1:=Mo.low g hlo m
 refine d9 (hg v (ak hv)) fun z0 z1=>?_
 refine zn F.gd fun a bb c' e hgd=>?_
 have ga:aN dz H₁ (.ref A.font) "gdef"=some (.ref A.gd):=(aG (g1.at F.font) (by kernel_rfl)).trans (by kernel_rfl)
 have gm:aN dz H₁ (.ref A.font) "metrics"=some (.ref A.me):=(aG (g1.at F.font) (by kernel_rfl)).trans (by kernel_rfl)
 exact ay hG (au ga (au (jh (g1.at hgd) (n:="glyph_class") (f:=1840) (by kernel_rfl) (by kernel_rfl)) (au (jV h) (pr F g1 (ay hG (au gm (au (jV h) (GR F g1 z0 z1 (vS h (kk.next _ _ ⟨m.setN (.inl (ak hr)),R₁.set hr,hG⟩))))))))))
theorem Am{b q:Nat}{bw:Bool}{rs:List Nat}{vs:List IV}(R:eQ H b q bw rs vs){i:Nat}(hi:i < vs.length){Q:MV→MH→Prop}(k:∀p H',Nu H (.list []) p H'→Q (.ref p) H'):WC (cn (d+1)) 478 [.ref q,.int i] H Q:=by
 refine aM (R.at hi) fun r hr h=>?_
 refine bC NA rfl (bn fun p H' nu=>sq (sq ?_))
 have R':=R.gr nu.gr
 refine vH 0 (fun j L H₁=>H₁=H'∧L 99=some (.ref q)∧L 52=some (.int i)∧L 75=some (.ref p)) (by decide) ⟨rfl,rfl,rfl,rfl⟩ fun j L H₁ hI K kk=>?_
 (refine uj hI fun q0_ h2 h3 h4=>?_;subst q0_;clear hI)
 exact ay h2 (ay h3 (au (ip R' hr) (au (uY (nu.gr.at h)) (sq (ay h4 (k _ _ nu))))))
theorem I0{b q:Nat}{bw:Bool}{rs:List Nat}{vs:List IV}(R:eQ H b q bw rs vs){Q:MV→MH→Prop}
 (k:∀H',Mo (fun p=>p∈rs) H H'→eQ H' b q bw rs vs→Q .none H'):WC (cn (d+2)) 506 [.ref b] H Q:=by
 have hs:=R.short
 refine bC Nz rfl (au (d3 R) (fj (kY R) (ah hs (by decide)) (cP (kK (ah hs (by decide))) ?_)))
 refine gL (fun i L H'=>Gr H H'∧L 14=some (.ref b)) (aL hs (by decide)) ⟨Gr.refl H,rfl⟩ (fun i L H₁ hi hI K kk=>?_) fun L H₁ hI=>?_
 ·obtain⟨g1,h2⟩:=hI
  exact ay h2 (au (d3 (R.gr g1)) (Am (R.gr g1) hi fun p H' nu=>⟨rfl,p,rfl,nu.at_,kk.next _ _ ⟨g1.trans nu.gr,h2⟩⟩))
 ·obtain⟨g1,h2⟩:=hI
  have R1:=R.gr g1
  refine sq (ay h2 (au (d3 R1) ?_))
  refine jo (fun z_ z_=>True) R1 trivial (fun z_ v=>v) (fun i r v us L H₂ m R₂ hr hv hu h z_ K kk=>?_) fun L H₂ m R₂ z_=>k H₂ (g1.mo.trans m) (by rw[ng]at R₂;exact R₂)
  exact uG h (kk.next _ _ ⟨m.setN (.inl (ak hr)),R₂.set hr,trivial⟩)
theorem z3{r:Nat}{v:IV}(h:H[r]?=some (eO v)){Q:MV→MH→Prop}(q:Q (.bool false) H):WC (cn (d+1)) 905 [.ref r] H Q:=
 bC No rfl (au (Kt h) (au KL q))
theorem Pk{b q:Nat}{bw:Bool}{rs:List Nat}{vs:List IV}(R:eQ H b q bw rs vs){Q:MV→MH→Prop}(k:Q .none H):WC (cn (d+2)) 919 [.ref b,.int 0] H Q:=by
 have hs:=R.short
 refine bC Nn rfl (sq (sq ?_))
 refine vH 8 (fun i L H'=>H'=H∧L 14=some (.ref b)∧L 9=some (.int (i:Nat))) (by decide) ⟨rfl,rfl,rfl⟩ fun i L H' hI K kk=>?_
 (refine oO hI fun q0_ h2 h3=>?_;subst q0_;clear hI)
 refine ay h3 (ay h2 (au (d3 R) (fj (kY R) (ah hs (by decide)) (dc (fun hlt=>?_) fun hlt=>k))))
 have hlt':i < vs.length:=dd.mp hlt
 refine aM (R.at hlt') fun r hr h=>?_
 exact ay h2 (au (d3 R) (ay h3 (au (ip R hr) (z3 h (ay h3 (kk.next _ _ ⟨li (av hlt' hs),rfl,h2,rfl⟩))))))
end
section
variable{d:Nat}{H:MH}{P:MV→MH→Prop}
noncomputable def Oy(vs:List IV):Prop:=∀(i:Nat) v,vs[i]?=some v→v.cluster=(i:Int)
theorem vh{n:Nat}(hn:n≤1000):lQ (some (MV.int n))=some (some n):=by
 unfold lQ
 dsimp only
 (erw[if_neg (k4 n)];rw[if_neg (by rw[show(2:Int)^40=1099511627776 from by decide];lia)])
 rfl
theorem BF{p:Nat}{vs:List MV}{a b:Nat}(h:H[p]?=some (.list vs))(hv:vs.length≤1000)(ha:a≤1000)(hb:b≤1000)(q:∀p H',Nu H (.list ((vs.take b).drop a)) p H'→P (.ref p) H'):U (iQ (.ref p) (some (.int a)) (some (.int b))) H P:=U.of (fun l=>by
 unfold iQ
 rw[vh ha,vh hb]
 show((cy H (.ref p)).bind fun vs=>if 1000 < vs.length then none else d0 (.list (Ql vs (some a) (some b))) ⟨l,H⟩)=_
 rw[di h]
 show(if 1000 < vs.length then none else _)=_
 (erw[if_neg (aC.mpr hv)])
 rfl) (q _ _ (Nu.mk' H _))
theorem eQ.w{b q r:Nat}{bw:Bool}{rs:List Nat}{vs:List IV}(R:eQ H b q bw rs vs)(hr:r∈rs):r < H.length:=by
 refine fH (bW hr) fun i hi=>?_
 exact dm (R.inf i _ _ hi (an (R.len▸(ai.mp hi).1)))
theorem eQ.off{b q p:Nat}{bw:Bool}{rs:List Nat}{vs:List IV}(R:eQ H b q bw rs vs)(hp:H.length≤p):p∉rs:=fun hm=>aC.mpr hp (R.w hm)
theorem z8{b q:Nat}{bw:Bool}{rs:List Nat}{vs:List IV}(R:eQ H b q bw rs vs)(C:Oy vs){Q:MV→MH→Prop}(k:∀p H',Nu H (.list ((aE vs.length).map fun(i:Nat)=>.int ((i+1:Nat):Int))) p H'→Q (.ref p) H'):WC (cn (d+1)) 111 [.ref b] H Q:=by
 have hs:=R.short
 have hs1:vs.length≤1000:=ah hs (by decide)
 refine bC NK rfl (au (d3 R) (sq (fj (kY R) hs1 (cP (kK (ah hs (by decide))) ?_))))
 refine fN (fun i acc L H'=>H'=H∧L 99=some (.ref q)∧acc=(aE i).map fun(i:Nat)=>MV.int ((i+1:Nat):Int)) (aL hs (by decide)) ⟨rfl,rfl,rfl⟩ (fun i acc L H' hi hI K k0 k1=>?_) fun acc L H' hI=>?_
 ·obtain⟨rfl,h2,rfl⟩:=hI
  have fin:K [.int ((i:Int)+1)] (sN 9 (.int i) L) H':=k1 _ _ _ ⟨rfl,h2,by(erw[cX,aB]);rfl⟩
  refine ay h2 (fj (kY R) hs1 (dc (fun hl=>fin) fun hl=>?_))
  have hi1:i+1 < vs.length:=Hi hi fun e=>hl (congrArg Int.ofNat e)
  refine aM (R.at hi) fun r hr h=>?_
  refine aM (R.at hi1) fun r1 hr1 h'=>?_
  have e0:=iC h
  have e1:=iC h'
  rw[C i _ (an hi)]at e0
  rw[C (i+1) _ (an hi1)]at e1
  exact ay h2 (au (ip (i:=i+1) R hr1) (au e1 (ay h2 (au (ip R hr) (au e0 (pn (fun z_=>fin) fun e=>absurd (Int.ofNat.inj e) (Lj i)))))))
 ·obtain⟨rfl,h2,rfl⟩:=hI
  exact⟨by(rw[aj];erw[aW]);exact hs1,bn k⟩
theorem Gp{a b:Nat}{x:MV}(ha:H[a]?=some (.list [x]))(hb:H[b]?=some (.list [])):nB H .NotEq (.ref a) (.ref b)=some true:=by
 show(D0 H (.ref a) (.ref b)).map (!·)=_
 unfold D0;dsimp only;rw[di ha,di hb];rfl
theorem Gq{a b:Nat}(ha:H[a]?=some (.list []))(hb:H[b]?=some (.list [])):nB H .NotEq (.ref a) (.ref b)=some false:=by
 show(D0 H (.ref a) (.ref b)).map (!·)=_
 unfold D0;dsimp only;rw[di ha,di hb];rfl
theorem mx{α:Type}{x y:α}{j:Nat}(h:[x][j]?=some y):j=0∧y=x:=by
 cases j with
 |zero=>(obtain rfl:=ab h;clear h);exact⟨rfl,rfl⟩
 |succ j=>exact bD h
theorem oZ{v:IV}{vs:List IV}{i:Nat}(h:vs[i]?=some v):vs.set i v=vs:=by
 apply bK
 intro j
 by_cases hj:i=j
 ·apply dE hj;(erw[db (ai.mp h).1,h];with_reducible rfl)
 ·(erw[cT hj];with_reducible rfl)
structure RW(H:MH)(b q:Nat)(bw:Bool)(rs:List Nat)(vs:List IV)(x:Nat)(i:Int)(L:dn)(H':MH):Prop where
 mo:Mo (fun p=>p∈rs) H H'
 row:eQ H' b q bw rs vs
 bu:L 14=some (.ref b)
 be:L x=some (.int i)
theorem HF{b q:Nat}{bw:Bool}{rs:List Nat}{vs:List IV}(R:eQ H b q bw rs vs)(C:Oy vs){Q:MV→MH→Prop}
 (k:∀H',Mo (fun p=>p∈rs) H H'→eQ H' b q bw rs vs→Q .none H'):WC (cn (d+2)) 159 [.ref b] H Q:=by
 have hs:=R.short
 refine bC NH rfl (sq (z8 R C fun e H₀ n0=>?_))
 have hnr:=R.off n0.le
 refine cE (vs:=(aE vs.length).map fun(i:Nat)=>MV.int ((i+1:Nat):Int)) (fun i L H=>RW H₀ b q bw rs vs 12 (i:Nat) L H) ⟨Mo.refl _ _,R.gr n0.gr,rfl,rfl⟩ (fun i L H hI=>hI.mo.at n0.at_ hnr) (fun i y L H₁ hy hI K kk=>?_) fun L H₁ hI=>k H₁ (n0.gr.mo.trans hI.mo) hI.row
 obtain⟨m,R₁,h2,h3⟩:=hI
 replace hy:=(aq)▸hy
 obtain⟨i',hi',rfl⟩:=az.mp hy
 have hi:i < vs.length:=kN (ai.mp hi').1 aW
 rw[cH hi]at hi'
 (obtain rfl:=ab hi';clear hi')
 refine aM (R₁.at hi) fun r hr h=>?_
 have hvi:vs[i]?=some vs[i]:=an hi
 have hcut:((rs.map fun r=>MV.ref r).take (i+1)).drop i=[.ref r]:=by
  have hl:((rs.map fun r=>MV.ref r).take i).length=i:=by
   (erw[cK];rw[aj])
   exact j7 (dO (ai.mp hr).1)
  (erw[aO,aq,hr,List.drop_append,hl,zi (ff hl)];rw[rn])
  rfl
 have big:∀{x},x≤vs.length→x≤1000:=fun h=>ah h (ah hs (by decide))
 refine ay h2 (au (d3 R₁) (ay h3 (BF R₁.row (by(rw[aj];erw[R₁.len]);exact big (aY _)) (big (dO hi)) (big hi) ?_)))
 (erw[hcut])
 intro s H₂ n1
 refine sq ?_
 have hlr:=R₁.off n1.le
 have R₂:=R₁.gr n1.gr
 have h₂:=n1.gr.at h
 revert hvi h₂
 generalize vs[i]=v
 intro hvi h₂
 have tail:∀{H₃:MH}(g2:Gr H₂ H₃) {L₅:dn}{H₅:MH}(J:RW H₃ b q bw rs vs 31 ((i+1:Nat):Int) L₅ H₅),eG (gD [bN 12 (ae 31)]) L₅ H₅ K:=fun{_} g2 {_ _} J=>sq (ay J.be (kk.next _ _ ⟨m.trans ((n1.gr.mo.trans g2.mo).trans J.mo),J.row,J.bu,rfl⟩))
 refine dG (vs:=[.ref r]) (fun j acc L H=>H=H₂∧acc=if j=0 then[]else if v.unsf=true then[.ref r]else[]) ⟨rfl,rfl⟩ (fun j acc L H hI=>hI.1▸n1.at_) (fun j y acc L' H' hy hI K k0 k1=>?_) fun acc L' H' hI=>?_
 ·obtain⟨rfl,rfl⟩:=mx hy
  (refine d9 hI fun q0_ q1_=>?_;subst q0_;subst q1_;clear hI)
  refine au (py h₂) (gQ (fun hu=>k1 _ _ _ ⟨rfl,?_⟩) fun hu=>k0 _ _ ⟨rfl,?_⟩)<;>(erw[hu])<;>rfl
 ·obtain⟨rfl,rfl⟩:=hI
  show _≤1000∧G6 H' (.list (if v.unsf=true then[.ref r]else[])) _
  cases hu:v.unsf with
  |true=>
   refine⟨aA rfl,bn fun p1 H3 n2=>bn fun p2 H₄ n3=>au (Gp (n3.gr.at n2.at_) n3.at_) (ay rfl ?_)⟩
   have g2:=n2.gr.trans n3.gr
   refine cE (vs:=[.ref r]) (fun j L H=>RW H₄ b q bw rs vs 31 ((i+1:Nat):Int) L H) ⟨Mo.refl _ _,R₂.gr g2,h2,rfl⟩ (fun j L H hI=>hI.mo.at (g2.at n1.at_) hlr) (fun j y L₅ H₅ hy hI K' kk'=>?_) fun L₅ H₅ hI=>tail g2 hI
   (refine d9 (mx hy) fun q0_ q1_=>?_;subst q0_;subst q1_)
   obtain⟨m5,R₅,f1,f2⟩:=hI
   refine o0 (R₅.inf i r v hr hvi) (kk'.next _ _ ⟨m5.setN (.inl (ak hr)),?_,f1,f2⟩)
   have hsame:{v with unsf:=true}=v:=by cases v;subst hu;rfl
   have R6:=R₅.set (v':={v with unsf:=true}) hr
   rw[hsame,oZ hvi]at R6
   (erw[hsame]);exact R6
  |false=>
   refine⟨aA rfl,bn fun p1 H3 n2=>bn fun p2 H₄ n3=>au (Gq (n3.gr.at n2.at_) n3.at_) ?_⟩
   have g2:=n2.gr.trans n3.gr
   exact tail g2 ⟨Mo.refl _ _,R₂.gr g2,h2,rfl⟩
end
section
variable{d:Nat}{H:MH}{P:MV→MH→Prop}
theorem vx{p:Nat}{vs:List MV}(h:H[p]?=some (.list vs))(hn:vs.length≤1000)(q:P .none (H.set p (.list vs.reverse))):U (iX (.ref p) "reverse" []) H P:=U.of (fun l=>by
 unfold iX;dsimp only;(erw[h]);dsimp only
 show Hn _ _ _ _=_
 unfold Hn;(erw[jH hn]);rfl) q
theorem eQ.rev{b q:Nat}{bw:Bool}{rs:List Nat}{vs:List IV}(R:eQ H b q bw rs vs):eQ (H.set q (.list ((rs.map fun r=>MV.ref r).reverse))) b q bw rs.reverse vs.reverse:=by
 refine⟨fQ R.buf (bS R.ne),by(erw[cB R.row,Hy];with_reducible rfl),by(erw[iz,iz,R.len];with_reducible rfl),fun i r v e1 e2=>?_,?_,fun h=>R.nb (rH.mp h),fun h=>R.nq (rH.mp h),R.ne,by(erw[iz]);exact R.short⟩
 ·have h1:i < rs.length:=kN (ai.mp e1).1 iz
  replace e1:=(AB h1)▸e1
  rw[AB (R.len▸h1),←R.len]at e2
  exact fQ (R.inf _ _ _ e1 e2) fun e=>R.nq (e▸ak e1)
 ·have:=R.nd
  unfold List.Nodup at this ⊢
  (refine(List.pairwise_reverse).mpr ?_)
  exact this.imp fun e q=>e q.symm
theorem D8{b q:Nat}{bw:Bool}{rs:List Nat}{vs:List IV}(R:eQ H b q bw rs vs){Q:MV→MH→Prop}
 (k:∀H',Mo (fun p=>p∈rs∨p=q) H H'→eQ H' b q bw rs.reverse vs.reverse→Q .none H'):WC (cn (d+1)) 154 [.ref b] H Q:=by
 have R1:=R.rev
 refine bC NI rfl (au (d3 R) (au (gK R.row rfl) (vx R.row (by(rw[aj];erw[R.len]);exact ah R.short (by decide)) (sq (au (d3 R1) ?_)))))
 have m0:Mo (fun p=>p∈rs∨p=q) H (H.set q (.list ((rs.map fun r=>MV.ref r).reverse))):=Mo.set (.inl (.inr rfl))
 refine jo (fun z_ z_=>True) R1 trivial (fun z_ v=>v) (fun i r v us L H₂ m R₂ hr hv hu h z_ K kk=>?_) fun L H₂ m R₂ z_=>k H₂ (m0.trans (m.weaken fun p z_ hp=>.inl (rH.mp hp))) (by rw[ng]at R₂;exact R₂)
 exact au (uY h) (uG h (kk.next _ _ ⟨m.setN (.inl (ak hr)),R₂.set hr,trivial⟩))
theorem OI{r:Nat}{v:IV}(h:H[r]?=some (eO v)){Q:MV→MH→Prop}(q:Q (.tup [.int v.glyph,.int v.cluster,.int v.xadv,.int 0,.int 0,.int 0]) H):WC (cn (d+1)) 49 [.ref r] H Q:=
 bC OX rfl (au (jV h) (au (iC h) (au (wx h) (au (ww h) (au (yw h) (au (yv h) q))))))
noncomputable def oS(v:IV):MV:=.tup [.int v.glyph,.int v.cluster,.int v.xadv,.int 0,.int 0,.int 0,.bool v.unsf]
theorem tF{a b:List MV}(h:a.length+b.length≤1000)(q:P (.tup (a++b)) H):U (gT .Add (.tup a) (.tup b)) H P:=U.of (fun l=>by
 show dg _ (DK a b)=_
 unfold DK;(erw[if_neg (aC.mpr h)]);rfl) q
theorem qF{b q:Nat}{bw:Bool}{rs:List Nat}{vs:List IV}(R:eQ H b q bw rs vs){Q:MV→MH→Prop}(k:∀p H',Nu H (.list (vs.map oS)) p H'→Q (.ref p) H'):WC (cn (d+2)) 1668 [.ref b] H Q:=by
 refine bC Ju rfl (au (d3 R) ?_)
 refine dG (vs:=rs.map fun r=>.ref r) (fun i acc L H'=>H'=H∧acc=(vs.take i).map oS) ⟨rfl,rfl⟩ (fun i acc L H' hI=>hI.1▸R.row) (fun i y acc L H' hy hI K k0 k1=>?_) fun acc L H' hI=>?_
 ·obtain⟨rfl,rfl⟩:=hI
  rw[aq]at hy
  obtain⟨r,hr,rfl⟩:=az.mp hy
  have hv:vs[i]?=some (vs[i]'(R.len▸(ai.mp hr).1)):=an _
  have h:=R.inf i r _ hr hv
  refine au (jh h (n:="told") (f:=49) (by kernel_rfl) (by kernel_rfl)) (OI h (au (py h) (tF (aA rfl) (k1 _ _ _ ⟨rfl,?_⟩))))
  (erw[aO,hv,aB]);rfl
 ·obtain⟨rfl,rfl⟩:=hI
  have e1:(rs.map fun r=>MV.ref r).length=vs.length:=by(rw[aj];erw[R.len];with_reducible rfl)
  (erw[e1,aZ])
  exact⟨by rw[aj];exact ah R.short (by decide),bn k⟩
end
section
variable{d:Nat}{H:MH}
noncomputable def lK(L:List (Int×MV)):List (MV×MV):=L.map fun x=>(.int x.1,x.2)
noncomputable def i7(c:Int):List (Int×MV)→Option MV
 |[]=>none
 |(k,v)::r=>if k=c then some v else i7 c r
noncomputable def mn(c:Int)(v:MV):List (Int×MV)→List (Int×MV)
 |[]=>[(c,v)]
 |(k,u)::r=>if k=c then(k,v)::r else(k,u)::mn c v r
theorem tf(c:Int):∀L,gR (.int c) (lK L)=some (i7 c L)
 |[]=>rfl
 |(s,v)::r=>by
  show(match iE (.int s) (.int c)with|none=>none|some true=>some (some v)|some false=>gR (.int c) (lK r))=_
  have e:iE (.int s) (.int c)=some (s==c):=rfl
  (erw[e,tf c r])
  show _=some (if s=c then some v else i7 c r)
  by_cases h:s=c
  ·apply dE h;(rw[beq_self_eq_true];erw[if_pos rfl];with_reducible rfl)
  ·have:(s==c)=false:=by(refine(beq_eq_false_iff_ne).mpr ?_);exact h
   (erw[this,if_neg h];with_reducible rfl)
theorem u7(c:Int)(v:MV):∀L,l6 (.int c) v (lK L)=some (lK (mn c v L))
 |[]=>rfl
 |(s,u)::r=>by
  show(match iE (.int s) (.int c)with|none=>none|some true=>some ((MV.int s,v)::lK r)|some false=>(l6 (.int c) v (lK r)).map ((MV.int s,u):: ·))=_
  have e:iE (.int s) (.int c)=some (s==c):=rfl
  (erw[e,u7 c v r])
  show _=some (lK (if s=c then(s,v)::r else(s,u)::mn c v r))
  by_cases h:s=c
  ·apply dE h;(rw[beq_self_eq_true];erw[if_pos rfl]);rfl
  ·have:(s==c)=false:=by(refine(beq_eq_false_iff_ne).mpr ?_);exact h
   (erw[this,if_neg h]);rfl
theorem lG{c k:Int}{v:MV}{L:List (Int×MV)}:i7 c (mn k v L)=if k=c then some v else i7 c L:=by
 induction L with
 |nil=>rfl
 |cons a r ih=>
  obtain⟨s,u⟩:=a
  unfold mn
  by_cases h1:s=k
  ·(erw[if_pos h1])
   apply dE h1
   show(if s=c then some v else i7 c r)=if s=c then some v else if s=c then some u else i7 c r
   by_cases h2:s=c
   ·(erw[if_pos h2,if_pos h2];with_reducible rfl)
   ·(erw[if_neg h2,if_neg h2,if_neg h2];with_reducible rfl)
  ·(erw[if_neg h1])
   show(if s=c then some u else i7 c (mn k v r))=if k=c then some v else if s=c then some u else i7 c r
   (erw[ih])
   by_cases h2:s=c
   ·(erw[if_pos h2,if_pos h2];exact(if_neg fun e=>h1 (by lia)).symm)
   ·(erw[if_neg h2,if_neg h2];with_reducible rfl)
theorem o5{k:Int}{v:MV}:∀{L:List (Int×MV)},(mn k v L).length≤L.length+1
 |[]=>aY _
 |(s,u)::r=>by
  show(if s=k then(s,v)::r else(s,u)::mn k v r).length≤r.length+1+1
  split
  ·exact cN _
  ·exact gB o5
theorem lT{p:Nat}{es es':List (MV×MV)}{k v:MV}{P:Unit→MH→Prop}(h:H[p]?=some (.dict es))(hk:i9 k=true)(hd:l6 k v es=some es')(hn:es.length≤1000)(q:P () (H.set p (.dict es'))):U (fE (.ref p) k v) H P:=U.of (fun l=>by
 unfold fE
 dsimp only
 (erw[h])
 dsimp only
 (erw[hk,hd])
 show(if 1000 < es.length then none else _)=_
 (erw[if_neg (aC.mpr hn)]);rfl) q
theorem eJ{p:Nat}{es:List (MV×MV)}{k v:MV}(h:H[p]?=some (.dict es))(hk:i9 k=true)(hd:gR k es=some (some v)):bp H (.ref p) k=some v:=by
 unfold bp;dsimp only;(erw[h]);dsimp only;(erw[hk,hd]);rfl
theorem nA{p:Nat}{es:List (MV×MV)}{k:MV}{r:Option MV}(h:H[p]?=some (.dict es))(hk:i9 k=true)(hd:gR k es=some r):nB H .In k (.ref p)=some r.isSome:=by
 show rd H k (.ref p)=_
 unfold rd;dsimp only;(erw[h]);dsimp only;(erw[hk,hd]);rfl
theorem mM{p:Nat}{es:List (MV×MV)}{k:MV}{r:Option MV}(h:H[p]?=some (.dict es))(hk:i9 k=true)(hd:gR k es=some r):nB H .NotIn k (.ref p)=some (!r.isSome):=congrArg (dg (!·)) (nA h hk hd)
structure Tu(cs:List Int)(p f:Nat)(H:MH)(j:Nat)(L:dn)(H':MH):Prop where
 gr:Mo (· =f) H H'
 co:L 22=some (.ref p)
 kn:L 66=some (.ref f)
 at_:∃M,H'[f]?=some (.dict (lK M))∧M.length≤j∧∀c,i7 c M=if c∈cs.take j then some (.str (gF c).s)else none
theorem pe{α:Type}{a x:α}{l:List α}:x∈l++[a]↔x∈l∨x=a:=by rw[aH,ax]
theorem D6{p:Nat}{cs:List Int}(h:H[p]?=some (.list (cs.map .int)))(hl:cs.length≤7)(hc:∀c∈cs,c∈K7){Q:MV→MH→Prop}
 (k:∀H' q,Gr H H'→H.length≤q→H'[q]?=some (.list (iO (cs.map gF)))→Q (.ref q) H'):WC (cn (d+3)) 961 [.ref p] H Q:=by
 refine bC Nk rfl (au rfl (bn fun f H₁ n1=>sq ?_))
 have hpf:p < f:=av (dm h) n1.le
 have hp1:=n1.gr.at h
 refine cE (vs:=cs.map .int) (fun j L H'=>Tu cs p f H₁ j L H') ⟨Mo.refl _ _,rfl,rfl,[],n1.at_,aY _,fun c=>(if_neg bR).symm⟩ (fun j L H hI=>hI.gr.at hp1 (aS hpf)) (fun j y L H₂ hy hI K kk=>?_) fun L H₂ hI=>?_
 ·obtain⟨i1,i2,i3,M,i4,i5,i6⟩:=hI
  rw[aq]at hy
  obtain⟨c,hcj,rfl⟩:=az.mp hy
  have hj:j < cs.length:=(ai.mp hcj).1
  have tk:cs.take (j+1)=cs.take j++[c]:=by(erw[aO,hcj]);rfl
  have e0:=mM i4 (k:=.int c) rfl (tf c M)
  rw[i6]at e0
  refine ay i3 (au e0 ?_)
  by_cases hm:c∈cs.take j
  ·(erw[if_pos hm])
   refine kk.next _ _ ⟨i1,i2,i3,M,i4,lj i5,fun c'=>?_⟩
   (rw[i6];erw[tk])
   have:c'∈cs.take j++[c]↔c'∈cs.take j:=pe.trans ⟨fun h=>h.elim id fun e=>e▸hm,.inl⟩
   by_cases h1:c'∈cs.take j
   ·(erw[if_pos h1,if_pos (this.mpr h1)];with_reducible rfl)
   ·(erw[if_neg h1,if_neg fun q=>h1 (this.mp q)];with_reducible rfl)
  ·(erw[if_neg hm])
   refine wg (hc c (ak hcj)) fun H₃ g3=>ay i3 ?_
   have i4':=g3.at i4
   refine lT i4' rfl (u7 c _ M) (by unfold lK;rw[aj];exact ah i5 (ah (dO hj) (ah hl (by decide)))) (kk.next _ _ ⟨(i1.trans g3.mo).setN (.inl rfl),i2,i3,mn c (.str (gF c).s) M,cB i4',ah o5 (gB i5),fun c'=>?_⟩)
   (erw[lG];rw[i6];erw[tk])
   by_cases h1:c=c'
   ·apply dE h1;(erw[if_pos rfl,if_pos (pe.mpr (.inr rfl))];with_reducible rfl)
   ·(erw[if_neg h1])
    by_cases h2:c'∈cs.take j
    ·(erw[if_pos h2,if_pos (pe.mpr (.inl h2))];with_reducible rfl)
    ·(erw[if_neg h2,if_neg fun q=>(pe.mp q).elim h2 fun e=>h1 e.symm];with_reducible rfl)
 ·obtain⟨i1,i2,i3,M,i4,i5,i6⟩:=hI
  rw[aj,aZ]at i6
  have hp2:=i1.at hp1 (aS hpf)
  refine sq (ay i2 ?_)
  refine dG (vs:=cs.map .int) (fun j acc L H'=>H'=H₂∧L 66=some (.ref f)∧acc=iO ((cs.take j).map gF)) ⟨rfl,i3,rfl⟩ (fun j acc L H hI=>hI.1▸hp2) (fun j y acc L H₃ hy hI K k0 k1=>?_) fun acc L H₃ hI=>?_
  ·obtain⟨rfl,h2,rfl⟩:=hI
   replace hy:=(aq)▸hy
   obtain⟨c,hcj,rfl⟩:=az.mp hy
   exact ay h2 (au (eJ i4 rfl (by rw[tf,i6,if_pos (ak hcj)])) (k1 _ _ _ ⟨rfl,h2,by rw[aO,hcj,aB];unfold iO;rw[aB];rfl⟩))
  ·obtain⟨rfl,h2,rfl⟩:=hI
   (erw[show(cs.map MV.int).length=cs.length from aj ..,aZ])
   have g2:Gr H H₃:=(n1.gr.mo.trans i1).weaken fun x hx q=>aC.mpr n1.le (q▸hx)
   exact⟨by rw[aj,aj];exact ah hl (by decide),bn fun q H' nu=>k _ _ (g2.trans nu.gr) (ah g2.1 nu.le) nu.at_⟩
end
section
variable{d:Nat}{H:MH}{P:MV→MH→Prop}
theorem PT{p:Nat}{L:List Int}(h:H[p]?=some (.list (L.map .int)))(h0:L≠[])(hn:L.length≤1000)(q:∀m,P (.int m) H):U (iG (.builtin "min") [.ref p]) H P:=by
 cases L with
 |nil=>exact absurd rfl h0
 |cons x r=>
  refine U.of (a:=.int (xZ x r)) (fun l=>?_) (q _)
  show(cy H (.ref p)).bind _=_
  (erw[di h])
  show(gY ((x::r).map MV.int)).bind _=_
  rw[jT]
  show dg _ (if gj r.length=true then none else some (xZ x r))=_
  (erw[jH (ah (cN _) hn)]);rfl
noncomputable def cu(v:IV):IV:={v with unsf:=false}
theorem Na{vs us:List IV}{i:Nat}{v:IV}(e:us.map cu=vs.map cu)(hv:us[i]?=some v):(us.set i {v with unsf:=true}).map cu=vs.map cu:=by
 (erw[←e])
 apply bK
 intro j
 (erw[aq,aq])
 by_cases hj:i=j
 ·apply dE hj;(erw[db (ai.mp hv).1,hv]);rfl
 ·(erw[cT hj];with_reducible rfl)
theorem Gj{us vs:List IV}(e:us.map cu=vs.map cu):us.length=vs.length:=by have:=congrArg BP e;rwa [aj,aj]at this
structure TI(H:MH)(b q:Nat)(bw:Bool)(rs:List Nat)(vs:List IV)(m:Int)(L:dn)(H':MH):Prop where
 mo:Mo (fun p=>p∈rs) H H'
 row:∃us,eQ H' b q bw rs us∧us.map cu=vs.map cu
 le:L 72=some (.int m)
theorem Pp{b q:Nat}{bw:Bool}{rs:List Nat}{vs:List IV}(R:eQ H b q bw rs vs){a c:Nat}(hac:a < c)(hc:c < vs.length){Q:MV→MH→Prop}
 (k:∀H' us,Mo (fun p=>p∈rs) H H'→eQ H' b q bw rs us→us.map cu=vs.map cu→Q .none H'):WC (cn (d+1)) 135 [.ref b,.int a,.int ((c+1:Nat):Int)] H Q:=by
 have hs:=R.short
 have hrl:=R.len
 have big:∀{x},x≤7→x≤1000:=fun h=>ah h (by decide)
 have sat:∀{j:Nat}{y:MV},(((rs.map fun r=>MV.ref r).take (c+1)).drop a)[j]?=some y→∃r,rs[a+j]?=some r∧y=.ref r∧a+j < vs.length:=fun{j y} hy=>by
  replace hy:=(gM)▸hy
  have hlt:=(ai.mp hy).1
  rw[cK]at hlt
  (rw[fZ (av hlt (nE _ _))]at hy;replace hy:=(aq)▸hy)
  obtain⟨r,hr,rfl⟩:=az.mp hy
  exact⟨r,hr,rfl,hrl▸(ai.mp hr).1⟩
 have slen:(((rs.map fun r=>MV.ref r).take (c+1)).drop a).length=c+1 - a:=by(erw[rJ,cK];rw[aj];erw[hrl,j7 hc];with_reducible rfl)
 refine bC NJ rfl (au (d3 R) (BF R.row (by(rw[aj];erw[hrl]);exact big hs) (big (by lia)) (big (by exact ah ‹_› ‹_›)) ?_))
 revert sat slen
 generalize(((rs.map fun r=>MV.ref r).take (c+1)).drop a)=ss
 intro sat slen e H₀ n0
 have hnr:=R.off n0.le
 have R0:=R.gr n0.gr
 refine sq (fj (n:=c+1 - a) ((cw n0.at_).trans (congrArg some slen)) (big (by omega)) (LE (by omega) (sq ?_)))
 refine dG (vs:=ss) (fun j acc L H'=>H'=H₀∧acc.length=j∧∃L:List Int,acc=L.map .int) ⟨rfl,rfl,[],rfl⟩ (fun j acc L H hI=>hI.1▸n0.at_) (fun j y acc L H₁ hy hI K k0 k1=>?_) fun acc L H₁ hI=>?_
 ·obtain⟨rfl,h2,M,rfl⟩:=hI
  (refine dH (sat hy) fun r hr q0_ hlt=>?_;first|apply dE q0_|apply d6 q0_)
  refine au (iC (R0.inf _ r _ hr (an hlt))) (k1 _ _ _ ⟨rfl,by(erw[aJ,h2]);rfl,M++[vs[a+j].cluster],by(erw[aB]);rfl⟩)
 ·obtain⟨rfl,h2,M,rfl⟩:=hI
  (rw[aj]at h2;replace h2:=(slen)▸h2)
  refine⟨by(rw[aj];erw[h2]);exact big (by omega),bn fun mq H₂ n1=>PT n1.at_ (fun q=>by replace h2:=(q)▸h2;exact absurd h2 (by(erw[iK]);omega)) (by(erw[h2]);exact big (by omega)) fun m=>sq ?_⟩
  refine cE (vs:=ss) (fun j L H'=>TI H₂ b q bw rs vs m L H') ⟨Mo.refl _ _,⟨vs,R0.gr n1.gr,rfl⟩,rfl⟩ (fun j L H hI=>hI.mo.at (n1.gr.at n0.at_) hnr) (fun j y L H₃ hy hI K kk=>?_) fun L H₃ hI=>?_
  ·obtain⟨m3,⟨us,R3,e3⟩,f1⟩:=hI
   (refine dH (sat hy) fun r hr q0_ hlt=>?_;first|apply dE q0_|apply d6 q0_)
   have hu:=an (kN hlt (Gj e3).symm)
   have h:=R3.inf _ r _ hr hu
   exact au (iC h) (ay f1 (pn (fun z_=>o0 h (kk.next _ _ ⟨m3.setN (.inl (ak hr)),⟨_,R3.set hr,Na e3 hu⟩,f1⟩)) fun z_=>kk.next _ _ ⟨m3,⟨us,R3,e3⟩,f1⟩))
  ·obtain⟨m3,⟨us,R3,e3⟩,f1⟩:=hI
   exact k _ us (n0.gr.mo.trans (n1.gr.mo.trans m3)) R3 e3
end
section
variable{d:Nat}{H:MH}{P:MV→MH→Prop}
theorem GY{a b:Nat}(ha:a < 1000000)(hb:b≤1000)(q:P (.int ((a*2^b:Nat):Int)) H):U (gT .LShift (.int a) (.int b)) H P:=U.of (fun l=>by
 show dg _ (if(big (a:Int)||decide ((b:Int) < 0)||decide ((1000:Int) < b))=true then none else some ((a:Int)*2^(b:Int).toNat))=_
 (erw[eK ha,decide_eq_false (k4 b),decide_eq_false (show¬(1000:Int) < b by lia)];rw[if_neg Bool.noConfusion,hO])
 rw[Ma,Int.natCast_pow];rfl) q
theorem eQ.nin{b q:Nat}{bw:Bool}{rs:List Nat}{vs:List IV}(R:eQ H b q bw rs vs){p:Nat}{o:MO}(h:H[p]?=some o)(ho:∀v,o≠eO v):p∉rs:=fun hm=>by
 refine fH (bW hm) fun i hi=>?_
 exact ho _ (ab (h.symm.trans (R.inf i _ _ hi (an (R.len▸(ai.mp hi).1)))))
theorem eQ.ninL{b q:Nat}{bw:Bool}{rs:List Nat}{vs:List IV}(R:eQ H b q bw rs vs){p:Nat}{l:List MV}(h:H[p]?=some (.list l)):p∉rs:=R.nin h fun v e=>by cases e
theorem CI{b q x:Nat}{bw:Bool}{rs:List Nat}{vs:List IV}{body:PM MF}{L:dn}{Q:aT MF}(G:dn→MH→Prop)(R:eQ H b q bw rs vs)(h0:G L H)(φ:Nat→IV→IV)
 (step:∀(i r:Nat) (v:IV) (us:List IV) (L:dn) (H₁:MH),Mo (fun p=>p∈rs) H H₁→eQ H₁ b q bw rs us→rs[i]?=some r→vs[i]?=some v→us[i]?=some v→H₁[r]?=some (eO v)→G L H₁→
  ∀K:aT MF,KK (fun L H'=>Mo (fun p=>p∈rs) H H'∧eQ H' b q bw rs (us.set i (φ i v))∧G L H') Q K→body.wp (sN x (.int (i:Nat)) L) H₁ K)
 (fin:∀L H₁,Mo (fun p=>p∈rs) H H₁→eQ H₁ b q bw rs (vs.mapIdx φ)→G L H₁→Q .next L H₁):
 rj (.range 0 (vs.length:Nat)) (gu x) body L H Q:=by
 refine gL (fun i L H'=>Mo (fun p=>p∈rs) H H'∧eQ H' b q bw rs (pU φ vs i)∧G L H') (aL R.short (by decide)) ⟨Mo.refl _ _,by(erw[zq]);exact R,h0⟩ (fun i L₁ H₁ hi hI K kk=>?_) fun L₁ H₁ hI=>?_
 ·obtain⟨i1,i2,i3⟩:=hI
  have hv:vs[i]?=some vs[i]:=an hi
  have hr:rs[i]?=some (rs[i]'(R.len▸hi)):=an _
  have hu:(pU φ vs i)[i]?=some vs[i]:=by(erw[kl,hv]);exact congrArg some (if_neg (gp i))
  rw[←rW hv]at kk
  exact step i _ _ _ L₁ H₁ i1 i2 hr hv hu (i2.inf i _ _ hr hu) i3 K kk
 ·obtain⟨i1,i2,i3⟩:=hI
  rw[rX]at i2
  exact fin L₁ H₁ i1 i2 i3
theorem FU(ts:List iy)(i:Nat):cY ts i∈["","isol","init","medi","fina"]:=by
 unfold cY
 split
 ·unfold wz
  split<;>split<;>decide
 ·decide
noncomputable abbrev nH(vs:List IV):List iy:=vs.map fun v=>gF v.code
structure TG(H:MH)(b q:Nat)(bw:Bool)(rs:List Nat)(vs:List IV)(L:dn)(H':MH):Prop where
 mo:Mo (fun p=>p∈rs) H H'
 row:∃us,eQ H' b q bw rs us∧us.map cu=vs.map cu
 bu:L 14=some (.ref b)
structure TH(b mp q1 q2:Nat)(L:dn):Prop where
 bu:L 14=some (.ref b)
 ma:L 82=some (.ref mp)
 ty:L 123=some (.ref q1)
 fo:L 41=some (.ref q2)
theorem Pg{b q:Nat}{bw:Bool}{rs:List Nat}{vs:List IV}(R:eQ H b q bw rs vs)(hc:∀v∈vs,v.code∈K7){mp:Nat}{es:List (MV×MV)}(hm:H[mp]?=some (.dict es))(fm:String→Int)
 (hfm:∀s∈["","isol","init","medi","fina"],∃r,gR (.str (ag s)) es=some r∧r.getD (.int 0)=.int (fm s)) {Q:MV→MH→Prop}
 (k:∀H' us,Mo (fun p=>p∈rs) H H'→eQ H' b q bw rs us→us.map cu=(vs.mapIdx fun i v=>{v with mask:=bg v.mask (fm (cY (nH vs) i))}).map cu→Q .none H'):WC (cn (d+4)) 999 [.ref b,.ref mp] H Q:=by
 have hs:=R.short
 have hnm:=R.nin hm fun v e=>by cases e
 have hts:(nH vs).length=vs.length:=aj ..
 refine bC Nh rfl (au (d3 R) ?_)
 refine dG (vs:=rs.map fun r=>.ref r) (fun j acc L H'=>H'=H∧acc=((vs.take j).map fun v=>v.code).map .int) ⟨rfl,rfl⟩ (fun j acc L H' hI=>hI.1▸R.row) (fun j y acc L H₁ hy hI K k0 k1=>?_) fun acc L H₁ hI=>?_
 ·obtain⟨rfl,rfl⟩:=hI
  rw[aq]at hy
  obtain⟨r,hr,rfl⟩:=az.mp hy
  have hv:vs[j]?=some (vs[j]'(R.len▸(ai.mp hr).1)):=an _
  exact au (lI (R.inf j r _ hr hv)) (k1 _ _ _ ⟨rfl,by(erw[aO,hv,aB,aB]);rfl⟩)
 (refine d9 hI fun q0_ q1_=>?_;subst q0_;subst q1_;clear hI)
 (erw[show(rs.map fun r=>MV.ref r).length=vs.length by rw[aj,R.len],aZ])
 refine⟨by rw[aj,aj];exact ah hs (by decide),bn fun cq H₂ n1=>D6 n1.at_ (by rw[aj];exact hs) (fun c hcm=>by obtain⟨v,hv,rfl⟩:=aU.mp hcm;exact hc v hv) fun H₃ q1 g3 z_ hq1=>?_⟩
 rw[bc]at hq1
 replace hq1:H₃[q1]?=some (.list (iO (nH vs))):=hq1
 refine sq (FS hq1 (hts▸hs) fun H₄ q2 g4 hq2=>sq ?_)
 replace hq2:=(hts)▸hq2
 have g14:=(n1.gr.trans g3).trans g4
 have R4:=R.gr g14
 have hq14:=g4.at hq1
 have hm4:=g14.at hm
 refine fj (n:=vs.length) ((cw hq2).trans (congrArg some ((aj ..).trans aW))) (ah hs (by decide)) (cP (kK (ah hs (by decide))) ?_)
 refine CI (fun L H=>TH b mp q1 q2 L) R4 ⟨rfl,rfl,rfl,rfl⟩ (fun i v=>{v with mask:=bg v.mask (fm (cY (nH vs) i))}) (fun i r v us L H₅ m R5 hr hv hu h hG K kk=>?_) fun L H₅ m R5 hG=>?_
 ·obtain⟨f1,f2,f3,f4⟩:=hG
  have hi:i < vs.length:=(ai.mp hv).1
  have gi:bp H₅ (.ref q2) (.int i)=some (.str (ag (cY (nH vs) i))):=by
   (erw[cv (m.at hq2 (R4.ninL hq2)) (av hi (ah hs (by decide))),aq,cH hi]);rfl
  refine aM (hfm _ (FU (nH vs) i)) fun r0 r1 r2=>?_
  have hm5:=m.at hm4 hnm
  refine ay f1 (au (d3 R5) (au (ip R5 hr) (au (pv h) (ay f2 (au (gI hm5) (ay f4 (au gi (jZ hm5 rfl r1 ?_))))))))
  (erw[r2])
  exact ay f1 (au (d3 R5) (au (ip R5 hr) (rv h (kk.next _ _ ⟨m.setN (.inl (ak hr)),R5.set hr,f1,f2,f3,f4⟩))))
 ·obtain⟨f1,f2,f3,f4⟩:=hG
  refine sq (ay f3 (pi (m.at hq14 (R4.ninL hq14)) (hts▸hs) fun H₆ q3 g6 z_ hq3=>?_))
  have R6:=R5.gr g6
  refine cE (vs:=OB (gw (nH vs) (nH vs).length)) (fun j L H'=>TG H₆ b q bw rs (vs.mapIdx fun i v=>{v with mask:=bg v.mask (fm (cY (nH vs) i))}) L H') ⟨Mo.refl _ _,⟨_,R6,rfl⟩,f1⟩ (fun j L H' hI=>hI.mo.at hq3 (R6.ninL hq3)) (fun j x L7 H₇ hx hI K kk=>?_) fun L7 H₇ hI=>?_
  ·obtain⟨m7,⟨us,R7,e7⟩,f7⟩:=hI
   rw[aq]at hx
   obtain⟨⟨u,v⟩,hr,rfl⟩:=az.mp hx
   refine rO ((jN (nH vs)).mp (ak hr)) fun m1 m2 m3 m4 m5=>?_
   have huv:u < v:=((oG (nH vs)).mp (ie m3)).1
   have hul:v < us.length:=by(erw[Gj e7,dT,←hts]);exact m1
   exact ay f7 (Pp R7 huv hul fun H₈ us8 m8 R8 e8=>kk.next _ _ ⟨m7.trans m8,⟨us8,R8,e8.trans e7⟩,f7⟩)
  ·obtain⟨m7,⟨us,R7,e7⟩,f7⟩:=hI
   exact k _ us ((g14.mo.trans m).trans (g6.mo.trans m7)) R7 e7
end
section
variable{d:Nat}{H:MH}
noncomputable def Bh:List (Int×Int):=[(60,62),(91,93),(123,125),(171,187),(8712,8715),(8713,8716),(8714,8717),(65124,65125),(65308,65310),(65339,65341),(65371,65373)]
noncomputable def uy:List (Int×Int):=[(40,1),(8249,1),(8261,1),(8317,1),(8333,1),(8804,4),(8814,14),(8842,1),(8847,2),(8866,1),(8905,2),(8912,1),(8918,1),(8920,4),(8928,7),(8968,2),(9001,1),(10088,7),(10214,5),(10627,5),(12296,5),(12308,4),(65113,3),(65288,1),(65375,1),(65378,1)]
theorem O9:cn (d+1) 1084 [] H=some (.ref H.length,H++[q8 Bh]):=by kernel_rfl
theorem ON:cn (d+1) 1091 [] H=some (.ref H.length,H++[q8 uy]):=by kernel_rfl
noncomputable def E8(p:Int×Int):Bool:=!K7.contains p.1&&!K7.contains p.2
noncomputable def xp(f:Int)(k:Nat):Int×Int:=(f+2*(k:Int),f+2*(k:Int)+1)
theorem HJ{r:Int×Int}(h:r∈uy):(∃n:Nat,r.2=(n:Int)∧n≤14∧∀k < n,E8 (xp r.1 k)=true):=by
 have:(uy.all fun r=>decide (0≤r.2)&&(decide (r.2≤14)&&(aE r.2.toNat).all fun k=>E8 (xp r.1 k)))=true:=by kernel_rfl
 have:=bd.mp this r h
 rw[bf,bf,decide_eq_true_iff,decide_eq_true_iff,bd]at this
 (refine oO this fun h1 h2 h3=>?_;clear this)
 exact⟨r.2.toNat,(Int.toNat_of_nonneg h1).symm,Int.toNat_le.mpr h2,fun k hk=>h3 k (cg.mpr hk)⟩
theorem Oa:¬((ag "extend")=ag "append"):=fun h=>absurd (fF.mp h) (by decide)
theorem G2{p m:Nat}{vs us:List MV}{P:MV→MH→Prop}(h:H[p]?=some (.list vs))(h2:H[m]?=some (.list us))(hne:m≠p)(hn:vs.length+us.length≤1000)(q:P .none (H.set p (.list (vs++us)))):U (iX (.ref p) "extend" [.ref m]) H P:=U.of (fun l=>by
 unfold iX
 dsimp only
 (erw[h])
 dsimp only
 (erw[if_neg Oa,if_pos rfl])
 show(if(m==p)=true then none else(cy H (.ref m)).bind _)=_
 (erw[beq_eq_false_iff_ne.mpr hne,di h2])
 show Hn _ _ _ _=_
 unfold Hn;(erw[jH hn]);rfl) q
noncomputable abbrev DP(P:List (Int×Int)):List MV:=P.map fun r=>.tup [.int r.1,.int r.2]
structure TE(f:Nat)(H:MH)(j:Nat)(L:dn)(H':MH):Prop where
 mo:Mo (· =f) H H'
 fo:L 42=some (.ref f)
 at_:∃P:List (Int×Int),H'[f]?=some (.list (DP P))∧P.length≤11+14*j∧∀p∈P,E8 p=true
theorem v8{Q:MV→MH→Prop}(k:∀H' q P,Gr H H'→H'[q]?=some (.list (DP P))→P.length≤375→(∀p∈P,E8 p=true)→Q (.ref q) H'):WC (cn (d+2)) 1096 [] H Q:=by
 refine bC JX rfl (.of_eq O9 (sq (.of_eq ON ?_)))
 have n0:=Nu.mk' H (q8 Bh)
 revert n0
 generalize(H++[q8 Bh])=H₁
 generalize H.length=f
 intro n0
 have n1:=Nu.mk' H₁ (q8 uy)
 revert n1
 generalize(H₁++[q8 uy])=H₂
 generalize H₁.length=s
 intro n1
 have hne:f < s:=av (dm n0.at_) n1.le
 refine cE (vs:=DP uy) (fun j L H'=>TE f H₂ j L H') ⟨Mo.refl _ _,rfl,Bh,n1.gr.at n0.at_,by decide,by decide⟩ (fun j L H' hI=>hI.mo.at n1.at_ (cj hne)) (fun j x L H₃ hx hI K kk=>?_) fun L H₃ hI=>?_
 ·obtain⟨m1,i2,P,i3,i4,i5⟩:=hI
  rw[aq]at hx
  obtain⟨r,hr,rfl⟩:=az.mp hx
  have hj:j < 26:=(ai.mp hr).1
  refine dH (HJ (ak hr)) fun n hn hn14 hout=>?_
  (erw[hn])
  refine ay i2 (au (gK i3 rfl) (cP (eK (aL hn14 (by decide))) ?_))
  refine fN (fun i acc L H'=>H'=H₃∧L 36=some (.int r.1)∧acc=DP ((aE i).map (xp r.1))) (aL hn14 (by decide)) ⟨rfl,rfl,rfl⟩ (fun i acc L H' hi hI K k0 k1=>?_) fun acc L H' hI=>?_
  ·obtain⟨rfl,h2,rfl⟩:=hI
   have hb:big (i:Int)=false:=eK (av hi (ah hn14 (by decide)))
   exact ay h2 ⟨⟨rfl,hb⟩,ay h2 ⟨⟨rfl,hb⟩,k1 _ _ _ ⟨rfl,h2,by(erw[cX,aB]);unfold DP;(erw[aB]);rfl⟩⟩⟩
  ·obtain⟨rfl,h2,rfl⟩:=hI
   have hlen:(DP ((aE n).map (xp r.1))).length=n:=by(rw[aj,aj];erw[aW];with_reducible rfl)
   refine⟨by(erw[hlen]);exact ah hn14 (by decide),bn fun q H₄ n2=>?_⟩
   have i3':=n2.gr.at i3
   refine G2 i3' n2.at_ (cj (av (dm i3) n2.le)) (by(erw[hlen];rw[aj]);lia) (kk.next _ _ ⟨(m1.trans n2.gr.mo).setN (.inl rfl),i2,P++(aE n).map (xp r.1),?_,?_,?_⟩)
   ·(erw[cB i3']);(erw[aB];with_reducible rfl)
   ·(erw[aJ];rw[aj];erw[aW]);lia
   ·intro p hp
    rcases aH.mp hp with hp|hp
    ·exact i5 p hp
    ·obtain⟨k,hk,rfl⟩:=aU.mp hp
     exact hout k (cg.mp hk)
 ·obtain⟨m1,i2,P,i3,i4,i5⟩:=hI
  exact sq (ay i2 (k H₃ f P (((n0.gr.trans n1.gr).mo.trans m1).weaken fun x hx q=>aC.mpr n0.le (q▸hx)) i3 i4 i5))
structure TC(t:Nat)(H:MH)(j:Nat)(L:dn)(H':MH):Prop where
 mo:Mo (· =t) H H'
 ta:L 118=some (.ref t)
 at_:∃M:List (Int×MV),H'[t]?=some (.dict (lK M))∧M.length≤2*j∧∀c∈K7,i7 c M=none
theorem s8{M:List (Int×MV)}:(lK M).length=M.length:=aj ..
theorem v7{Q:MV→MH→Prop}(k:∀H' q L,Gr H H'→H'[q]?=some (.dict (lK L))→(∀c∈K7,i7 c L=none)→Q (.ref q) H'):WC (cn (d+3)) 1103 [] H Q:=by
 refine bC JW rfl (au rfl (bn fun t H₁ n0=>sq (v8 fun H₂ s P g2 hs hP hout=>?_)))
 have a2:=g2.at n0.at_
 have hne:s≠t:=fun e=>by subst e;replace a2:=(hs)▸a2;cases a2
 refine cE (vs:=DP P) (fun j L H'=>TC t H₂ j L H') ⟨Mo.refl _ _,rfl,[],a2,aY _,fun c z_=>rfl⟩ (fun j L H' hI=>hI.mo.at hs hne) (fun j x L H₃ hx hI K kk=>?_) fun L H₃ hI=>?_
 ·obtain⟨m1,i2,M,i3,i4,i5⟩:=hI
  replace hx:=(aq)▸hx
  (refine gh hx fun r hr q0_=>?_;subst q0_)
  have hj:j < P.length:=(ai.mp hr).1
  have ho:=hout r (ak hr)
  unfold E8 at ho
  rw[bf,dN,dN]at ho
  (refine d9 ho fun o1 o2=>?_;clear ho)
  have l1:=o5 (k:=r.1) (v:=.int r.2) (L:=M)
  have l2:=o5 (k:=r.2) (v:=.int r.1) (L:=mn r.1 (.int r.2) M)
  refine ay i2 (lT i3 rfl (u7 r.1 _ M) (by(erw[s8]);omega) (sq (ay i2 (lT (cB i3) rfl (u7 r.2 _ _) (by(erw[s8]);exact ah l1 (by omega)) (kk.next _ _ ⟨(m1.setN (.inl rfl)).setN (.inl rfl),i2,_,cB (cB i3),ah l2 (by lia),fun c hc=>?_⟩)))))
  have n1:r.1≠c:=fun e=>by subst e;rw[cG.mpr hc]at o1;exact Bool.noConfusion o1
  have n2:r.2≠c:=fun e=>by subst e;rw[cG.mpr hc]at o2;exact Bool.noConfusion o2
  (erw[lG,lG,i5 c hc,if_neg n1,if_neg n2];with_reducible rfl)
 ·obtain⟨m1,i2,M,i3,i4,i5⟩:=hI
  exact sq (ay i2 (k H₃ t M (((n0.gr.trans g2).mo.trans m1).weaken fun x hx q=>aC.mpr n0.le (q▸hx)) i3 i5))
theorem eQ.ninD{b q:Nat}{bw:Bool}{rs:List Nat}{vs:List IV}(R:eQ H b q bw rs vs){p:Nat}{l:List (MV×MV)}(h:H[p]?=some (.dict l)):p∉rs:=fun hm=>by
 refine fH (bW hm) fun i hi=>?_
 have:=R.inf i _ _ hi (an (R.len▸(ai.mp hi).1))
 replace this:=(h)▸this;cases this
theorem zR{b q:Nat}{rs:List Nat}{vs:List IV}(R:eQ H b q true rs vs)(hc:∀v∈vs,v.code∈K7){cm:MV}{Q:MV→MH→Prop}
 (k:∀H',Mo (fun p=>p∈rs) H H'→eQ H' b q true rs (vs.map fun v=>{v with mask:=bg v.mask 0})→Q .none H'):WC (cn (d+4)) 1118 [.ref b,cm,.int 0] H Q:=by
 refine bC JV rfl (au (Ps R) (sq (v7 fun H₁ t M g1 ht hM=>sq ?_)))
 have R1:=R.gr g1
 have hnt:=R1.ninD ht
 refine au (d3 R1) ?_
 refine jo (fun L z_=>L 118=some (.ref t)∧L 81=some (.int 0)) R1 ⟨rfl,rfl⟩ (fun z_ v=>{v with mask:=bg v.mask 0}) (fun i r v us L H₂ m R₂ hr hv hu h hG K kk=>?_) fun L H₂ m R₂ z_=>k H₂ (g1.mo.trans m) (by rw[ji]at R₂;exact R₂)
 (refine d9 hG fun f1 f2=>?_;clear hG)
 have ht2:=m.at ht hnt
 have hk:=tf v.code M
 rw[hM v.code (hc v (ak hv))]at hk
 exact ay f1 (au (gI ht2) (au (lI h) (au (lI h) (jZ ht2 rfl hk (sq (au (lI h) (pn (fun hn=>absurd rfl hn) fun z_=>au (pv h) (ay f2 (rv h (kk.next _ _ ⟨m.setN (.inl (ak hr)),R₂.set hr,f1,f2⟩))))))))))
end
section
variable{d:Nat}{H H₀:MH}{X:bQ}{A:fR}
noncomputable def Ke(t:Nat):MO:=.inst 181 [("kind",.str "single"),("flag",.int 0),("mark_set",.int (-1)),("tables",.ref t)]
noncomputable def OS(m:Nat):MO:=.inst 782 [("mapping",.ref m)]
noncomputable def Ew(b gd ll r:Nat)(m:Int):MO:=.inst 203 [("buffer",.ref b),("gdef",.ref gd),("lookups",.ref ll),("lookup",.ref r),("mask",.int m),("depth",.int 0)]
variable{b q gd ll lk s t sg:Nat}{m:Int}
theorem mX(h:H[s]?=some (Ew b gd ll lk m)):aN dz H (.ref s) "buffer"=some (.ref b):=(aG h (by kernel_rfl)).trans (by kernel_rfl)
theorem I3(h:H[s]?=some (Ew b gd ll lk m)):aN dz H (.ref s) "gdef"=some (.ref gd):=(aG h (by kernel_rfl)).trans (by kernel_rfl)
theorem mW(h:H[s]?=some (Ew b gd ll lk m)):aN dz H (.ref s) "lookup"=some (.ref lk):=(aG h (by kernel_rfl)).trans (by kernel_rfl)
theorem I2(h:H[s]?=some (Ew b gd ll lk m)):aN dz H (.ref s) "mask"=some (.int m):=(aG h (by kernel_rfl)).trans (by kernel_rfl)
theorem Bi(h:H[lk]?=some (Ke t)):aN dz H (.ref lk) "kind"=some (.str "single"):=(aG h (by kernel_rfl)).trans (by kernel_rfl)
theorem Kd(h:H[lk]?=some (Ke t)):aN dz H (.ref lk) "flag"=some (.int 0):=(aG h (by kernel_rfl)).trans (by kernel_rfl)
theorem C3(h:H[lk]?=some (Ke t)):aN dz H (.ref lk) "tables"=some (.ref t):=(aG h (by kernel_rfl)).trans (by kernel_rfl)
theorem sx{mp:Nat}(h:H[sg]?=some (OS mp)):aN dz H (.ref sg) "mapping"=some (.ref mp):=(aG h (by kernel_rfl)).trans (by kernel_rfl)
theorem Al{Q:MV→MH→Prop}(k:∀H',Gr H H'→Q (.int 0) H'):WC (cn (d+1)) 221 [.int 0] H Q:=
 bC NE rfl (au (a:=[(MV.int 1,MV.int 2),(MV.int 2,MV.int 4),(MV.int 3,MV.int 8)]) (by kernel_rfl) (bn fun p H' n=>au (gI n.at_) (jZ n.at_ (k:=.int 0) rfl (r:=none) rfl (k _ n.gr))))
theorem yf(F:dw H₀ X A)(g:Gr H₀ H)(hl:H[lk]?=some (Ke t)){c:Int}{Q:MV→MH→Prop}(k:∀H',Gr H H'→Q (.bool false) H'):WC (cn (d+3)) 228 [.ref A.gd,.ref lk,.int c] H Q:=by
 refine zn F.gd fun a bb c' e hgd=>?_
 refine bC ND rfl (au (jh (g.at hgd) (n:="glyph_class") (f:=1840) (by kernel_rfl) (by kernel_rfl)) (pr F g (sq (au (Kd hl) (Al fun H' g'=>?_)))))
 exact sq (k _ g')
theorem J4(F:dw H₀ X A)(g:Gr H₀ H){bw:Bool}{rs:List Nat}{vs:List IV}(R:eQ H b q bw rs vs)(hs:H[s]?=some (Ew b A.gd ll lk m))(hl:H[lk]?=some (Ke t)){i r:Nat}{v:IV}(hr:rs[i]?=some r)(hv:vs[i]?=some v){Q:MV→MH→Prop}
 (k:∀H',Gr H H'→Q (.bool false) H'):WC (cn (d+4)) 235 [.ref s,.int i] H Q:=
 bC NC rfl (au (I3 hs) (au (mW hs) (au (mX hs) (au (d3 R) (au (ip R hr) (au (jV (R.inf i r v hr hv)) (yf F g hl k)))))))
theorem Mf(F:dw H₀ X A)(g:Gr H₀ H){bw:Bool}{rs:List Nat}{vs:List IV}(R:eQ H b q bw rs vs)(hs:H[s]?=some (Ew b A.gd ll lk m))(hl:H[lk]?=some (Ke t)){i r:Nat}{v:IV}(hr:rs[i]?=some r)(hv:vs[i]?=some v){Q:MV→MH→Prop}
 (k:∀H',Gr H H'→Q (.bool (bZ v.mask m != 0)) H'):WC (cn (d+5)) 242 [.ref s,.int i] H Q:=by
 refine bC NB rfl (au (mX hs) (au (d3 R) (au (ip R hr) (au (pv (R.inf i r v hr hv)) (au (I2 hs) (pn (fun hb=>J4 F g R hs hl hr hv fun H' g'=>?_) fun hb=>?_))))))
 ·rw[show(bZ v.mask m != 0)=true from bne_iff_ne.mpr hb]at k;exact k H' g'
 ·rw[show(bZ v.mask m != 0)=!decide (bZ v.mask m=0)from rfl]at k;exact k H (Gr.refl _)
theorem ud{bw:Bool}{rs:List Nat}{vs:List IV}(R:eQ H b q bw rs vs)(hs:H[s]?=some (Ew b gd ll lk m)){mp:Nat}{es:List (MV×MV)}(hg:H[sg]?=some (OS mp))(hm:H[mp]?=some (.dict es))(ok:jt es){i r:Nat}{v:IV}(hr:rs[i]?=some r)(hv:vs[i]?=some v){Q:MV→MH→Prop}
 (k:∀H' (x:Int),Mo (fun p=>p∈rs) H H'→eQ H' b q bw rs (vs.set i {v with glyph:=iZ es v.glyph})→(x= -1∨x=((i+1:Nat):Int))→Q (.int x) H'):WC (cn (d+1)) 793 [.ref s,.ref sg,.int i] H Q:=by
 have h:=R.inf i r v hr hv
 refine aM (ok v.glyph) fun x e1 e2=>?_
 refine bC Nx rfl (au (mX hs) (au (d3 R) (au (ip R hr) (sq (au (jV h) (au (sx hg) (au (mM hm rfl e1) ?_)))))))
 cases x with
 |none=>
  have e:iZ es v.glyph=v.glyph:=by unfold iZ;(erw[e1];with_reducible rfl)
  refine k H (-1) (Mo.refl _ _) ?_ (.inl rfl)
  (erw[e,show({v with glyph:=v.glyph}:IV)=v from rfl,oZ hv]);exact R
 |some y=>
  (refine dH (e2 y rfl) fun g' q0_ z_ z_=>?_;subst q0_)
  have e:iZ es v.glyph=g':=by unfold iZ;(erw[e1];with_reducible rfl)
  rw[e]at k
  exact sq (au (sx hg) (au (jV h) (au (eJ hm rfl e1) (xB h (sq (k _ _ (Mo.set (.inl (ak hr))) (R.set hr) (.inr rfl)))))))
theorem wO{bw:Bool}{rs:List Nat}{vs:List IV}(R:eQ H b q bw rs vs)(hs:H[s]?=some (Ew b gd ll lk m)){mp:Nat}{es:List (MV×MV)}(hg:H[sg]?=some (OS mp))(hm:H[mp]?=some (.dict es))(ok:jt es){i r:Nat}{v:IV}(hr:rs[i]?=some r)(hv:vs[i]?=some v){Q:MV→MH→Prop}
 (k:∀H' (x:Int),Mo (fun p=>p∈rs) H H'→eQ H' b q bw rs (vs.set i {v with glyph:=iZ es v.glyph})→(x= -1∨x=((i+1:Nat):Int))→Q (.int x) H'):WC (cn (d+2)) 821 [.ref s,.str "single",.ref sg,.int i] H Q:=
 bC Nw rfl (au jm (ud R hs hg hm ok hr hv k))
theorem si{bw:Bool}{rs:List Nat}{vs:List IV}(R:eQ H b q bw rs vs)(hs:H[s]?=some (Ew b gd ll lk m))(hl:H[lk]?=some (Ke t))(ht:H[t]?=some (.list [.ref sg])){mp:Nat}{es:List (MV×MV)}(hg:H[sg]?=some (OS mp))(hm:H[mp]?=some (.dict es))(ok:jt es){i r:Nat}{v:IV}(hr:rs[i]?=some r)(hv:vs[i]?=some v){Q:MV→MH→Prop}
 (k:∀H' (x:Int),Mo (fun p=>p∈rs) H H'→eQ H' b q bw rs (vs.set i {v with glyph:=iZ es v.glyph})→(x= -1∨x=((i+1:Nat):Int))→Q (.int x) H'):WC (cn (d+3)) 828 [.ref s,.int i] H Q:=by
 have nt:=R.ninL ht
 refine bC Nv rfl (au (mW hs) (au (C3 hl) ?_))
 refine cE (vs:=[.ref sg]) (fun j L H'=>Mo (fun p=>p∈rs) H H'∧if j=0 then H'=H∧L 101=some (.ref s)∧L 9=some (.int i)else eQ H' b q bw rs (vs.set i {v with glyph:=iZ es v.glyph})) ⟨Mo.refl _ _,rfl,rfl,rfl⟩ (fun j L H' hI=>hI.1.at ht nt) (fun j y L H' hy hI K kk=>?_) fun L H' hI=>sq (k H' (-1) hI.1 hI.2 (.inl rfl))
 (refine d9 (mx hy) fun q0_ q1_=>?_;subst q0_;subst q1_)
 (refine uj hI fun z_ q0_ f1 f2=>?_;subst q0_;clear hI)
 refine ay f1 (ay f1 (au (mW hs) (au (Bi hl) (ay f2 (wO R hs hg hm ok hr hv fun H₁ x m1 R1 hx=>sq (dc (fun hx0=>?_) fun hx0=>?_))))))
 ·exact kk.ret _ _ _ (k H₁ x m1 R1 hx)
 ·exact kk.next _ _ ⟨m1,R1⟩
end
section
variable{d:Nat}{H H₀:MH}{X:bQ}{A:fR}
variable{b q gd ll lk s t sg:Nat}{m:Int}
noncomputable def sj(m:Int)(es:List (MV×MV))(v:IV):IV:=if(bZ v.mask m != 0)=true then{v with glyph:=iZ es v.glyph}else v
theorem eQ.ninI{bw:Bool}{rs:List Nat}{vs:List IV}(R:eQ H b q bw rs vs){p C:Nat}{fs:List (Str×MV)}(h:H[p]?=some (.inst C fs))(hC:C≠52):p∉rs:=R.nin h fun v e=>hC (MO.inst.inj e).1
structure TA(H:MH)(b q s:Nat)(bw:Bool)(rs:List Nat)(vs:List IV)(m:Int)(es:List (MV×MV))(i:Nat)(L:dn)(H':MH):Prop where
 mo:Mo (fun p=>p∈rs) H H'
 row:eQ H' b q bw rs (pU (fun z_=>sj m es) vs i)
 sc:L 101=some (.ref s)
 at_:L 9=some (.int (i:Nat))
 co:∃c:Int,L 23=some (.int c)
 le:i≤vs.length
theorem D4{φ:Nat→IV→IV}{vs:List IV}{i:Nat}:(pU φ vs i).length=vs.length:=dT
theorem vU(F:dw H₀ X A)(g:Gr H₀ H){bw:Bool}{rs:List Nat}{vs:List IV}(R:eQ H b q bw rs vs)(hlo:∀r∈rs,H₀.length≤r)(hs:H[s]?=some (Ew b A.gd ll lk m))(hl:H[lk]?=some (Ke t))(ht:H[t]?=some (.list [.ref sg])){mp:Nat}{es:List (MV×MV)}(hg:H[sg]?=some (OS mp))(hm:H[mp]?=some (.dict es))(ok:jt es){Q:MV→MH→Prop}
 (k:∀H' (x:Int),Mo (fun p=>p∈rs) H H'→eQ H' b q bw rs (vs.map (sj m es))→Q (.int x) H'):WC (cn (d+6)) 835 [.ref s] H Q:=by
 have hsh:=R.short
 have n1:=R.ninI hs (by decide)
 have n2:=R.ninI hl (by decide)
 have n3:=R.ninL ht
 have n4:=R.ninI hg (by decide)
 have n5:=R.nin hm fun v e=>by cases e
 refine bC Nt rfl (sq (sq ?_))
 refine vH 8 (fun i L H'=>TA H b q s bw rs vs m es i L H') (by decide) ⟨Mo.refl _ _,by(erw[zq]);exact R,rfl,rfl,⟨0,rfl⟩,jM _⟩ fun i L H₁ hI K kk=>?_
 obtain⟨m1,R1,f1,f2,⟨c,f3⟩,hle⟩:=hI
 have hs1:=m1.at hs n1
 refine ay f2 (ay f1 (au (mX hs1) (au (d3 R1) (fj ((kY R1).trans (congrArg some D4)) (ah hsh (by decide)) (dc (fun hlt=>?_) fun hlt=>?_)))))
 ·have hi:i < vs.length:=dd.mp hlt
  have hv:vs[i]?=some vs[i]:=an hi
  have hr:rs[i]?=some (rs[i]'(R.len▸hi)):=an _
  revert hv hr
  generalize vs[i]=v
  generalize(rs[i]'(R.len▸hi))=r
  intro hv hr
  have hu:(pU (fun z_=>sj m es) vs i)[i]?=some v:=by(erw[kl,hv]);exact congrArg some (if_neg (gp i))
  have g1:=Mo.low g hlo m1
  have i8:i < 8:=av hi (lj hsh)
  have up:=rW (φ:=fun z_=>sj m es) hv
  refine ay f1 (ay f2 (Mf F g1 R1 hs1 (m1.at hl n2) hr hu fun H₂ g2=>gQ (fun hb=>?_) fun hb=>?_))
  ·rw[show sj m es v={v with glyph:=iZ es v.glyph}from if_pos hb]at up
   refine ay f1 (ay f2 (si (R1.gr g2) (g2.at hs1) (g2.at (m1.at hl n2)) (g2.at (m1.at ht n3)) (g2.at (m1.at hg n4)) (g2.at (m1.at hm n5)) ok hr hu fun H₃ x m3 R3 hx=>sq ?_))
   rw[up]at R3
   rcases hx with rfl|rfl
   ·exact ay f2 (kk.next _ _ ⟨i8,m1.trans (g2.mo.trans m3),R3,f1,rfl,⟨c,f3⟩,hi⟩)
   ·exact ay f3 (sq (kk.next _ _ ⟨i8,m1.trans (g2.mo.trans m3),R3,f1,rfl,⟨c+1,rfl⟩,hi⟩))
  ·rw[show sj m es v=v from if_neg (by(erw[hb]);exact Bool.noConfusion),oZ hu]at up
   exact sq (ay f2 (kk.next _ _ ⟨i8,m1.trans g2.mo,up▸R1.gr g2,f1,rfl,⟨c,f3⟩,hi⟩))
 ·have he:i=vs.length:=fT hle (aC.mp fun h=>hlt (dd.mpr h))
  rw[he,rX,ji]at R1
  exact sq (ay f3 (k H₁ c m1 R1))
theorem o4(F:dw H₀ X A)(g:Gr H₀ H){bw:Bool}{rs:List Nat}{vs:List IV}(R:eQ H b q bw rs vs)(hlo:∀r∈rs,H₀.length≤r){n:Nat}{es:List (MV×MV)}(hn:X.maps[n]?=some es)(hn9:n < 1000000)(ok:jt es){Q:MV→MH→Prop}
 (k:∀H' (x:Int),Mo (fun p=>p∈rs) H H'→eQ H' b q bw rs (vs.map (sj m es))→Q (.int x) H'):WC (cn (d+7)) 849 [.ref b,.ref A.gd,.ref A.ll,.int n,.int m] H Q:=by
 refine dH F.ll fun ws h1 h2 h3=>?_
 obtain⟨r,t,sg,mp,a1,a2,a3,a4,a5⟩:=h3 n es hn
 have gi:bp H (.ref A.ll) (.int n)=some (.ref r):=(cv (g.at h1) hn9).trans a1
 have hl:H[r]?=some (Ke t):=g.at a2
 refine bC Nr rfl (au gi (CT fun s H₁ nu=>sq ?_))
 have hs:H₁[s]?=some (Ew b A.gd A.ll r m):=nu.at_
 have g0:=nu.gr
 exact au (mW hs) (au (Bi (g0.at hl)) (au jm (sq (vU F (g.trans g0) (R.gr g0) hlo hs (g0.at hl) (g0.at (g.at a3)) (g0.at (g.at a4)) (g0.at (g.at a5)) ok fun H' x m1 R1=>k H' x (g0.mo.trans m1) R1))))
noncomputable abbrev oj(S:List (Nat×Int)):List MV:=S.map fun p=>.tup [.int (p.1:Nat),.int p.2]
structure tG(H:MH)(p:Nat)(Ss:List (List (Nat×Int))):Prop where
 at_:∃ws,H[p]?=some (.list ws)∧ws.length=Ss.length∧∀(i:Nat) S,Ss[i]?=some S→∃r:Nat,ws[i]?=some (.ref r)∧H[r]?=some (.list (oj S))
noncomputable def tQ(X:bQ)(S:List (Nat×Int))(v:IV):IV:=S.foldl (fun v p=>sj p.2 (X.maps.getD p.1 []) v) v
noncomputable def kX(X:bQ)(Ss:List (List (Nat×Int)))(v:IV):IV:=Ss.foldl (fun v S=>tQ X S v) v
noncomputable def kt(arab:Bool)(masks stages pos:Nat)(dfl:Int):MO:=.inst 1391 [("script",cc arab),("language",.str "dflt"),("is_backward",.bool arab),("masks",.ref masks),("defaults",.int dfl),("stages",.ref stages),("positions",.ref pos),("has_kern",.bool false)]
section
variable{P pm ps pp:Nat}{df:Int}{ar:Bool}
theorem mY(h:H[P]?=some (kt ar pm ps pp df)):aN dz H (.ref P) "script"=some (cc ar):=(aG h (by kernel_rfl)).trans (by kernel_rfl)
theorem jp(h:H[P]?=some (kt ar pm ps pp df)):aN dz H (.ref P) "is_backward"=some (.bool ar):=(aG h (by kernel_rfl)).trans (by kernel_rfl)
theorem mu(h:H[P]?=some (kt ar pm ps pp df)):aN dz H (.ref P) "masks"=some (.ref pm):=(aG h (by kernel_rfl)).trans (by kernel_rfl)
theorem xI(h:H[P]?=some (kt ar pm ps pp df)):aN dz H (.ref P) "defaults"=some (.int df):=(aG h (by kernel_rfl)).trans (by kernel_rfl)
theorem CM(h:H[P]?=some (kt ar pm ps pp df)):aN dz H (.ref P) "stages"=some (.ref ps):=(aG h (by kernel_rfl)).trans (by kernel_rfl)
theorem vW(h:H[P]?=some (kt ar pm ps pp df)):aN dz H (.ref P) "positions"=some (.ref pp):=(aG h (by kernel_rfl)).trans (by kernel_rfl)
theorem xH(h:H[P]?=some (kt ar pm ps pp df)):aN dz H (.ref P) "has_kern"=some (.bool false):=(aG h (by kernel_rfl)).trans (by kernel_rfl)
end
structure Sp(H:MH)(b q f P:Nat)(bw:Bool)(rs:List Nat)(us:List IV)(L:dn)(H':MH):Prop where
 mo:Mo (fun p=>p∈rs) H H'
 row:eQ H' b q bw rs us
 bu:L 14=some (.ref b)
 fo:L 38=some (.ref f)
theorem xe(F:dw H₀ X A)(g:Gr H₀ H){bw:Bool}{rs:List Nat}{vs:List IV}(R:eQ H b q bw rs vs)(hlo:∀r∈rs,H₀.length≤r){P pm ps pp:Nat}{df:Int}{ar:Bool}(hP:H₀[P]?=some (kt ar pm ps pp df)){Ss:List (List (Nat×Int))}(hS:tG H₀ ps Ss)
 (hX:X.maps.length≤60) (hin:∀S∈Ss,∀p∈S,p.1 < X.maps.length) (ok:∀es∈X.maps,jt es) {Q:MV→MH→Prop}
 (k:∀H',Mo (fun p=>p∈rs) H H'→eQ H' b q bw rs (vs.map (kX X Ss))→Q .none H'):WC (cn (d+8)) 1649 [.ref b,.ref A.font,.ref P] H Q:=by
 refine dH hS.at_ fun ws w1 w2 w3=>?_
 refine bC Jx rfl (au (CM (g.at hP)) ?_)
 refine cE (vs:=ws) (fun i L H'=>Sp H b q A.font P bw rs (vs.map (kX X (Ss.take i))) L H') ⟨Mo.refl _ _,(by show eQ H b q bw rs (vs.map fun v=>v);rw[List.map_id'];exact R),rfl,rfl⟩ (fun i L H' hI=>(Mo.low g hlo hI.mo).at w1) (fun i y L H₁ hy hI K kk=>?_) fun L H₁ hI=>?_
 ·obtain⟨m1,R1,f1,f2⟩:=hI
  have hSi:Ss[i]?=some (Ss[i]'(w2▸(ai.mp hy).1)):=an _
  revert hSi
  generalize Ss[i]'(w2▸(ai.mp hy).1)=S
  intro hSi
  refine aM (w3 i S hSi) fun r r1 r2=>?_
  rw[r1]at hy;(obtain rfl:=ab hy;clear hy)
  have g1:=Mo.low g hlo m1
  have nr:r∉rs:=fun hm=>aC.mpr (hlo r hm) (dm r2)
  refine cE (vs:=oj S) (fun j L H'=>Sp H₁ b q A.font P bw rs (vs.map fun v=>tQ X (S.take j) (kX X (Ss.take i) v)) L H') ⟨Mo.refl _ _,R1,f1,f2⟩ (fun j L H' hI=>hI.mo.at (g1.at r2) nr) (fun j x L2 H₂ hx hI K' kk'=>?_) fun L2 H₂ hI=>?_
  ·obtain⟨m2,R2,f3,f4⟩:=hI
   rw[aq]at hx
   obtain⟨⟨n,mm⟩,hp,rfl⟩:=az.mp hx
   have hn:n < X.maps.length:=hin S (ak hSi) _ (ak hp)
   have hes:X.maps[n]?=some X.maps[n]:=an hn
   have hD:X.maps.getD n []=X.maps[n]:=by(erw[cU,hes]);rfl
   have g2:=Mo.low g hlo (m1.trans m2)
   have ga:aN dz H₂ (.ref A.font) "gdef"=some (.ref A.gd):=(aG (g2.at F.font) (by kernel_rfl)).trans (by kernel_rfl)
   have gb:aN dz H₂ (.ref A.font) "gsub"=some (.ref A.lay):=(aG (g2.at F.font) (by kernel_rfl)).trans (by kernel_rfl)
   have gc:aN dz H₂ (.ref A.lay) "lookups"=some (.ref A.ll):=(aG (g2.at F.lay) (by kernel_rfl)).trans (by kernel_rfl)
   refine ay f3 (ay f4 (au ga (ay f4 (au gb (au gc (o4 F g2 R2 hlo hes (av hn (ah hX (by decide))) (ok _ (ak hes)) fun H₃ x m3 R3=>kk'.next _ _ ⟨m2.trans m3,?_,f3,f4⟩))))))
   rw[bc]at R3
   have tk:S.take (j+1)=S.take j++[(n,mm)]:=by(erw[aO,hp]);rfl
   have:(vs.map fun v=>tQ X (S.take (j+1)) (kX X (Ss.take i) v))=vs.map (sj mm X.maps[n]∘fun v=>tQ X (S.take j) (kX X (Ss.take i) v)):=by
    refine bL fun v z_=>?_
    show tQ X (S.take (j+1)) _=sj mm X.maps[n] (tQ X (S.take j) _)
    unfold tQ
    (erw[tk,hJ,bI,L8,hD];with_reducible rfl)
   (erw[this]);exact R3
  ·obtain⟨m2,R2,f3,f4⟩:=hI
   rw[aj,aZ]at R2
   have tk:Ss.take (i+1)=Ss.take i++[S]:=by(erw[aO,hSi]);rfl
   refine kk.next _ _ ⟨m1.trans m2,?_,f3,f4⟩
   have:(vs.map (kX X (Ss.take (i+1))))=vs.map fun v=>tQ X S (kX X (Ss.take i) v):=by
    refine bL fun v z_=>?_
    unfold kX
    (erw[tk,hJ,bI,L8];with_reducible rfl)
   (erw[this]);exact R2
 ·obtain⟨m1,R1,f1,f2⟩:=hI
  rw[w2,aZ]at R1
  exact k H₁ m1 R1
end
section
variable{d:Nat}{H H₀:MH}{X:bQ}{A:fR}
noncomputable abbrev fO:=List (String×Nat)
noncomputable def aV{α:Type}(t:String):List (String×α)→Option α
 |[]=>none
 |(s,v)::r=>if s=t then some v else aV t r
theorem fy{α:Type}{t:String}{v:α}{M:List (String×α)}(h:aV t M=some v):(t,v)∈M:=by
 induction M with
 |nil=>exact bD h
 |cons a r ih=>
  obtain⟨s,u⟩:=a
  unfold aV at h
  by_cases e:s=t
  ·rw[if_pos e]at h;(obtain rfl:=ab h;clear h);apply dE e;exact pQ
  ·rw[if_neg e]at h;exact br _ (ih h)
noncomputable def OR(s:Nat):MV:=.tup [.int (s:Nat),.int 1]
noncomputable def lc(M:fO):List (Str×MV):=M.map fun x=>(ag x.1,OR x.2)
theorem mG{α:Type}{t s:String}{v:α}{r:List (Str×α)}:gv (ag t) ((ag s,v)::r)=if s=t then some v else gv (ag t) r:=by
 show(if ag s=ag t then some v else _)=_
 by_cases h:s=t
 ·(erw[if_pos h];exact if_pos (by rw[h]))
 ·(erw[if_neg h,if_neg fun q=>h (fF.mp q)];with_reducible rfl)
theorem pu{α:Type}(f:α→MV)(t:String):∀M:List (String×α),gv (ag t) (M.map fun x=>(ag x.1,f x.2))=(aV t M).map f
 |[]=>rfl
 |(s,v)::r=>by
  (erw[bj,mG,pu f t r])
  show _=dg f (if s=t then some v else aV t r)
  split<;>rfl
noncomputable def yz(M:fO)(t:String):Nat:=match aV t M with
 |some s=>2^s
 |none=>0
theorem nv(t:String)(M:fO):gv (ag t) (lc M)=(aV t M).map OR:=pu OR t M
theorem GX{s:Nat}{P:MV→MH→Prop}(hs:s≤40)(q:P (.int ((2^s:Nat):Int)) H):U (gT .LShift (.int 1) (.int s)) H P:=by
 rw[←Nat.one_mul (2^s)]at q
 exact GY (a:=1) (b:=s) (by decide) (ah hs (by decide)) q
theorem GZ{P:MV→MH→Prop}(q:P (.int 2) H):U (gT .LShift (.int 1) (.int 1)) H P:=U.of (fun z_=>rfl) q
theorem Ot{P:MV→MH→Prop}(q:P (.int 1) H):U (gT .LShift (.int 1) (.int 0)) H P:=U.of (fun z_=>rfl) q
theorem Ou{P:MV→MH→Prop}(q:P (.int 0) H):U (gT .LShift (.int 0) (.int 0)) H P:=U.of (fun z_=>rfl) q
theorem PU{a:Int}{P:MV→MH→Prop}(q:P (.int (cQ a)) H):U (w7 .Invert (.int a)) H P:=U.of (fun z_=>rfl) q
variable{P pm ps pp:Nat}{df:Int}{ar:Bool}{M:fO}
theorem nS(hP:H[P]?=some (kt ar pm ps pp df))(hM:H[pm]?=some (.dict (fW (lc M))))(hs:∀x∈M,x.2≤40){t:String}{Q:MV→MH→Prop}(q:Q (.int (yz M t:Nat)) H):WC (cn (d+1)) 1623 [.ref P,.str (ag t)] H Q:=by
 have e:=l0 (ag t) (lc M)
 rw[nv]at e
 unfold yz at q
 revert e q
 cases h:aV t M with
 |none=>
  intro q e
  exact bC AW rfl (au (mu hP) (au (gI hM) (jZ hM rfl e (sq (Ot (Ou q))))))
 |some s=>
  intro q e
  exact bC AW rfl (au (mu hP) (au (gI hM) (jZ hM rfl e (sq (GZ (GX (hs _ (fy h)) q))))))
theorem x5(hM:H[pm]?=some (.dict (fW (lc M))))(hs:∀x∈M,x.2≤40){t:String}{Q:MV→MH→Prop}(q:Q (.int (yz M t:Nat)) H):WC (cn (d+1)) 1452 [.ref pm,.str (ag t)] H Q:=by
 have e:=l0 (ag t) (lc M)
 rw[nv]at e
 unfold yz at q
 revert e q
 cases h:aV t M with
 |none=>
  intro q e
  exact bC A0 rfl (au (mM hM rfl e) q)
 |some s=>
  intro q e
  exact bC A0 rfl (au (mM hM rfl e) (sq (au (eJ hM rfl e) (sq (GZ (GX (hs _ (fy h)) q))))))
noncomputable def qC(t:String)(v b e:Int):MO:=.inst 1364 [("tag",.str (ag t)),("value",.int v),("begin",.int b),("end",.int e)]
noncomputable def jY(H:MH)(wl:Nat):gn→Prop
 |none=>H[wl]?=some (.list [])
 |some (t,v,b,e)=>∃w:Nat,H[wl]?=some (.list [.ref w])∧H[w]?=some (qC t v b e)
theorem jY.gr{H':MH}{wl:Nat}{w:gn}(h:jY H wl w)(g:Gr H H'):jY H' wl w:=by
 cases w with
 |none=>exact g.at h
 |some x=>obtain⟨t,v,b,e⟩:=x;(refine aM h fun w h1 h2=>?_;clear h);exact⟨w,g.at h1,g.at h2⟩
section
variable{w:Nat}{t:String}{v b e:Int}
theorem n9(h:H[w]?=some (qC t v b e)):aN dz H (.ref w) "tag"=some (.str (ag t)):=(aG h (by kernel_rfl)).trans (by kernel_rfl)
theorem oP(h:H[w]?=some (qC t v b e)):aN dz H (.ref w) "value"=some (.int v):=(aG h (by kernel_rfl)).trans (by kernel_rfl)
theorem wZ(h:H[w]?=some (qC t v b e)):aN dz H (.ref w) "begin"=some (.int b):=(aG h (by kernel_rfl)).trans (by kernel_rfl)
theorem zo(h:H[w]?=some (qC t v b e)):aN dz H (.ref w) "end"=some (.int e):=(aG h (by kernel_rfl)).trans (by kernel_rfl)
noncomputable def fI(b e:Int):Bool:=b==0&&e== -1
theorem DZ(h:H[w]?=some (qC t v b e)){Q:MV→MH→Prop}(q:Q (.bool (fI b e)) H):WC (cn (d+1)) 1361 [.ref w] H Q:=by
 refine bC JL rfl (au (wZ h) (dc (fun h1=>au (zo h) ?_) fun h1=>?_))
 ·rw[show fI b e=decide (e= -1)from(congrArg (· &&decide (e= -1)) (decide_eq_true h1)).trans (jz _)]at q;exact q
 ·rw[show fI b e=false from(congrArg (· &&decide (e= -1)) (decide_eq_false h1)).trans (ij _)]at q;(erw[decide_eq_false h1]);exact q
theorem rQ(h:H[w]?=some (qC t v b e)):iV dz H (.ref w) "is_whole"=some (some 1361):=jh h (by kernel_rfl) (by kernel_rfl)
end
noncomputable def uV(b e c:Int):Bool:=decide (b≤c)&&(decide (e < 0)||decide (c < e))
noncomputable def lX(M:fO)(w:gn)(c m:Int):Int:=match w with
 |none=>m
 |some (t,v,b,e)=>match aV t M with
  |none=>m
  |some s=>if(!fI b e&&uV b e c)=true then bg (bZ m (cQ (2^s:Nat))) (v*(2^s:Nat))else m
noncomputable def oB:gn→Prop
 |none=>True
 |some (t,v,b,e)=>t∈d5∧0≤v∧v≤1∧0≤b∧b < 1000∧ -1≤e∧e < 1000
structure Sr(b wl P:Nat)(L:dn):Prop where
 bu:L 14=some (.ref b)
 pl:L 92=some (.ref P)
 wi:L 131=some (.ref wl)
structure Tw(w P s:Nat)(L:dn):Prop where
 wi:L 130=some (.ref w)
 pl:L 92=some (.ref P)
 sh:L 110=some (.int (s:Nat))
theorem zA{b q:Nat}{bw:Bool}{rs:List Nat}{vs:List IV}(g:Gr H₀ H)(R:eQ H b q bw rs vs)(hlo:∀r∈rs,H₀.length≤r)(hP:H₀[P]?=some (kt ar pm ps pp df))(hM:H₀[pm]?=some (.dict (fW (lc M))))(hs:∀x∈M,x.2≤40)
 {wl:Nat}{w:gn}(hw:jY H₀ wl w) (hwo:oB w) {Q:MV→MH→Prop}
 (k:∀H',Mo (fun p=>p∈rs) H H'→eQ H' b q bw rs (vs.map fun v=>{v with mask:=lX M w v.cluster (bg v.mask df)})→Q .none H'):WC (cn (d+2)) 1495 [.ref b,.ref P,.ref wl] H Q:=by
 refine bC JC rfl (au (d3 R) ?_)
 refine jo (fun L z_=>Sr b wl P L) R ⟨rfl,rfl,rfl⟩ (fun z_ v=>{v with mask:=bg v.mask df}) (fun i r v us L H₁ m R₁ hr hv hu h hG K kk=>?_) fun L H₁ m R₁ hG=>?_
 ·obtain⟨f1,f2,f3⟩:=hG
  exact au (pv h) (ay f2 (au (xI ((Mo.low g hlo m).at hP)) (rv h (kk.next _ _ ⟨m.setN (.inl (ak hr)),R₁.set hr,f1,f2,f3⟩))))
 obtain⟨f1,f2,f3⟩:=hG
 replace R₁:=(ji)▸R₁
 have g1:=Mo.low g hlo m
 refine sq (ay f3 ?_)
 cases w with
 |none=>exact cE (vs:=[]) (fun i L H=>H=H₁) rfl (fun i L H hI=>hI▸g1.at hw) (fun i y L H hy hI=>by exact bD hy) fun L H' hI=>hI▸k H₁ m R₁
 |some x=>
  obtain⟨t,v,bb,e⟩:=x
  (refine aM hw fun w h0 h1=>?_;clear hw)
  (refine uj hwo fun z_ v0 v1 z_=>?_;clear hwo)
  have nw:wl∉rs:=fun hm=>aC.mpr (hlo _ hm) (dm h0)
  have g1w:=g1.at h1
  refine cE (vs:=[.ref w]) (fun i L H'=>Mo (fun p=>p∈rs) H₁ H'∧if i=0 then H'=H₁∧Sr b wl P L else eQ H' b q bw rs (vs.map fun(u:IV)=>({u with mask:=lX M (some (t,v,bb,e)) u.cluster (bg u.mask df)}:IV))) ⟨Mo.refl _ _,rfl,f1,f2,f3⟩ (fun j L H' hI=>hI.1.at (g1.at h0) nw) (fun j y L H' hy hI K kk=>?_) fun L H' hI=>k H' (m.trans hI.1) hI.2
  (refine d9 (mx hy) fun q0_ q1_=>?_;subst q0_;subst q1_)
  obtain⟨_,rfl,f4,f5,f6⟩:=hI
  have skip:∀{L},(∀c mm,lX M (some (t,v,bb,e)) c mm=mm)→K .next L H':=fun{L} hk=>by
   refine kk.next _ _ ⟨Mo.refl _ _,?_⟩
   have:(vs.map fun u=>{u with mask:=lX M (some (t,v,bb,e)) u.cluster (bg u.mask df)})=vs.map fun v=>{v with mask:=bg v.mask df}:=bL fun u z_=>by rw[hk]
   show eQ H' b q bw rs _
   (erw[this]);exact R₁
  have e0:=l0 (ag t) (lc M)
  rw[nv]at e0
  refine au (n9 g1w) (ay f5 (au (mu (g1.at hP)) (au (nA (g1.at hM) rfl e0) ?_)))
  have hwm:∀c mm,lX M (some (t,v,bb,e)) c mm=match aV t M with|none=>mm|some s=>if(!fI bb e&&uV bb e c)=true then bg (bZ mm (cQ (2^s:Nat))) (v*(2^s:Nat))else mm:=fun z_ z_=>rfl
  have hfm:yz M t=match aV t M with|some s=>2^s|none=>0:=rfl
  revert e0 hwm hfm
  cases hlk:aV t M with
  |none=>intro e0 hwm _;exact skip hwm
  |some s=>
   intro e0 hwm hfm
   dsimp only at hwm hfm
   refine au (rQ g1w) (DZ g1w (gQ (fun hwh=>?_) fun hwh=>skip fun c mm=>(hwm c mm).trans (by(erw[hwh]);rfl)))
   refine ay f5 (au (mu (g1.at hP)) (au (n9 g1w) (au (eJ (g1.at hM) rfl e0) (sq (ay f4 (au (d3 R₁) ?_))))))
   refine jo (fun L z_=>Tw w P s L) R₁ ⟨rfl,f5,rfl⟩ (fun z_ u=>{u with mask:=lX M (some (t,v,bb,e)) u.cluster u.mask}) (fun i r u us L H₂ m2 R₂ hr hv hu h hG K' kk'=>?_) fun L H₂ m2 R₂ hG=>kk.next _ _ ⟨m2,?_⟩
   ·obtain⟨f7,f8,f9⟩:=hG
    have g2:=Mo.low g hlo (m.trans m2)
    have h2w:=g2.at h1
    have no:uV bb e u.cluster=false→K' .next (sN 53 (.ref r) L) H₂:=fun hc=>by
     have:lX M (some (t,v,bb,e)) u.cluster u.mask=u.mask:=(hwm _ _).trans (by(erw[hc];rw[d7]);rfl)
     rw[this,show({u with mask:=u.mask}:IV)=u from rfl,oZ hu]at kk'
     exact kk'.next _ _ ⟨m2,R₂,f7,f8,f9⟩
    have go:uV bb e u.cluster=true→(gD [bN 98 (ch .BitAnd (aD (ae 53) "mask") (zb .Invert (aK (cn (d+1)) 1452 [(aD (ae 92) "masks"),(aD (ae 130) "tag")]))),bo (ae 53) "mask" (ch .BitOr (ae 98) (ch .LShift (aD (ae 130) "value") (ae 110)))]).wp (sN 53 (.ref r) L) H₂ K':=fun hc=>by
     (refine fH (l9 v0) fun vn q0_=>?_;subst q0_)
     have he:=hwm u.cluster u.mask
     rw[hwh,hc,Bool.and_self,if_pos rfl]at he
     have kk2:=kk'.next
     rw[he,show((vn:Int)*((2^s:Nat):Int))=((vn*2^s:Nat):Int)from(Ma ..).symm,←hfm]at kk2
     refine au (pv h) (ay f8 (au (mu (g2.at hP)) (ay f7 (au (n9 h2w) (x5 (g2.at hM) hs (PU (sq (ay f7 (au (oP h2w) (ay f9 (GY (aL (mT.mp v1) (by decide)) (ah (hs _ (fy hlk)) (by decide)) ?_)))))))))))
     (erw[←hfm])
     exact rv h (kk2 _ _ ⟨m2.setN (.inl (ak hr)),R₂.set hr,f7,f8,f9⟩)
    have hin:uV bb e u.cluster=(decide (bb≤u.cluster)&&(decide (e < 0)||decide (u.cluster < e))):=rfl
    refine au (iC h) (ay f7 (au (wZ h2w) (dc (fun c1=>ay f7 (au (zo h2w) (dc (fun c2=>?_) fun c2=>au (iC h) (ay f7 (au (zo h2w) (dc (fun c3=>?_) fun c3=>?_)))))) fun c1=>?_)))
    ·exact go (by(erw[hin,decide_eq_true c1,decide_eq_true c2]);rfl)
    ·exact go (by(erw[hin,decide_eq_true c1,decide_eq_true c3];rw[gN]);rfl)
    ·exact no (by(erw[hin,decide_eq_false c2,decide_eq_false c3];rw[Bool.or_self,d7]))
    ·exact no (by(erw[hin,decide_eq_false c1]);rfl)
   ·rw[ji,bc]at R₂
    exact R₂
end
section
variable{d:Nat}{H H₀:MH}{X:bQ}{A:fR}
variable{P pm ps pp:Nat}{df:Int}{ar:Bool}{M:fO}
noncomputable def Qj(M:fO)(s:String):Nat:=if gk.contains s then yz M s else 0
noncomputable def NX(M:fO)(ar:Bool)(ts:List iy)(i:Nat)(m:Int):Int:=if ar=true then bg (bg m 0) (Qj M (cY ts i):Nat)else m
noncomputable def Ti(M:fO)(s:String):MV:=.tup [.str (ag s),.int (yz M s:Nat)]
noncomputable def LI:List String:=["isol","init","medi","fina"]
theorem Ld{a b c e:MV}{q:Nat}{P:MV→MH→Prop}(hq:H[q]?=some (.list [.tup [.str "isol",a],.tup [.str "init",b],.tup [.str "medi",c],.tup [.str "fina",e]]))(k:∀p H',Nu H (.dict (fW [("isol",a),("init",b),("medi",c),("fina",e)])) p H'→P (.ref p) H'):U (iG (.type "dict") [.ref q]) H P:=U.of (fun l=>by
 show(cy H (.ref q)).bind _=_
 (erw[di hq])
 kernel_rfl) (k _ _ (Nu.mk' _ _))
theorem sw{b q:Nat}{rs:List Nat}{vs:List IV}(g:Gr H₀ H)(R:eQ H b q ar rs vs)(hlo:∀r∈rs,H₀.length≤r)(hc:∀v∈vs,v.code∈K7)(hP:H₀[P]?=some (kt ar pm ps pp df))(hM:H₀[pm]?=some (.dict (fW (lc M))))(hs:∀x∈M,x.2≤40)
 (hrt:aV "rtlm" M=none) {cm:MV}{Q:MV→MH→Prop}
 (k:∀H' us,Mo (fun p=>p∈rs) H H'→eQ H' b q ar rs us→us.map cu=(vs.mapIdx fun i v=>{v with mask:=NX M ar (nH vs) i v.mask}).map cu→Q .none H'):WC (cn (d+5)) 1635 [.ref b,cm,.ref P] H Q:=by
 refine bC Jz rfl (au (jp (g.at hP)) ?_)
 cases ar with
 |false=>
  refine sq (au (mY (g.at hP)) (au jr (sq (au (mY (g.at hP)) (au jm (k H vs (Mo.refl _ _) R ?_))))))
  exact congrArg (vB cu) ng.symm
 |true=>
  have hz:((yz M "rtlm":Nat):Int)=0:=by unfold yz;(erw[hrt]);rfl
  refine nS (g.at hP) (g.at hM) hs ?_
  (erw[hz])
  refine zR R hc fun H₁ m1 R1=>sq (au (mY ((Mo.low g hlo m1).at hP)) (au jr ?_))
  have g1:=Mo.low g hlo m1
  refine pD (vs:=LI.map fun s=>.str (ag s)) (fun i acc L H'=>H'=H₁∧L 92=some (.ref P)∧acc=(LI.take i).map (Ti M)) ⟨rfl,rfl,rfl⟩ (fun i y acc L H' hy hI K k0 k1=>?_) fun acc L H' hI=>?_
  ·obtain⟨rfl,h2,rfl⟩:=hI
   rw[aq]at hy
   obtain⟨s,hs',rfl⟩:=az.mp hy
   exact ay h2 (nS (g1.at hP) (g1.at hM) hs (k1 _ _ _ ⟨rfl,h2,by(erw[aO,hs',aB]);rfl⟩))
  ·obtain⟨rfl,h2,rfl⟩:=hI
   refine⟨aA rfl,bn fun p1 H₂ n2=>Ld n2.at_ fun p2 H₃ n3=>?_⟩
   have g3:=n2.gr.trans n3.gr
   refine Pg (R1.gr g3) (fun v hv=>?_) n3.at_ (fun s=>((Qj M s:Nat):Int)) (fun s hs=>?_) fun H₄ us m4 R4 e4=>?_
   ·obtain⟨u,hu,rfl⟩:=aU.mp hv
    exact hc u hu
   ·have e:=l0 (ag s) [(ag "isol",.int (yz M "isol":Nat)),(ag "init",.int (yz M "init":Nat)),(ag "medi",.int (yz M "medi":Nat)),(ag "fina",.int (yz M "fina":Nat))]
    refine⟨_,e,?_⟩
    (erw[mG,mG,mG,mG])
    revert s
    intro s hs _
    rw[aF,aF,aF,aF,ax]at hs
    rcases hs with rfl|rfl|rfl|rfl|rfl<;>rfl
   ·have g4:=Mo.low (g1.trans g3) hlo m4
    refine sq (au (mY (g4.at hP)) (au jm (k H₄ us (m1.trans (g3.mo.trans m4)) R4 (e4.trans (congrArg (vB cu) ?_)))))
    have ets:nH (vs.map fun v=>{v with mask:=bg v.mask 0})=nH vs:=by unfold nH;(erw[bc]);rfl
    (erw[ets])
    apply bK;intro j
    (erw[bh,bh,aq])
    cases vs[j]?<;>rfl
theorem tR{b q:Nat}{bw:Bool}{rs:List Nat}{vs:List IV}(R:eQ H b q bw rs vs)(hc:∀v∈vs,v.code∈K7){cm:MV}{Q:MV→MH→Prop}
 (k:∀H',Mo (fun p=>p∈rs) H H'→eQ H' b q bw rs vs→Q .none H'):WC (cn (d+5)) 1630 [.ref b,cm,.none] H Q:=
 bC JA rfl (zS R hc fun H₁ m1 R1=>sq (r9 R1 hc (sq (au jW (k H₁ m1 R1)))))
theorem tS{b q:Nat}{bw:Bool}{rs:List Nat}{vs:List IV}(g:Gr H₀ H)(R:eQ H b q bw rs vs)(hlo:∀r∈rs,H₀.length≤r)(hP:H₀[P]?=some (kt ar pm ps pp df))(hpp:H₀[pp]?=some (.list [])){fo:MV}{Q:MV→MH→Prop}
 (k:∀H',Mo (fun p=>p∈rs) H H'→eQ H' b q bw rs vs→Q .none H'):WC (cn (d+3)) 1663 [.ref b,fo,.ref P] H Q:=by
 refine bC Jv rfl (au (vW (g.at hP)) ?_)
 refine cE (vs:=[]) (fun i L H'=>H'=H∧L 14=some (.ref b)∧L 92=some (.ref P)) ⟨rfl,rfl,rfl⟩ (fun i L H' hI=>hI.1▸g.at hpp) (fun i y L H' hy hI=>by exact bD hy) fun L H' hI=>?_
 (refine oO hI fun q0_ h2 h3=>?_;subst q0_;clear hI)
 exact sq (ay h3 (au (xH (g.at hP)) (sq (ay h2 (I0 R fun H₁ m1 R1=>k H₁ m1 R1)))))
structure TP(H:MH)(cs:List Int)(i:Nat)(acc:List MV)(H':MH):Prop where
 gr:Gr H H'
 rs:∃rs:List Nat,acc=rs.map (fun r=>.ref r)∧rs.length=i∧rs.Nodup∧(∀r∈rs,H.length≤r∧r < H'.length)∧∀(j r:Nat) (c:Int),rs[j]?=some r→cs[j]?=some c→H'[r]?=some (eO ⟨c,0,j,0,false,0⟩)
theorem An{p:Nat}{cs:List Int}(h:H[p]?=some (.list (cs.map .int)))(hl:cs.length≤7){bw:Bool}{Q:MV→MH→Prop}
 (k:∀H' b q rs,Gr H H'→eQ H' b q bw rs (cs.mapIdx fun i c=>⟨c,0,i,0,false,0⟩)→(∀r∈rs,H.length≤r)→H.length≤q→Q (.ref b) H'):WC (cn (d+2)) 106 [.ref p,.bool bw] H Q:=by
 refine bC NL rfl (fj (n:=cs.length) ((cw h).trans (congrArg some (aj ..))) (ah hl (by decide)) (cP (kK (ah hl (by decide))) ?_))
 refine fN (fun i acc L H'=>L 22=some (.ref p)∧TP H cs i acc H') (aL hl (by decide)) ⟨rfl,Gr.refl _,[],rfl,rfl,dp,fun z_ h=>absurd h bR,fun z_ z_ z_ h=>by exact bD h⟩ (fun i acc L H₁ hi hI K k0 k1=>?_) fun acc L H₁ hI=>?_
 ·obtain⟨f1,g1,rs,rfl,e1,e2,e3,e4⟩:=hI
  have hci:cs[i]?=some cs[i]:=an hi
  have gi:bp H₁ (.ref p) (.int i)=some (.int cs[i]):=by(erw[cv (g1.at h) (av hi (ah hl (by decide))),aq,hci]);rfl
  refine ay f1 (au gi (Fi fun r H₂ n2=>k1 _ _ _ ⟨f1,g1.trans n2.gr,rs++[r],by(erw[aB]);rfl,by(erw[aJ,e1]);rfl,?_,?_,?_⟩))
  ·(refine(dL).mpr ?_)
   refine⟨e2,bX _ _,fun a ha b hb=>?_⟩
   replace hb:=(ax).mp hb
   exact hb▸aS (av (e3 a ha).2 n2.le)
  ·intro r' hr
   rcases aH.mp hr with hr|hr
   ·exact⟨(e3 r' hr).1,av (e3 r' hr).2 n2.gr.1⟩
   ·replace hr:=(ax).mp hr;subst hr
    exact⟨ah g1.1 n2.le,dm n2.at_⟩
  ·intro j r' c hj hc
   by_cases hlt:j < rs.length
   ·rw[aI hlt]at hj
    exact n2.gr.at (e4 j r' c hj hc)
   ·replace hj:=(aX (aC.mp hlt))▸hj
    (refine d9 (mx hj) fun h0 q0_=>?_;subst q0_)
    have hj2:j=i:=e1▸fT (Nat.sub_eq_zero_iff_le.mp h0) (aC.mp hlt)
    subst hj2
    cases hci.symm.trans hc
    exact n2.at_
 ·obtain⟨f1,g1,rs,rfl,e1,e2,e3,e4⟩:=hI
  refine⟨by(rw[aj];erw[e1]);exact ah hl (by decide),bn fun q H₂ n2=>Fh fun b H₃ n3=>k _ b q rs ((g1.trans n2.gr).trans n3.gr) ⟨n3.at_,n3.gr.at n2.at_,by(erw[e1,dT];with_reducible rfl),fun i r v h1 h2=>?_,e2,fun hm=>?_,fun hm=>?_,bS (aS (av (dm n2.at_) n3.le)),by(erw[dT]);exact hl⟩ (fun r hr=>(e3 r hr).1) (ah g1.1 n2.le)⟩
  ·rw[bh]at h2
   obtain⟨c,hc,rfl⟩:=az.mp h2
   exact n3.gr.at (n2.gr.at (e4 i r c h1 hc))
  ·exact aC.mpr (ah n2.gr.1 n3.le) (e3 _ hm).2
  ·exact aC.mpr n2.le (e3 _ hm).2
end
noncomputable def gS(X:bQ)(S:List (Nat×Int))(m g:Int):Int:=S.foldl (fun g p=>if(bZ m p.2 != 0)=true then iZ (X.maps.getD p.1 []) g else g) g
noncomputable def Hs(X:bQ)(Ss:List (List (Nat×Int)))(m g:Int):Int:=Ss.foldl (fun g S=>gS X S m g) g
theorem I5(X:bQ)(S:List (Nat×Int)):∀v:IV,tQ X S v={v with glyph:=gS X S v.mask v.glyph}:=by
 unfold tQ gS
 induction S with
 |nil=>intro v;rfl
 |cons p r ih=>
  intro v
  rw[bI,bI,ih]
  unfold sj
  by_cases h:(bZ v.mask p.2 != 0)=true
  ·rw[if_pos h,if_pos h]
  ·(erw[if_neg h,if_neg h];with_reducible rfl)
theorem sA(X:bQ)(Ss:List (List (Nat×Int))):∀v:IV,kX X Ss v={v with glyph:=Hs X Ss v.mask v.glyph}:=by
 unfold kX Hs
 induction Ss with
 |nil=>intro v;rfl
 |cons p r ih=>
  intro v
  rw[bI,bI,ih,I5]
theorem x6{es:List (MV×MV)}(h:jt es){g:Int}(hg:0≤g∧g < 40):0≤iZ es g∧iZ es g < 40:=by
 refine aM (h g) fun r e k=>?_
 unfold iZ
 (erw[e])
 cases r with
 |none=>exact hg
 |some v=>(refine aM (k v rfl) fun g' q0_ h=>?_;first|apply dE q0_|apply d6 q0_);exact h
theorem FP{X:bQ}(ok:∀es∈X.maps,jt es)(m:Int):∀(S:List (Nat×Int)) (g:Int),0≤g∧g < 40→0≤gS X S m g∧gS X S m g < 40:=by
 intro S
 unfold gS
 induction S with
 |nil=>intro g h;exact h
 |cons p r ih=>
  intro g h
  (erw[bI])
  refine ih _ ?_
  split
  ·(erw[cU])
   cases e:X.maps[p.1]? with
   |none=>exact h
   |some es=>exact x6 (ok es (ak e)) h
  ·exact h
theorem uZ{X:bQ}(ok:∀es∈X.maps,jt es)(m:Int):∀(Ss:List (List (Nat×Int))) (g:Int),0≤g∧g < 40→0≤Hs X Ss m g∧Hs X Ss m g < 40:=by
 intro Ss
 unfold Hs
 induction Ss with
 |nil=>intro g h;exact h
 |cons p r ih=>
  intro g h
  (erw[bI])
  exact ih _ (FP ok m p g h)
theorem Ai{us ws:List IV}(φ:IV→IV)(hφ:∀v,cu (φ v)=cu (φ (cu v)))(e:us.map cu=ws.map cu):(us.map φ).map cu=(ws.map φ).map cu:=by
 have:∀l:List IV,(l.map φ).map cu=(l.map cu).map (fun v=>cu (φ v)):=fun l=>by
  (erw[bc,bc])
  exact bL fun v z_=>hφ v
 (rw[this,this];erw[e];with_reducible rfl)
theorem Gk{us ws:List IV}{p:IV→Prop}(e:us.map cu=ws.map cu)(h:∀v∈ws,p (cu v)):∀v∈us,p (cu v):=fun v hv=>by
 have:cu v∈ws.map cu:=e▸j8 hv
 refine aM (aU.mp this) fun w hw ew=>?_
 (erw[←ew]);exact h w hw
theorem PF{us ws:List IV}(e:us.map cu=ws.map cu){i:Nat}{v:IV}(h:us[i]?=some v):∃w,ws[i]?=some w∧cu v=cu w:=by
 have h1:(us.map cu)[i]?=some (cu v):=by(erw[aq,h]);rfl
 rw[e,aq]at h1
 refine gh h1 fun w hw ew=>?_
 exact⟨w,hw,ew.symm⟩
noncomputable def qe(M:fO)(w:gn)(df:Int)(ar:Bool)(ts:List iy)(i:Nat):Int:=NX M ar ts i (lX M w i (bg 0 df))
noncomputable def N9(X:bQ)(Ss:List (List (Nat×Int)))(M:fO)(w:gn)(df:Int)(ar:Bool)(ts:List iy)(i:Nat)(c:Int):IV:=
 ⟨c,Hs X Ss (qe M w df ar ts i) (gP c),i,qe M w df ar ts i,false,100+3*Hs X Ss (qe M w df ar ts i) (gP c)⟩
theorem yc(c:Int):0≤gP c∧gP c < 40:=by
 refine aM (sO c) fun r e h=>?_
 have:∀(es:List (MV×MV)) (r:Option MV),(es.all fun x=>match x.2 with| .int n=>decide (0≤n)&&decide (n < 40)|_=>false)=true→gR (.int c) es=some r→∀n,r.getD (.int 0)=.int n→0≤n∧n < 40:=by
  intro es
  induction es with
  |nil=>intro r _ e n h;(obtain rfl:=ab e;clear e);cases h;decide
  |cons x es ih=>
   intro r ha e n h
   obtain⟨y,v⟩:=x
   (rw[List.all_cons]at ha;replace ha:=d8.mp ha)
   unfold gR at e
   split at e
   ·exact bD e
   ·(obtain rfl:=ab e;clear e)
    subst h
    have h1:=ha.1
    rw[bf,decide_eq_true_iff,decide_eq_true_iff]at h1
    exact h1
   ·exact ih r ha.2 e n h
 exact this iW r (by decide+kernel) e _ h
section
variable{d:Nat}{H:MH}{X:bQ}{A:fR}
variable{P pm ps pp:Nat}{df:Int}{ar:Bool}{M:fO}
noncomputable def rt(rows:Nat)(ar:Bool):MO:=.inst 1612 [("rows",.ref rows),("is_backward",.bool ar)]
theorem nh{α:Type}{cs:List Int}{f:Nat→Int→α}{p:α→Prop}(h:∀i c,cs[i]?=some c→p (f i c)):∀v∈cs.mapIdx f,p v:=fun v hv=>by
 refine fH (bW hv) fun i hi=>?_
 replace hi:=(bh)▸hi
 obtain⟨c,hc1,rfl⟩:=az.mp hi
 exact h i c hc1
theorem sK{α β:Type}{cs:List Int}{f:Nat→Int→α}{g:Nat→α→β}{k:Nat→Int→β}(h:∀i c,g i (f i c)=k i c):(cs.mapIdx f).mapIdx g=cs.mapIdx k:=by
 apply bK;intro j
 (erw[bh,bh,bh])
 cases cs[j]? with
 |none=>rfl
 |some c=>exact congrArg some (h j c)
theorem wb{α β:Type}{cs:List Int}{f:Nat→Int→α}{g:α→β}{k:Nat→Int→β}(h:∀i c,g (f i c)=k i c):(cs.mapIdx f).map g=cs.mapIdx k:=by
 (refine(sK (g:=fun z_=>g) h)▸?_)
 apply bK;intro j
 (erw[bh,aq];with_reducible rfl)
theorem Cf(F:dw H X A){p:Nat}{cs:List Int}(h:H[p]?=some (.list (cs.map .int)))(hl:cs.length≤7)(hc:∀c∈cs,c∈K7)(hP:H[P]?=some (kt ar pm ps pp df))(hM:H[pm]?=some (.dict (fW (lc M))))(hs:∀x∈M,x.2≤40)(hrt:aV "rtlm" M=none)
 (hpp:H[pp]?=some (.list [])) {Ss:List (List (Nat×Int))}(hS:tG H ps Ss) (hX:X.maps.length≤60) (hin:∀S∈Ss,∀p∈S,p.1 < X.maps.length) (ok:∀es∈X.maps,jt es) {wl:Nat}{w:gn}(hw:jY H wl w) (hwo:oB w) {Q:MV→MH→Prop}
 (k:∀H' s r (us:List IV),Gr H H'→H'[s]?=some (rt r ar)→H'[r]?=some (.list ((if ar=true then us.reverse else us).map oS))→us.map cu=(cs.mapIdx (N9 X Ss M w df ar (cs.map gF))).map cu→Q (.ref s) H'):WC (cn (d+9)) 1675 [.ref A.font,.ref p,.ref P,.ref wl,.none] H Q:=by
 have gcm:∀{H':MH},Gr H H'→aN dz H' (.ref A.font) "charmap"=some (.ref A.cm):=fun g=>(aG (g.at F.font) (by kernel_rfl)).trans (by kernel_rfl)
 have cin:∀{i c},cs[i]?=some c→c∈K7:=fun h=>hc _ (ak h)
 refine bC Jt rfl (au (jp hP) (An h hl fun H₁ b q rs g1 R1 hlo hqlo=>sq (au (gcm g1) (tR R1 (nh fun i c h=>cin h) fun H₂ m2 R2=>?_))))
 have g2:=Mo.low g1 hlo m2
 refine sq (zA g2 R2 hlo hP hM hs hw hwo fun H₃ m3 R3=>?_)
 have g3:=Mo.low g2 hlo m3
 rw[wb (k:=fun i c=>(⟨c,0,i,lX M w i (bg 0 df),false,0⟩:IV)) fun z_ z_=>rfl]at R3
 refine sq (au (gcm g3) (sw g3 R3 hlo (nh fun i c h=>cin h) hP hM hs hrt fun H₄ us m4 R4 e4=>?_))
 have e4':us.map cu=(cs.mapIdx fun i c=>(⟨c,0,i,qe M w df ar (cs.map gF) i,false,0⟩:IV)).map cu:=by
  (erw[e4])
  refine congrArg (vB cu) ?_
  have ets:nH (cs.mapIdx fun i c=>(⟨c,0,i,lX M w i (bg 0 df),false,0⟩:IV))=cs.map gF:=by
   apply bK;intro j
   (erw[aq,bh,aq])
   cases cs[j]?<;>rfl
  (erw[ets])
  exact sK fun z_ z_=>rfl
 have g4:=Mo.low g3 hlo m4
 refine sq (au (gcm g4) (zT F g4 R4 hlo (Gk (p:=fun v=>v.glyph=0) e4' (nh fun z_ z_ z_=>rfl)) fun H₅ m5 R5=>?_))
 have g5:=Mo.low g4 hlo m5
 refine sq (xe F g5 R5 hlo hP hS hX hin ok fun H₆ m6 R6=>?_)
 have g6:=Mo.low g5 hlo m6
 have e6:((us.map fun v=>{v with glyph:=gP v.code}).map (kX X Ss)).map cu=(cs.mapIdx fun i c=>(⟨c,Hs X Ss (qe M w df ar (cs.map gF) i) (gP c),i,qe M w df ar (cs.map gF) i,false,0⟩:IV)).map cu:=by
  (erw[Ai (kX X Ss) (fun v=>by rw[sA,sA];rfl) (Ai (fun v=>{v with glyph:=gP v.code}) (fun v=>rfl) e4')])
  refine congrArg (vB cu) ?_
  (erw[bc])
  exact wb fun i c=>sA X Ss _
 refine sq (vQ F g6 R6 hlo (Gk (p:=fun v=>0≤v.glyph∧v.glyph < 40) e6 (nh fun i c z_=>uZ ok _ Ss _ (yc c))) fun H₇ m7 R7=>?_)
 have g7:=Mo.low g6 hlo m7
 have e7:=Ai (fun v=>{v with xadv:=100+3*v.glyph}) (fun v=>rfl) e6
 rw[wb (k:=N9 X Ss M w df ar (cs.map gF)) fun z_ z_=>rfl]at e7
 revert R7 e7
 generalize(((us.map fun v=>{v with glyph:=gP v.code}).map (kX X Ss)).map fun v=>{v with xadv:=100+3*v.glyph})=ws
 intro R7 e7
 refine sq (tS g7 R7 hlo hP hpp fun H₈ m8 R8=>?_)
 have g8:=Mo.low g7 hlo m8
 have C:Oy ws:=fun i v hv=>by
  refine aM (PF e7 hv) fun w' h1 h2=>?_
  rw[bh]at h1
  (refine gh h1 fun c hc1 q0_=>?_;subst q0_)
  exact(show v.cluster=(cu v).cluster from rfl).trans (congrArg IV.cluster h2)
 refine sq (au (gcm g8) (au (jh (g8.at F.cm) (n:="glyph") (f:=1711) (by kernel_rfl) (by kernel_rfl)) (yQ F g8 ?_)))
 (erw[(show gP 32=0 from by decide)])
 refine Pk R8 (sq (HF R8 C fun H₉ m9 R9=>?_))
 have g9:=Mo.low g8 hlo m9
 refine sq (au (jp (g9.at hP)) ?_)
 cases ar with
 |false=>exact sq (qF R9 fun r H' n1=>au (jp (n1.gr.at (g9.at hP))) (sI fun s H'' n2=>k _ s r ws ((g9.trans n1.gr).trans n2.gr) n2.at_ (n2.gr.at n1.at_) e7))
 |true=>
  refine D8 R9 fun H₁₀ m10 R10=>?_
  have g10:Gr H H₁₀:=⟨ah g9.1 m10.1,fun p o e z_=>m10.at (g9.at e) fun hp=>hp.elim (fun hp=>aC.mpr (hlo p hp) (dm e)) fun hp=>aC.mpr hqlo (hp▸dm e)⟩
  exact sq (qF R10 fun r H' n1=>au (jp (n1.gr.at (g10.at hP))) (sI fun s H'' n2=>k _ s r ws ((g10.trans n1.gr).trans n2.gr) n2.at_ (n2.gr.at n1.at_) e7))
end
section
structure cD where
 value:Int
 most:Int
 own:Bool
 set:Bool
noncomputable def iY(x:cD):MO:=.inst 1420 [("value",.int x.value),("most",.int x.most),("has_own",.bool x.own),("is_set",.bool x.set)]
noncomputable abbrev DW:=List (String×Nat×cD)
noncomputable def lY(D:DW):List (Str×MV):=D.map fun x=>(ag x.1,.ref x.2.1)
noncomputable def WS(D:DW):List (String×cD):=D.map fun x=>(x.1,x.2.2)
structure fG(H:MH)(p:Nat)(D:DW):Prop where
 at_:H[p]?=some (.dict (fW (lY D)))
 inst:∀x∈D,H[x.2.1]?=some (iY x.2.2)
 nd:(D.map fun x=>x.1).Nodup
 nr:(D.map fun x=>x.2.1).Nodup
theorem fG.gr{H H':MH}{p:Nat}{D:DW}(w:fG H p D)(g:Gr H H'):fG H' p D:=⟨g.at w.at_,fun x hx=>g.at (w.inst x hx),w.nd,w.nr⟩
theorem sy{t:String}{v:MV}{L:List (String×MV)}(h:t∉L.map (·.1)):jf (ag t) v (L.map fun x=>(ag x.1,x.2))=(L++[(t,v)]).map fun x=>(ag x.1,x.2):=by
 induction L with
 |nil=>rfl
 |cons a r ih=>
  obtain⟨s,u⟩:=a
  rw[bj,aF,not_or]at h
  have:jf (ag t) v ((ag s,u)::r.map fun x=>(ag x.1,x.2))=(ag s,u)::jf (ag t) v (r.map fun x=>(ag x.1,x.2)):=by
   show(if ag s=ag t then _ else _)=_
   (erw[if_neg fun q=>h.1 (fF.mp q).symm];with_reducible rfl)
  (erw[bj,this,ih h.2]);rfl
theorem fG.add{H H₂:MH}{p r:Nat}{D:DW}(w:fG H p D){t:String}(ht:t∉D.map (fun x=>x.1)){x:cD}(n:Nu H (iY x) r H₂):
 fG (H₂.set p (.dict (fW (jf (ag t) (.ref r) (lY D))))) p (D++[(t,r,x)]):=by
 have e:jf (ag t) (.ref r) (lY D)=lY (D++[(t,r,x)]):=by
  have e1:lY D=(D.map fun x=>(x.1,MV.ref x.2.1)).map fun x=>(ag x.1,x.2):=by(erw[bc]);rfl
  (erw[e1];rw[sy (by rw[bc];exact ht)])
  unfold lY
  (erw[aB,aB,bc]);rfl
 have hp:=n.gr.at w.at_
 have lo:∀y∈D,y.2.1 < r:=fun y hy=>av (dm (w.inst y hy)) n.le
 have np:∀y∈D,p≠y.2.1:=fun y hy q=>by
  have h1:=w.inst y hy
  (rw[←q]at h1;replace h1:=(w.at_)▸h1);cases h1
 have one:∀{α:Type}(f:String×Nat×cD→α),(D.map f).Nodup→(∀y∈D,f y≠f (t,r,x))→((D++[(t,r,x)]).map f).Nodup:=fun f h1 h2=>by
  (erw[aB];(refine(dL).mpr ?_))
  refine⟨h1,bX _ _,fun a ha b hb=>?_⟩
  obtain⟨y,hy,rfl⟩:=aU.mp ha
  exact ax.mp hb▸h2 y hy
 refine⟨by(erw[cB hp,e];with_reducible rfl),fun y hy=>?_,one _ w.nd fun y hy q=>ht (aU.mpr ⟨y,hy,q⟩),one _ w.nr fun y hy=>aS (lo y hy)⟩
 rcases aH.mp hy with hy|hy
 ·exact fQ (n.gr.at (w.inst y hy)) (np y hy)
 ·rw[ax]at hy;apply d6 hy
  exact fQ n.at_ (aS (av (dm w.at_) n.le))
noncomputable def rV{α:Type}(t:String)(f:α→α)(E:List (String×α)):List (String×α):=E.map fun y=>if y.1=t then(y.1,f y.2)else y
noncomputable def D1(t:String)(f:cD→cD)(D:DW):DW:=D.map fun y=>if y.1=t then(y.1,y.2.1,f y.2.2)else y
theorem Oq(t:String)(f:cD→cD)(D:DW):WS (D1 t f D)=rV t f (WS D):=by
 unfold WS D1 rV
 (erw[bc,bc])
 refine bL fun y z_=>?_
 show((if y.1=t then(y.1,y.2.1,f y.2.2)else y).1,(if y.1=t then(y.1,y.2.1,f y.2.2)else y).2.2)=if y.1=t then(y.1,f y.2.2)else(y.1,y.2.2)
 split<;>rfl
theorem Fj{α β:Type}{f:α→β}{l:List α}(nd:(l.map f).Nodup){a b:α}(ha:a∈l)(hb:b∈l)(e:f a=f b):a=b:=by
 refine fH (bW ha) fun i hi=>?_
 refine fH (bW hb) fun j hj=>?_
 have hi':(l.map f)[i]?=some (f a):=by(erw[aq,hi]);rfl
 have hj':(l.map f)[j]?=some (f a):=by(erw[aq,hj,e]);rfl
 have:i=j:=(qY (ai.mp hi').1 nd).mp (hi'.trans hj'.symm)
 subst this
 exact ab (hi.symm.trans hj)
theorem rU{α:Type}{t:String}{f:cD→cD}{D:DW}(g:String×Nat×cD→α)(h:∀y:String×Nat×cD,g (y.1,y.2.1,f y.2.2)=g y):(D1 t f D).map g=D.map g:=by
 (erw[bc]);refine bL fun y z_=>?_
 show g (if y.1=t then(y.1,y.2.1,f y.2.2)else y)=g y
 split
 ·exact h y
 ·rfl
theorem fG.upd{H:MH}{p:Nat}{D:DW}(w:fG H p D){t:String}{r:Nat}{x:cD}(hx:(t,r,x)∈D)(f:cD→cD):fG (H.set r (iY (f x))) p (D1 t f D):=by
 have np:r≠p:=fun q=>by
  have h1:=w.inst _ hx
  (replace h1:=(q)▸h1;replace h1:=(w.at_)▸h1);cases h1
 refine⟨by(erw[(show lY (D1 t f D)=lY D from rU _ fun z_=>rfl)]);exact fQ w.at_ np,fun y hy=>?_,by rw[rU _ fun z_=>rfl];exact w.nd,by rw[rU _ fun z_=>rfl];exact w.nr⟩
 obtain⟨z,hz,rfl⟩:=aU.mp hy
 by_cases h:z.1=t
 ·have hzx:z=(t,r,x):=Fj w.nd hz hx h
  apply d6 hzx
  (erw[if_pos rfl])
  exact cB (w.inst _ hx)
 ·(erw[if_neg h])
  exact fQ (w.inst z hz) fun q=>h (congrArg (fun x:String×Nat×cD=>x.1) (Fj (f:=fun x:String×Nat×cD=>x.2.1) w.nr hz hx q.symm))
theorem qm(t:String)(D:DW):gv (ag t) (lY D)=(aV t D).map fun y=>.ref y.1:=pu (fun y:Nat×cD=>.ref y.1) t D
noncomputable def wJ:List String:=["abvm","blwm","ccmp","locl","mark","mkmk","rlig","calt","clig","curs","dist","kern","liga","rclt"]
noncomputable def Es(ar:Bool):List String:=if ar then["rtla"]else["ltra","ltrm"]
noncomputable def LA:List String:=["isol","fina","medi","init"]
noncomputable def qb:cD:=⟨0,1,true,true⟩
noncomputable def Gm:cD:=⟨1,1,false,false⟩
noncomputable def hH(ar:Bool):List (String×cD):=(wJ++Es ar).map (·,Gm)++(if ar then("rtlm",qb)::LA.map (·,qb)else[])
variable{d:Nat}{H:MH}
structure Ox(p:Nat)(H:MH)(ar:Bool)(E:List (String×cD))(L:dn)(H':MH):Prop where
 mo:Mo (· =p) H H'
 fo:L 42=some (.ref p)
 ba:L 57=some (.bool ar)
 sc:L 102=some (cc ar)
 wa:∃D,fG H' p D∧WS D=E∧∀x∈D,H.length≤x.2.1
noncomputable abbrev eA(L:List String):List MV:=L.map fun s=>.str (ag s)
theorem GU{D:DW}{E:List (String×cD)}(e:WS D=E):D.length=E.length:=by(erw[←e]);exact(aj ..).symm
theorem rC{D:DW}{E:List (String×cD)}(e:WS D=E):D.map (fun x=>x.1)=E.map fun x=>x.1:=by(erw[←e]);(erw[bc]);rfl
theorem xE{D:DW}:(fW (lY D)).length=D.length:=(aj ..).trans (aj ..)
theorem rT{p r:Nat}{ar:Bool}{E:List (String×cD)}{L L':dn}{H₁ H₂:MH}(hI:Ox p H ar E L H₁){t:String}(ht:t∉E.map fun x=>x.1)(hE:E.length≤900){x:cD}(n:Nu H₁ (iY x) r H₂)(f1:L' 42=some (.ref p))(f2:L' 57=some (.bool ar))(f3:L' 102=some (cc ar)){Q:Unit→MH→Prop}
 (k:∀H₃,Ox p H ar (E++[(t,x)]) L' H₃→Q () H₃):U (fE (.ref p) (.str (ag t)) (.ref r)) H₂ Q:=by
 obtain⟨m,_,_,_,D,wa,we,wl⟩:=hI
 refine lT (n.gr.at wa.at_) rfl (jO _ _ _) (by(erw[xE,GU we]);exact ah hE (by decide)) (k _ ⟨(m.trans n.gr.mo).setN (.inl rfl),f1,f2,f3,D++[(t,r,x)],wa.add (by(erw[rC we]);exact ht) n,?_,fun y hy=>?_⟩)
 ·(erw[←we]);unfold WS;(erw[aB]);rfl
 ·rcases aH.mp hy with hy|hy
  ·exact wl y hy
  ·rw[ax]at hy;apply d6 hy
   exact ah m.1 n.le
theorem Kc{α:Type}{T:List String}{c:α}:(T.map (·,c)).map (fun x=>x.1)=T:=by(erw[bc]);exact List.map_id' T
theorem wA(ar:Bool){Q:MV→MH→Prop}(k:∀H' p D,Gr H H'→H.length≤p→fG H' p D→WS D=hH ar→(∀x∈D,H.length≤x.2.1)→Q (.ref p) H'):WC (cn (d+2)) 1431 [cc ar,.bool ar] H Q:=by
 refine bC JI rfl (au rfl (bn fun p H₁ n0=>sq ?_))
 have loop:∀{L:dn}{H₂:MH}{E:List (String×cD)}(T:List String) (x:cD) {sb:List (PM MF)}{Q:aT MF},(E.map (fun x=>x.1)++T).Nodup→E.length+T.length≤900→Ox p H₁ ar E L H₂→
  (∀(L:dn) (H:MH) (t:String) (K:aT MF),L 42=some (.ref p)→(∀r H',Nu H (iY x) r H'→U (fE (.ref p) (.str (ag t)) (.ref r)) H' (Rk K (sN 120 (.str (ag t)) L)))→(gD sb).wp (sN 120 (.str (ag t)) L) H K)→
  (∀L' H',Ox p H₁ ar (E++T.map (·,x)) L' H'→Q .next L' H')→rj (.tup (eA T)) (gu 120) (gD sb) L H₂ Q:=by
  intro L H₂ E T x sb Q nd hT hE body k
  refine Kv (vs:=eA T) (fun i L H'=>Ox p H₁ ar (E++(T.take i).map (·,x)) L H') (by(erw[List.take_zero,zf];rw[bk]);exact hE) (fun i v L H₂ hv hI K kk=>?_) fun L H₂ hI=>?_
  ·replace hv:=(aq)▸hv
   obtain⟨t,ht,rfl⟩:=az.mp hv
   have hi:=(ai.mp ht).1
   refine body L H₂ t K hI.fo fun r H' n=>rT (L':=sN 120 (.str (ag t)) L) hI ?_ (by(erw[aJ];rw[aj];erw[cK]);lia) n hI.fo hI.ba hI.sc fun H₃ h3=>kk.next _ _ ?_
   ·(erw[aB,Kc])
    have e:E.map (fun x=>x.1)++T=(E.map (fun x=>x.1)++T.take i)++t::T.drop (i+1):=by
     rw[dM]
     refine congrArg _ ((gW i T).symm.trans (congrArg _ ?_))
     (erw[kQ hi,(ai.mp ht).2];with_reducible rfl)
    rw[e,dL]at nd
    exact fun q=>nd.2.2 t q t (.head _) rfl
   ·(erw[aO,ht,aB];rw[←dM])
    exact h3
  ·rw[aj,aZ]at hI
   exact k L H₂ hI
 have start:∀{L:dn},L 42=some (.ref p)→L 57=some (.bool ar)→L 102=some (cc ar)→Ox p H₁ ar [] L H₁:=fun f1 f2 f3=>⟨Mo.refl _ _,f1,f2,f3,[],⟨n0.at_,fun z_ h=>absurd h bR,dp,dp⟩,rfl,fun z_ h=>absurd h bR⟩
 have fin:∀{L H₂},Ox p H₁ ar (hH ar) L H₂→eG (gD [bM (ae 42)]) L H₂ (xD Q):=fun{L H₂} hI=>by
  obtain⟨m,f1,f2,f3,D,wa,we,wl⟩:=hI
  exact sq (ay f1 (k H₂ p D ((n0.gr.mo.trans m).weaken fun x hx q=>aC.mpr n0.le (q▸hx)) n0.le wa we fun x hx=>ah n0.gr.1 (wl x hx)))
 cases ar with
 |false=>
  refine tF (by decide) ?_
  refine loop (E:=[]) (wJ++Es false) Gm (by decide) (by decide) (start rfl rfl rfl) (fun L H t K f1 q=>ol fun r H' n=>ay f1 (q r H' n)) fun L H₂ hI=>sq (ay hI.ba (sq (ay hI.sc (.of_eq (oo false) (fin hI)))))
 |true=>
  refine tF (by decide) ?_
  refine loop (E:=[]) (wJ++Es true) Gm (by decide) (by decide) (start rfl rfl rfl) (fun L H t K f1 q=>ol fun r H' n=>ay f1 (q r H' n)) fun L H₂ hI=>sq (ay hI.ba (sJ fun r H' n=>ay hI.fo (rT hI (t:="rtlm") (x:=qb) (by decide) (by decide) n hI.fo hI.ba hI.sc fun H₃ hI3=>sq (ay hI3.sc (.of_eq (oo true) ?_)))))
  exact loop LA qb (by decide) (by decide) hI3 (fun L H t K f1 q=>sJ fun r H' n=>ay f1 (q r H' n)) fun L H₂ hI=>fin hI
end
section
noncomputable def pM(t:String)(E:List (String×cD)):List (String×cD):=if(aV t E).isSome then E else E++[(t,⟨0,0,false,false⟩)]
noncomputable def dB(v b e:Int)(x:cD):cD:=if(fI b e&&!x.set)=true then{x with value:=v}else{x with own:=true}
noncomputable def jC(v b e:Int)(x:cD):cD:={dB v b e x with most:=if(dB v b e x).most < v then v else(dB v b e x).most}
noncomputable def eX(ar:Bool):gn→List (String×cD)
 |none=>hH ar
 |some (t,v,b,e)=>rV t (jC v b e) (pM t (hH ar))
theorem C1{α β:Type}(f:α→β)(t:String)(M:List (String×α)):aV t (M.map fun x=>(x.1,f x.2))=(aV t M).map f:=by
 induction M with
 |nil=>rfl
 |cons a r ih=>
  obtain⟨s,v⟩:=a
  (erw[bj])
  show(if s=t then some (f v)else aV t _)=dg f (if s=t then some v else aV t r)
  (erw[ih]);split<;>rfl
theorem x9(t:String)(D:DW):aV t (WS D)=(aV t D).map fun y=>y.2:=C1 (fun y:Nat×cD=>y.2) t D
theorem jS{α:Type}{t:String}{M:List (String×α)}:aV t M=none↔t∉M.map fun x=>x.1:=by
 induction M with
 |nil=>simp[aV]
 |cons a r ih=>
  obtain⟨s,v⟩:=a
  unfold aV
  by_cases h:s=t
  ·apply dE h;simp
  ·(erw[if_neg h];rw[ih]);simp[bS h]
variable{d:Nat}{H:MH}{r:Nat}{x:cD}
theorem sY(h:H[r]?=some (iY x)):aN dz H (.ref r) "value"=some (.int x.value):=(aG h (by kernel_rfl)).trans (by kernel_rfl)
theorem Bo(h:H[r]?=some (iY x)):aN dz H (.ref r) "most"=some (.int x.most):=(aG h (by kernel_rfl)).trans (by kernel_rfl)
theorem z7(h:H[r]?=some (iY x)):aN dz H (.ref r) "has_own"=some (.bool x.own):=(aG h (by kernel_rfl)).trans (by kernel_rfl)
theorem N3(h:H[r]?=some (iY x)):aN dz H (.ref r) "is_set"=some (.bool x.set):=(aG h (by kernel_rfl)).trans (by kernel_rfl)
theorem Eh{v:Int}{P:Unit→MH→Prop}(h:H[r]?=some (iY x))(q:P () (H.set r (iY {x with value:=v}))):U (dY dz (.ref r) "value" (.int v)) H P:=ce h (aA rfl) (by kernel_rfl) q
theorem HD{v:Int}{P:Unit→MH→Prop}(h:H[r]?=some (iY x))(q:P () (H.set r (iY {x with most:=v}))):U (dY dz (.ref r) "most" (.int v)) H P:=ce h (aA rfl) (by kernel_rfl) q
theorem Ei{v:Bool}{P:Unit→MH→Prop}(h:H[r]?=some (iY x))(q:P () (H.set r (iY {x with own:=v}))):U (dY dz (.ref r) "has_own" (.bool v)) H P:=ce h (aA rfl) (by kernel_rfl) q
theorem Qr{t:String}(h:t∈d5):kW H (.str (ag t))=some 4:=by
 have:(d5.all fun t=>decide ((ag t).cps.size=4))=true:=by kernel_rfl
 exact congrArg some (of_decide_eq_true (bd.mp this t h))
theorem yR{w:Nat}{t:String}{v b e:Int}(h:H[w]?=some (qC t v b e))(hw:oB (some (t,v,b,e))){Q:MV→MH→Prop}(q:Q .none H):WC (cn (d+1)) 1402 [.ref w] H Q:=by
 (refine uj hw fun ht v0 v1 z_=>?_;clear hw)
 exact bC JJ rfl (au (n9 h) (fj (Qr ht) (by decide) (sq (au (oP h) (wn v0 (pn (fun hn=>(hn (kh v1 (by decide))).elim) fun z_=>q))))))
theorem Mo.gset{H H₂:MH}{r:Nat}{o:MO}(g:Gr H H₂)(hr:H.length≤r):Gr H (H₂.set r o):=g.setN (.inr hr)
theorem LX{a b:Int}{P:MV→MH→Prop}(q:P (.int (if a < b then b else a)) H):U (iG (.builtin "max") [.int a,.int b]) H P:=U.of (fun z_=>rfl) q
theorem sL{t:String}{y:Nat×cD}:∀{D:DW},t∉D.map (fun x=>x.1)→aV t (D++[(t,y)])=some y
 |[],_=>if_pos rfl
 |a::D,h=>by
  (rw[bj]at h;rw[aF]at h;replace h:=(not_or).mp h)
  exact(if_neg fun q=>h.1 q.symm).trans (sL h.2)
theorem As(ar:Bool){wl:Nat}{w:gn}(hw:jY H wl w)(hwo:oB w){Q:MV→MH→Prop}(k:∀H' p D,Gr H H'→fG H' p D→WS D=eX ar w→Q (.ref p) H'):WC (cn (d+3)) 1438 [cc ar,.bool ar,.ref wl] H Q:=by
 refine bC JH rfl (wA ar fun H₁ p D g1 hlp wa we wlo'=>sq ?_)
 cases w with
 |none=>exact cE (vs:=[]) (fun i L H'=>H'=H₁∧L 42=some (.ref p)) ⟨rfl,rfl⟩ (fun i L H hI=>hI.1▸g1.at hw) (fun i y L H hy hI=>by exact bD hy) fun L H' hI=>sq (ay hI.2 (hI.1▸k H₁ p D g1 wa we))
 |some y=>
  obtain⟨t,v,b,e⟩:=y
  (refine aM hw fun w h0 h1=>?_;clear hw)
  have h1':=g1.at h1
  refine cE (vs:=[.ref w]) (fun i L H'=>Gr H H'∧L 42=some (.ref p)∧if i=0 then H'=H₁ else∃D,fG H' p D∧WS D=eX ar (some (t,v,b,e))) ⟨g1,rfl,rfl⟩ (fun j L H' hI=>hI.1.at h0) (fun j y L H' hy hI K kk=>?_) fun L H' hI=>?_
  ·obtain⟨rfl,rfl⟩:=mx hy
   (refine oO hI fun z_ f1 q0_=>?_;subst q0_;clear hI)
   have w1:∀{H₂:MH}{D₂:DW}{r:Nat}{x:cD},Gr H H₂→fG H₂ p D₂→WS D₂=pM t (hH ar)→aV t D₂=some (r,x)→H.length≤r→eG (gD ((uF (cn (d+2))).drop 2)) (sN 130 (.ref w) L) H₂ K:=by
    intro H₂ D₂ r x g2 wa2 we2 hx hr
    have gi:bp H₂ (.ref p) (.str (ag t))=some (.ref r):=eJ wa2.at_ rfl (by(rw[l0,qm];erw[hx]);rfl)
    have hw2:=g2.at h1
    have hi:=wa2.inst _ (fy hx)
    have nrw:r≠w:=fun q=>by subst q;replace hw2:=(hi)▸hw2;cases hw2
    have half:∀{x1:cD},dB v b e x=x1→eG (gD [bo (ae 127) "most" (bl (.builtin "max") [(aD (ae 127) "most"),(aD (ae 130) "value")])]) (sN 127 (.ref r) (sN 130 (.ref w) L)) (H₂.set r (iY x1)) K:=fun{x1} e1=>by
     have hi2:=cB (o':=iY x1) hi
     refine sq (au (Bo hi2) (au (oP (fQ hw2 nrw)) (LX (HD hi2 (kk.next _ _ ⟨Mo.gset (Mo.gset g2 hr) hr,f1,?_⟩)))))
     rw[ze]
     have:=wa2.upd (fy hx) (jC v b e)
     unfold jC at this
     rw[e1]at this
     exact⟨_,this,by have:=Oq t (jC v b e) D₂;unfold jC at this;(erw[this,we2]);rfl⟩
    refine sq (ay f1 (au (n9 hw2) (au gi (sq (au (rQ hw2) (DZ hw2 (gQ (fun hwh=>au (N3 hi) (gQ (fun hst=>?_) fun hst=>?_)) fun hwh=>?_)))))))
    ·exact au (oP hw2) (Eh hi (half (by unfold dB;(erw[hwh,hst]);rfl)))
    ·exact Ei hi (half (by unfold dB;(erw[hwh,hst]);rfl))
    ·exact Ei hi (half (by unfold dB;(erw[hwh]);rfl))
   have hlt:aV t (hH ar)=(aV t D).map fun y=>y.2:=by(erw[←we];rw[x9])
   have e0:=l0 (ag t) (lY D)
   rw[qm]at e0
   refine yR h1' hwo (sq (au (n9 h1') (ay f1 (au (mM wa.at_ rfl e0) ?_))))
   cases hx:aV t D with
   |some y=>
    exact w1 g1 wa (by(erw[we]);unfold pM;(erw[hlt,hx]);rfl) hx (wlo' _ (fy hx))
   |none=>
    have hnt:=jS.mp hx
    refine ol fun r H₂ n=>ay f1 (au (n9 (n.gr.at h1')) (lT (n.gr.at wa.at_) rfl (jO _ _ _) ?_ (w1 (r:=r) (x:=⟨0,0,false,false⟩) (Mo.gset (g1.trans n.gr) hlp) (wa.add (x:=⟨0,0,false,false⟩) hnt n) ?_ (sL hnt) (ah g1.1 n.le))))
    ·(erw[xE,GU we]);cases ar<;>decide
    ·unfold pM;(erw[hlt,hx])
     unfold WS at we ⊢
     (erw[aB,we]);rfl
  ·obtain⟨g2,f1,D2,wa2,we2⟩:=hI
   exact sq (ay f1 (k H' p D2 g2 wa2 we2))
end
section
noncomputable def FG(i:String):List String→List String
 |[]=>[i]
 |j::r=>if Pd (ag i) (ag j)=true then i::j::r else j::FG i r
noncomputable def dC:List String→List String
 |[]=>[]
 |i::r=>FG i (dC r)
theorem Bm(i:String):∀L:List String,tX (ag i) (L.map ag)=(FG i L).map ag
 |[]=>rfl
 |j::r=>by
  show(if Pd (ag i) (ag j)then _ else _)=vB _ (if _ then _ else _)
  split
  ·rfl
  ·show _::tX _ _=_::_
   (erw[Bm i r];with_reducible rfl)
theorem xj:∀L:List String,oW (L.map ag)=(dC L).map ag
 |[]=>rfl
 |i::r=>by
  show tX _ (oW (r.map ag))=_
  (erw[xj r];rw[Bm]);rfl
theorem uU(i:String):∀L:List String,(FG i L).Perm (i::L)
 |[]=>jd _
 |j::r=>by
  unfold FG
  split
  ·exact jd _
  ·exact((uU i r).cons j).trans (L9 i j r)
theorem lw:∀L:List String,(dC L).Perm L
 |[]=>jd _
 |i::r=>(uU i _).trans ((lw r).cons i)
theorem fw{L:List String}{t:String}:t∈dC L↔t∈L:=(lw L).mem_iff
theorem ko{L:List String}(h:L.Nodup):(dC L).Nodup:=(lw L).symm.nodup h
theorem kT(L:List String):(dC L).length=L.length:=(lw L).length_eq
theorem zx:∀L:List String,kU (eA L)=some (eA (dC L))
 |[]=>rfl
 |a::r=>by
  show(je (eA (a::r))).map _=_
  (erw[(show je (eA (a::r))=some ((a::r).map ag)from oe _)])
  show some ((oW ((a::r).map ag)).map MV.str)=_
  (rw[xj];erw[bc]);rfl
variable{d:Nat}{H H₀:MH}{X:bQ}{A:fR}{P:MV→MH→Prop}
theorem wQ{p:Nat}{L:List String}(src:gA H (.ref p)=some (eA L))(hn:L.length≤60)(q:∀p H',Nu H (.list (eA (dC L))) p H'→P (.ref p) H'):U (iG (.builtin "sorted") [.ref p]) H P:=U.of (fun l=>by
 show(gA H (.ref p)).bind _=_
 (erw[src])
 show(if 60 < (eA L).length then none else(kU (eA L)).bind _)=_
 rw[if_neg (by rw[aj];exact aC.mpr hn),zx];rfl) (q _ _ (Nu.mk' _ _))
theorem xi{p:Nat}{α:Type}{L:List (String×α)}{f:α→MV}(h:H[p]?=some (.dict (fW (L.map fun x=>(ag x.1,f x.2))))):gA H (.ref p)=some (eA (L.map fun x=>x.1)):=by
 unfold gA;dsimp only;(erw[h])
 show some (((L.map _).map _).map _)=some ((L.map _).map _)
 (erw[bc,bc,bc]);rfl
theorem Em{p:Nat}{L:List String}(h:H[p]?=some (.list (eA L))):gA H (.ref p)=some (eA L):=by
 unfold gA;dsimp only;(erw[h];with_reducible rfl)
theorem G3{p q:Nat}{a b:List MV}(h1:H[p]?=some (.list a))(h2:H[q]?=some (.list b))(hn:a.length+b.length≤1000)(k:∀p H',Nu H (.list (a++b)) p H'→P (.ref p) H'):U (gT .Add (.ref p) (.ref q)) H P:=U.of (fun l=>by
 show(cy H (.ref p)).bind _=_
 (erw[di h1])
 show(cy H (.ref q)).bind _=_
 (erw[di h2])
 show(DK a b).bind _=_
 unfold DK;(erw[if_neg (aC.mpr hn)]);rfl) (k _ _ (Nu.mk' _ _))
noncomputable def Nb:List (Str×MV):=[("beng",.str "bng2"),("deva",.str "dev2"),("gujr",.str "gjr2"),("guru",.str "gur2"),("knda",.str "knd2"),("mlym",.str "mlm2"),("mymr",.str "mym2"),("orya",.str "ory2"),("taml",.str "tml2"),("telu",.str "tel2")]
theorem xA{Q:MV→MH→Prop}(q:∀p H',Nu H (.dict (fW Nb)) p H'→Q (.ref p) H'):WC (cn (d+1)) 1274 [] H Q:=
 bC JU rfl (au (a:=fW Nb) (by kernel_rfl) (bn q))
theorem ky:nB H .Is .none .none=some true:=rfl
theorem nz{p:Nat}:nB H .Is (.ref p) .none=some false:=rfl
theorem pE{p:Nat}:nB H .IsNot (.ref p) .none=some true:=rfl
theorem vR(ar:Bool){Q:MV→MH→Prop}(k:∀H' p,Gr H H'→H'[p]?=some (.list [cc ar])→Q (.ref p) H'):WC (cn (d+2)) 1281 [cc ar] H Q:=by
 have e:gR (cc ar) (fW Nb)=some none:=by cases ar<;>kernel_rfl
 exact bC JT rfl (xA fun p H₁ n1=>au (gI n1.at_) (Ov n1.at_ rfl e (sq (au ky (bn fun p' H₂ n2=>k _ _ (n1.gr.trans n2.gr) n2.at_)))))
theorem tp(F:dw H₀ X A)(g:Gr H₀ H){ar:Bool}{p:Nat}(hp:H[p]?=some (.list [cc ar])){Q:MV→MH→Prop}(k:∀H',Gr H H'→Q (.ref A.scr) H'):WC (cn (d+1)) 1288 [.ref A.lay,.ref p] H Q:=by
 refine bC JS rfl (oE (oV hp) (aA rfl) fun p1 H₁ n1=>oE (vs:=eA ["DFLT","dflt","latn"]) rfl (by decide) fun p2 H₂ n2=>G3 (n2.gr.at n1.at_) n2.at_ (aA rfl) fun p3 H₃ n3=>?_)
 have g1:=(n1.gr.trans n2.gr).trans n3.gr
 have gg:=g.trans g1
 have ga:aN dz H₃ (.ref A.lay) "scripts"=some (.ref A.sd):=(aG (gg.at F.lay) (by kernel_rfl)).trans (by kernel_rfl)
 have hsd:H₃[A.sd]?=some (.dict (fW [(ag "DFLT",.ref A.scr)])):=gg.at F.sd
 refine cE (vs:=[cc ar]++eA ["DFLT","dflt","latn"]) (fun i L H'=>H'=H₃∧L 71=some (.ref A.lay)∧i≤1) ⟨rfl,rfl,by decide⟩ (fun i L H hI=>hI.1▸n3.at_) (fun i y L H' hy hI K kk=>?_) fun L H' hI=>absurd (Nat.ble_eq_true_of_le hI.2.2) Bool.noConfusion
 (refine oO hI fun q0_ f1 hi=>?_;subst q0_;clear hI)
 match i,hi with
 |0,_=>
  (obtain rfl:=ab hy;clear hy)
  have e0:gR (cc ar) (fW [(ag "DFLT",MV.ref A.scr)])=some none:=by cases ar<;>kernel_rfl
  exact ay f1 (au ga (au (nA hsd rfl e0) (kk.next _ _ ⟨rfl,f1,aY _⟩)))
 |1,_=>
  (obtain rfl:=ab hy;clear hy)
  have e0:gR (.str (ag "DFLT")) (fW [(ag "DFLT",MV.ref A.scr)])=some (some (.ref A.scr)):=by kernel_rfl
  exact ay f1 (au ga (au (nA hsd rfl e0) (ay f1 (au ga (au (eJ hsd rfl e0) (kk.ret _ _ _ (k H' g1)))))))
theorem ri(F:dw H₀ X A)(g:Gr H₀ H){Q:MV→MH→Prop}(q:Q (.ref A.ls) H):WC (cn (d+1)) 1295 [.ref A.scr,.str "dflt"] H Q:=by
 have ga:aN dz H (.ref A.scr) "languages"=some (.ref A.lsl):=(aG (g.at F.scr) (by kernel_rfl)).trans (by kernel_rfl)
 have gb:aN dz H (.ref A.scr) "default"=some (.ref A.ls):=(aG (g.at F.scr) (by kernel_rfl)).trans (by kernel_rfl)
 have hl:=g.at F.lsl
 exact bC JR rfl (au nz (sq (au ga (au (gI hl) (au gb (jZ hl (k:=.str "dflt") rfl (r:=none) rfl q))))))
theorem wf(F:dw H₀ X A)(g:Gr H₀ H)(ar:Bool){Q:MV→MH→Prop}(k:∀H',Gr H H'→Q (.ref A.ls) H'):WC (cn (d+3)) 1459 [.ref A.lay,cc ar,.str "dflt"] H Q:=
 bC AZ rfl (au nz (sq (vR ar fun H₁ p g1 hp=>tp F (g.trans g1) hp fun H₂ g2=>ri F ((g.trans g1).trans g2) (k H₂ (g1.trans g2)))))
theorem tV{a b:MV}{Q:MV→MH→Prop}(q:Q .none H):WC (cn (d+1)) 1459 [.none,a,b] H Q:=
 bC AZ rfl (au ky q)
theorem qS(F:dw H₀ X A)(g:Gr H₀ H){i:Nat}{f:String×List Nat}(hf:X.feats[i]?=some f)(hX:X.feats.length≤900){Q:MV→MH→Prop}(k:∀r r2:Nat,H₀[r]?=some (.inst 1951 [("tag",.str f.1),("lookups",.ref r2)])→H₀[r2]?=some (.list (cJ f.2))→Q (.ref r) H):WC (cn (d+1)) 1302 [.ref A.lay,.int i] H Q:=by
 refine dH F.fl fun ws h1 h2 h3=>?_
 refine eW (h3 i f hf) fun r r2 a1 a2 a3=>?_
 have hi:i < X.feats.length:=(ai.mp hf).1
 have ga:aN dz H (.ref A.lay) "features"=some (.ref A.fl):=(aG (g.at F.lay) (by kernel_rfl)).trans (by kernel_rfl)
 have gi:bp H (.ref A.fl) (.int i)=some (.ref r):=(cv (g.at h1) (av hi (ah hX (by decide)))).trans a1
 exact bC A3 rfl (au ga (fj (n:=X.feats.length) ((cw (g.at h1)).trans (congrArg some h2)) (ah hX (by decide)) (wn (dd.mpr hi) (au ga (au gi (k r r2 a2 a3))))))
theorem wB{la:MV}{Q:MV→MH→Prop}(q:Q .none H):WC (cn (d+1)) 1302 [la,.int (-1)] H Q:=
 bC A3 rfl (sq q)
noncomputable def nL(X:bQ)(i:Nat)(t:String):Bool:=match X.feats[i]? with
 |some f=>f.1==t
 |none=>false
noncomputable def Dh(X:bQ)(t:String):List Nat:=(aE X.feats.length).filter fun i=>nL X i t
structure TK(X:bQ)(A:fR)(t:String)(f:Nat)(H:MH)(i:Nat)(L:dn)(H':MH):Prop where
 mo:Mo (· =f) H H'
 la:L 71=some (.ref A.lay)
 ta:L 120=some (.str (ag t))
 fo:L 42=some (.ref f)
 at_:H'[f]?=some (.list (cJ ((aE i).filter fun i=>nL X i t)))
theorem k9(F:dw H₀ X A)(g:Gr H₀ H)(hX:X.feats.length≤900)(t:String){Q:MV→MH→Prop}(k:∀H' q,Gr H H'→H.length≤q→H'[q]?=some (.list (cJ (Dh X t)))→Q (.ref q) H'):WC (cn (d+2)) 1316 [.ref A.lay,.ref A.ls,.str (ag t)] H Q:=by
 have ga:∀{H':MH},Gr H₀ H'→aN dz H' (.ref A.ls) "features"=some (.ref A.lsf):=fun g=>(aG (g.at F.ls) (by kernel_rfl)).trans (by kernel_rfl)
 refine bC JP rfl (bn fun f H₁ n0=>sq (au pE (au (ga (g.trans n0.gr)) ?_)))
 have g1:=g.trans n0.gr
 have off:∀{p o},H₀[p]?=some o→p≠f:=fun e=>aS (av (dm e) (ah g.1 n0.le))
 refine cE (vs:=cJ (aE X.feats.length)) (fun i L H'=>TK X A t f H₁ i L H') ⟨Mo.refl _ _,rfl,rfl,rfl,n0.at_⟩ (fun i L H hI=>hI.mo.at (g1.at F.lsf) (off F.lsf)) (fun i y L H₂ hy hI K kk=>?_) fun L H₂ hI=>?_
 ·obtain⟨m,f1,f2,f3,f4⟩:=hI
  rw[aq]at hy
  obtain⟨i',hi',rfl⟩:=az.mp hy
  have hi:i < X.feats.length:=kN (ai.mp hi').1 aW
  rw[cH hi]at hi'
  (obtain rfl:=ab hi';clear hi')
  have g2:Gr H₀ H₂:=⟨ah g1.1 m.1,fun p o e z_=>m.at (g1.at e) (off e)⟩
  have hfi:X.feats[i]?=some X.feats[i]:=an hi
  refine ay f1 (qS F g2 hfi hX fun r r2 c2 c3=>?_)
  have gt:aN dz H₂ (.ref r) "tag"=some (.str (ag X.feats[i].1)):=(aG (g2.at c2) (by kernel_rfl)).trans (by kernel_rfl)
  have hta:nL X i t=decide (X.feats[i].1=t):=by unfold nL;(erw[hfi]);rfl
  refine sq (au pE (au gt (ay f2 (au jm (dc (fun hb=>?_) fun hb=>?_)))))
  ·have hln:(cJ ((aE i).filter fun i=>nL X i t)).length≤1000:=by rw[dx];exact ah (bB _ _) (by(erw[aW]);exact ah (dO hi) (ah hX (by decide)))
   refine ay f3 (au (gK f4 rfl) (lg f4 hln (kk.next _ _ ⟨m.setN (.inl rfl),f1,f2,f3,?_⟩)))
   (erw[cB f4,cX];rw[cV,bG (by rw[hta,decide_eq_true hb])])
   unfold cJ;(erw[aB]);rfl
  ·refine kk.next _ _ ⟨m,f1,f2,f3,?_⟩
   (erw[f4,cX];rw[cV,bH (by rw[hta,decide_eq_false hb];exact Bool.noConfusion)])
   unfold cJ;(erw[aB]);exact congrArg (fun l=>some (MO.list l)) (bk _).symm
 ·obtain⟨m,f1,f2,f3,f4⟩:=hI
  rw[dx,aW]at f4
  exact sq (ay f3 (k H₂ f ((n0.gr.mo.trans m).weaken fun x hx q=>aC.mpr n0.le (q▸hx)) n0.le f4))
noncomputable def mF(X:bQ)(t:String):Bool:=!(Dh X t).isEmpty
theorem wq(F:dw H₀ X A)(g:Gr H₀ H)(hX:X.feats.length≤900)(t:String){Q:MV→MH→Prop}(k:∀H',Gr H H'→Q (.bool (mF X t)) H'):WC (cn (d+3)) 1466 [.ref A.lay,.ref A.ls,.str (ag t)] H Q:=by
 refine bC AY rfl (au pE (k9 F g hX t fun H₁ q g1 z_ hq=>bn fun p H₂ n2=>au (a:=mF X t) ?_ (k _ (g1.trans n2.gr))))
 show(D0 _ (.ref q) (.ref p)).map (!·)=_
 unfold D0;dsimp only;rw[di (n2.gr.at hq),di n2.at_]
 unfold mF
 cases Dh X t<;>rfl
theorem FJ{la t:MV}{Q:MV→MH→Prop}(q:Q (.bool false) H):WC (cn (d+1)) 1466 [la,.none,t] H Q:=
 bC AY rfl (au jW q)
theorem sX{t:String}:mF X t=true↔∃(i:Nat) (f:String×List Nat),X.feats[i]?=some f∧f.1=t:=by
 unfold mF Dh
 rw[dN,List.isEmpty_eq_false_iff]
 constructor
 ·intro h
  refine fH (List.exists_mem_of_ne_nil _ h) fun i hi=>?_
  have ht:=(bt.mp hi).2
  unfold nL at ht
  cases e:X.feats[i]? with
  |none=>rw[e]at ht;exact Bool.noConfusion ht
  |some f=>rw[e]at ht;exact⟨i,f,e,of_decide_eq_true ht⟩
 ·rintro⟨i,f,e,rfl⟩ h
  have:i∈(aE X.feats.length).filter fun i=>nL X i f.1:=bt.mpr ⟨cg.mpr (ai.mp e).1,by unfold nL;(erw[e]);exact decide_eq_true rfl⟩
  replace this:=(h)▸this;cases this
end
section
structure DL where
 M:fO
 df:Int
 sh:Nat
noncomputable def dt(E:List (String×cD))(x:DL)(t:String):DL:=match aV t E with
 |none=>x
 |some w=>if(!w.own&&w.value==1)=true then{x with M:=x.M++[(t,0)]}
  else if w.own=true then⟨x.M++[(t,x.sh)],bg x.df ((w.value.toNat*2^x.sh:Nat):Int),x.sh+1⟩else x
noncomputable def vN(E:List (String×cD))(T:List String):DL:=(dC T).foldl (dt E) ⟨[],1,1⟩
noncomputable def PS(E:List (String×cD)):Prop:=∀x∈E,(x.2.value=0∨x.2.value=1)∧(x.2.most=0∨x.2.most=1)
theorem xr{E:List (String×cD)}{x:DL}{t:String}:(∀k∈(dt E x t).M.map (fun y=>y.1),k∈x.M.map (fun y=>y.1)∨k=t)∧(dt E x t).sh≤x.sh+1∧(dt E x t).M.length≤x.M.length+1:=by
 have add:∀{s:Nat},(∀k∈(x.M++[(t,s)]).map (fun y=>y.1),k∈x.M.map (fun y=>y.1)∨k=t)∧(x.M++[(t,s)]).length≤x.M.length+1:=fun{s}=>⟨fun k h=>by
  (rw[aB]at h;replace h:=(aH).mp h)
  exact h.imp id ax.mp,ff aJ⟩
 unfold dt
 split
 ·exact⟨fun k h=>.inl h,cN _,cN _⟩
 ·split
  ·exact⟨add.1,cN _,add.2⟩
  ·split
   ·exact⟨add.1,aY _,add.2⟩
   ·exact⟨fun k h=>.inl h,cN _,cN _⟩
theorem kp{E:List (String×cD)}:∀(T:List String) (x:DL),(∀k∈(T.foldl (dt E) x).M.map (fun y=>y.1),k∈x.M.map (fun y=>y.1)∨k∈T)∧(T.foldl (dt E) x).sh≤x.sh+T.length∧(T.foldl (dt E) x).M.length≤x.M.length+T.length
 |[],x=>⟨fun k h=>.inl h,aY _,aY _⟩
 |t::T,x=>by
  refine oO (kp (E:=E) T (dt E x t)) fun a b c=>?_
  refine oO (xr (E:=E) (x:=x) (t:=t)) fun a' b' c'=>?_
  refine⟨fun k h=>?_,?_,?_⟩
  ·rcases a k h with h|h
   ·exact(a' k h).imp id fun(h:k=t)=>h▸pQ
   ·exact .inr (br _ h)
  ·(erw[bI,dU]);lia
  ·(erw[bI,dU]);lia
variable{d:Nat}{H H₀:MH}{X:bQ}{A:fR}
theorem Ow{m:Int}(h:m=0∨m=1){P:MV→MH→Prop}(q:P (.int m) H):U (iX (.int m) "bit_length" []) H P:=by
 rcases h with rfl|rfl
 ·exact U.of (fun z_=>rfl) q
 ·exact U.of (fun z_=>rfl) q
theorem CY{i:Int}:iV dz H (.int i) "bit_length"=some none:=rfl
theorem yI{M:fO}{t:String}(h:t∉M.map fun y=>y.1)(s:Nat):jf (ag t) (OR s) (lc M)=lc (M++[(t,s)]):=by
 have e1:lc M=(M.map fun x=>(x.1,OR x.2)).map fun x=>(ag x.1,x.2):=by(erw[bc]);rfl
 (erw[e1];rw[sy (by rw[bc];exact h)])
 unfold lc
 (erw[aB,aB,bc]);rfl
structure Ty(p m:Nat)(H:MH)(x:DL)(L:dn)(H':MH):Prop where
 mo:Mo (· =m) H H'
 wa:L 129=some (.ref p)
 ma:L 82=some (.ref m)
 de:L 25=some (.int x.df)
 sh:L 110=some (.int (x.sh:Nat))
 at_:H'[m]?=some (.dict (fW (lc x.M)))
theorem Gb{M:fO}:(fW (lc M)).length=M.length:=(aj ..).trans (aj ..)
theorem Fc{T:List String}(nd:T.Nodup){t:String}{i:Nat}(h:T[i]?=some t):t∉T.take i:=fun q=>by
 refine fH (bW q) fun j hj=>?_
 have hji:j < i:=av (ai.mp hj).1 (by(erw[cK]);exact nE _ _)
 rw[fZ hji]at hj
 exact absurd ((qY (ai.mp hj).1 nd).mp (hj.trans h.symm)) (aS hji)
theorem xq{p tl:Nat}{D:DW}{T:List String}(wa:fG H p D)(ok:PS (WS D))(ht:H[tl]?=some (.list (eA T)))(hT:T.length≤25)(nd:T.Nodup)(hin:∀t∈T,(aV t D).isSome=true){Q:MV→MH→Prop}
 (k:∀H' m,Gr H H'→H'[m]?=some (.dict (fW (lc (vN (WS D) T).M)))→Q (.tup [.ref m,.int (vN (WS D) T).df]) H'):WC (cn (d+1)) 1445 [.ref p,.ref tl] H Q:=by
 have hl:=kT T
 refine bC JG rfl (au rfl (bn fun m H₁ n0=>sq (sq (sq (wQ (Em (n0.gr.at ht)) (ah hT (by decide)) fun s2 H₂ n1=>?_)))))
 have g1:=n0.gr.trans n1.gr
 have hne:s2≠m:=cj (av (dm n0.at_) n1.le)
 have wa2:=wa.gr g1
 have hpm:p≠m:=aS (av (dm wa.at_) n0.le)
 have hD:∀x∈D,x.2.1≠m:=fun x hx=>aS (av (dm (wa.inst x hx)) n0.le)
 refine cE (vs:=eA (dC T)) (fun i L H'=>Ty p m H₂ (((dC T).take i).foldl (dt (WS D)) ⟨[],1,1⟩) L H') ⟨Mo.refl _ _,rfl,rfl,rfl,rfl,n1.gr.at n0.at_⟩ (fun i L H hI=>hI.mo.at n1.at_ hne) (fun i y L H₃ hy hI K kk=>?_) fun L H₃ hI=>?_
 ·have hIl:=kp (E:=WS D) ((dC T).take i) ⟨[],1,1⟩
  have tl25:((dC T).take i).length≤25:=by(erw[cK]);lia
  replace hy:=(aq)▸hy
  obtain⟨t,hti,rfl⟩:=az.mp hy
  have tk:((dC T).take (i+1)).foldl (dt (WS D)) ⟨[],1,1⟩=dt (WS D) (((dC T).take i).foldl (dt (WS D)) ⟨[],1,1⟩) t:=by
   (erw[aO,hti,hJ]);rfl
  have hnt:t∉(((dC T).take i).foldl (dt (WS D)) ⟨[],1,1⟩).M.map fun y=>y.1:=fun q=>(hIl.1 t q).elim (fun q=>by cases q) (Fc (ko nd) hti)
  replace kk:=kk.next
  replace kk:=(tk)▸kk
  revert hI hIl hnt kk
  generalize(((dC T).take i).foldl (dt (WS D)) ⟨[],1,1⟩)=x
  rintro⟨mo,f1,f2,f3,f4,f5⟩ ⟨hk1,hk2,hk3⟩ hnt kk
  obtain⟨⟨r,w⟩,hx⟩:=dk.mp (hin t (fw.mp (ak hti)))
  have hDx:=fy hx
  have wa3:H₃[p]?=some (.dict (fW (lY D))):=mo.at wa2.at_ hpm
  have n1':r≠m:=hD _ hDx
  have hi:H₃[r]?=some (iY w):=mo.at (wa2.inst _ hDx) n1'
  have gi:bp H₃ (.ref p) (.str (ag t))=some (.ref r):=eJ wa3 rfl (by(rw[l0,qm];erw[hx]);rfl)
  have hlw:aV t (WS D)=some w:=by(rw[x9];erw[hx]);rfl
  have hv:w.value=0∨w.value=1:=(ok _ (fy hlw)).1
  have hmo:w.most=0∨w.most=1:=(ok _ (fy hlw)).2
  have hsh:x.sh≤26:=ah hk2 (ah (eS tl25 1) (by decide))
  have hml:(fW (lc x.M)).length≤1000:=by(erw[Gb]);exact ah hk3 (ah (eS tl25 0) (by decide))
  have est:dt (WS D) x t=if(!w.own&&w.value==1)=true then{x with M:=x.M++[(t,0)]}
   else if w.own=true then⟨x.M++[(t,x.sh)],bg x.df ((w.value.toNat*2^x.sh:Nat):Int),x.sh+1⟩else x:=by unfold dt;(erw[hlw];with_reducible rfl)
  replace kk:=(est)▸kk
  refine ay f1 (au gi (sq (au (z7 hi) (gQ (fun ho=>au (sY hi) ?_) fun ho=>?_))))
  ·replace ho:w.own=false:=by revert ho;cases w.own<;>intro h<;>first|rfl|exact Bool.noConfusion h
   replace kk:=(ho)▸kk
   rcases hv with hv|hv
   ·rw[hv]at kk ⊢
    have gow:aN dz H₃ (.ref r) "has_own"=some (.bool false):=(z7 hi).trans (by(erw[ho];with_reducible rfl))
    have gva:aN dz H₃ (.ref r) "value"=some (.int 0):=(sY hi).trans (by(erw[hv];with_reducible rfl))
    exact au gow (au gva (kk _ _ ⟨mo,f1,f2,f3,f4,f5⟩))
   ·rw[hv]at kk ⊢
    refine ay f2 (lT f5 rfl (jO _ _ _) hml (kk _ _ ⟨mo.setN (.inl rfl),f1,f2,f3,f4,?_⟩))
    exact(cB f5).trans (congrArg (fun l=>some (MO.dict (fW l))) (yI hnt 0))
  ·replace ho:w.own=true:=by revert ho;cases w.own<;>intro h<;>first|rfl|exact Bool.noConfusion h
   rw[ho]at kk
   have hbits:(if(1:Int) < w.most then w.most else 1)=1:=by rcases hmo with h|h<;>(erw[h])<;>decide
   have hval:w.value=((w.value.toNat:Nat):Int):=by rcases hv with h|h<;>(erw[h])<;>rfl
   have hvs:w.value.toNat < 1000000:=by rcases hv with h|h<;>(erw[h])<;>decide
   have gow:aN dz H₃ (.ref r) "has_own"=some (.bool true):=(z7 hi).trans (by(erw[ho];with_reducible rfl))
   refine au gow (au gow (au (Bo hi) (sq (au CY (Ow hmo (LX ?_))))))
   (erw[hbits])
   refine sq (ay f4 (ay f2 (lT f5 rfl (jO _ _ _) hml (sq (ay f3 (au (sY (fQ hi n1'.symm)) (ay f4 ?_)))))))
   show U (gT .LShift (.int w.value) (.int (x.sh:Nat))) _ _
   (erw[hval])
   refine GY hvs (ah hsh (by decide)) (sq (ay f4 (kk _ _ ⟨mo.setN (.inl rfl),f1,f2,rfl,rfl,?_⟩)))
   exact(cB f5).trans (congrArg (fun l=>some (MO.dict (fW l))) (yI hnt x.sh))
 ·rw[aj,aZ]at hI
  obtain⟨mo,f1,f2,f3,f4,f5⟩:=hI
  have hb:=(kp (E:=WS D) (dC T) ⟨[],1,1⟩).2.1
  have hb2:((dC T).foldl (dt (WS D)) ⟨[],1,1⟩).sh≤31:=ah hb (by dsimp only;omega)
  exact sq (ay f4 (LE (fu.mpr (mT.mpr hb2)) (sq (ay f2 (ay f3 (k H₃ m ((g1.mo.trans mo).weaken fun y hy q=>aC.mpr n0.le (q▸hy)) f5))))))
end
section
noncomputable def iP:List (List String):=[["ccmp","locl","ltra","ltrm","rtla","rtlm"],["isol"],["fina"],["medi"],["init"],["rlig"]]
noncomputable def qr:List String:=["ccmp","locl","ltra","ltrm","rtla","rtlm","isol","fina","medi","init","rlig"]
noncomputable def eE(ar:Bool)(T:List String):List (List String):=if ar=true then(iP.map fun s=>s.filter fun t=>T.contains t)++[T.filter fun t=>!qr.contains t]else[T]
structure Lg(H:MH)(q:Nat)(P:List (List String)):Prop where
 at_:∃ws,H[q]?=some (.list ws)∧ws.length=P.length∧∀(i:Nat) T,P[i]?=some T→∃r:Nat,ws[i]?=some (.ref r)∧H[r]?=some (.list (eA T))
theorem Lg.gr{H H':MH}{q:Nat}{P:List (List String)}(h:Lg H q P)(g:Gr H H'):Lg H' q P:=by
 refine dH h.at_ fun ws h1 h2 h3=>?_
 exact⟨ws,g.at h1,h2,fun i T e=>by refine aM (h3 i T e) fun r a b=>?_;exact⟨r,a,g.at b⟩⟩
variable{d:Nat}{H H₀:MH}{X:bQ}{A:fR}
theorem sS{r:Nat}{T:List String}{t:String}(h:H[r]?=some (.list (eA T))):rd H (.str (ag t)) (.ref r)=some (T.contains t):=by
 unfold rd
 dsimp only
 (erw[h])
 show(je (eA T)).map _=_
 (erw[(show je (eA T)=some (T.map ag)from oe T)])
 exact congrArg some (BC T t)
theorem KN{r:Nat}{T:List String}{t:String}(h:H[r]?=some (.list (eA T))):nB H .In (.str (ag t)) (.ref r)=some (T.contains t):=sS h
theorem Go{r:Nat}{T:List String}{t:String}(h:H[r]?=some (.list (eA T))):nB H .NotIn (.str (ag t)) (.ref r)=some (!T.contains t):=congrArg (dg (!·)) (sS h)
theorem u1{v:MV}{T:List String}{c:String→Bool}{ok:PM Bool}{L₀:dn}{Q:aT (List MV)}(hsz:iR H v=T.length)(hit:∀i,cW H v i=some (eA T)[i]?)(G:dn→Prop)(h0:G L₀)
 (step:∀t∈T,∀L,G L→∀K:aT Bool,K (c t) (sN 120 (.str (ag t)) L) H→ok.wp (sN 120 (.str (ag t)) L) H K) (hG:∀t L,G L→G (sN 120 (.str (ag t)) L)) (fin:∀L,G L→Q (eA (T.filter c)) L H):
 tK v (gu 120) ok (fg (ae 120)) L₀ H Q:=by
 refine yL (vs:=eA T) (fun i acc L H'=>H'=H∧G L∧acc=eA ((T.take i).filter c)) ⟨rfl,h0,rfl⟩ (hsz.trans (aj ..).symm) (fun i acc L H' hI=>hI.1▸hit i) (fun i y acc L H' hy hI K k0 k1=>?_) fun acc L H' hI=>?_
 ·obtain⟨rfl,h2,rfl⟩:=hI
  rw[aq]at hy
  obtain⟨t,ht,rfl⟩:=az.mp hy
  have tk:T.take (i+1)=T.take i++[t]:=by(erw[aO,ht]);rfl
  refine step t (ak ht) L h2 _ (gQ (fun hc=>k1 _ _ _ ⟨rfl,hG t L h2,?_⟩) fun hc=>k0 _ _ ⟨rfl,hG t L h2,?_⟩)
  ·(erw[tk];rw[cV];erw[bG hc]);unfold eA;(erw[aB]);rfl
  ·(erw[tk];rw[cV,bH (by rw[hc];exact Bool.noConfusion)]);unfold eA;(erw[aB]);exact(bk _).symm
 ·obtain⟨rfl,h2,rfl⟩:=hI
  (rw[aj];erw[aZ])
  exact fin L h2
structure Tz(tl:Nat)(T:List String)(H:MH)(i:Nat)(acc:List MV)(L:dn)(H':MH):Prop where
 gr:Gr H H'
 ta:L 121=some (.ref tl)
 ln:acc.length=i
 ac:∀(j:Nat) (s:List String),j < i→iP[j]?=some s→∃r:Nat,acc[j]?=some (.ref r)∧H'[r]?=some (.list (eA (s.filter fun t=>T.contains t)))
theorem yF{T:List String}{c:String→Bool}{n:Nat}(h:T.length≤n)(hn:n≤1000:=by decide):(eA (T.filter c)).length≤1000:=by
 rw[aj];exact ah (bB _ _) (ah h hn)
theorem pW{s:List String}(h:s∈iP):s.length≤6:=by
 have:(iP.all fun s=>decide (s.length≤6))=true:=by decide
 exact of_decide_eq_true (bd.mp this s h)
theorem qE{tl:Nat}{T:List String}{ar:Bool}(ht:H[tl]?=some (.list (eA T)))(hT:T.length≤60){Q:MV→MH→Prop}(k:∀H' q,Gr H H'→Lg H' q (eE ar T)→Q (.ref q) H'):WC (cn (d+2)) 1478 [cc ar,.ref tl] H Q:=by
 refine bC JF rfl (.of_eq (oo ar) ?_)
 cases ar with
 |false=>
  refine oE (oV ht) (by rw[aj];exact ah hT (by decide)) fun p1 H₁ n1=>bn fun p2 H₂ n2=>k _ _ (n1.gr.trans n2.gr) ⟨_,n2.at_,rfl,fun i S hS=>?_⟩
  (refine d9 (mx (show[T][i]?=some S from hS)) fun q0_ q1_=>?_;subst q0_;subst q1_)
  exact⟨p1,rfl,n2.gr.at n1.at_⟩
 |true=>
  refine sq ?_
  refine pD (vs:=iP.map fun s=>.tup (eA s)) (fun i acc L H'=>Tz tl T H i acc L H') ⟨Gr.refl _,rfl,rfl,fun j s hj=>absurd hj (fS _)⟩ (fun i y acc L H₁ hy hI K k0 k1=>?_) fun acc L H₁ hI=>?_
  ·obtain⟨g1,f1,e1,e2⟩:=hI
   rw[aq]at hy
   (refine gh hy fun s hs q0_=>?_;subst q0_)
   refine u1 (T:=s) (c:=fun t=>T.contains t) (aj ..) (fun i=>rfl) (fun L=>L 121=some (.ref tl)) f1 (fun t z_ L hL K q=>ay hL (au (KN (g1.at ht)) (gQ (fun hc=>by rw[hc]at q;exact q) fun hc=>by rw[hc]at q;exact q))) (fun t L hL=>hL) fun L' hL=>⟨yF (pW (ak hs)),bn fun r H₂ n2=>k1 _ _ _ ⟨g1.trans n2.gr,f1,by(erw[aJ,e1]);rfl,fun j s' hj hs'=>?_⟩⟩
   by_cases hji:j < i
   ·obtain⟨r,r1,r2⟩:=e2 j s' hji hs'
    exact⟨r,by(erw[aI (e1▸hji)]);exact r1,n2.gr.at r2⟩
   ·have:j=i:=fT (fX hj) (aC.mp hji)
    subst this
    rw[hs]at hs';(obtain rfl:=ab hs';clear hs')
    exact⟨r,by(erw[←e1,cC];with_reducible rfl),n2.at_⟩
  ·obtain⟨g1,f1,e1,e2⟩:=hI
   have e1':acc.length=6:=e1
   refine⟨by(erw[e1']);decide,bn fun fq H₂ n2=>sq ?_⟩
   refine pD (vs:=iP.map fun s=>.tup (eA s)) (fun i acc L H'=>H'=H₂∧acc=eA (iP.take i).flatten) ⟨rfl,rfl⟩ (fun i y acc L H' hy hI K k0 k1=>?_) fun acc' L' H' hI=>?_
   ·obtain⟨rfl,rfl⟩:=hI
    rw[aq]at hy
    obtain⟨s,hs,rfl⟩:=az.mp hy
    refine pD (vs:=eA s) (fun i acc L H₂=>H₂=H'∧acc=eA (s.take i)) ⟨rfl,rfl⟩ (fun j y acc L H₂ hy hI K k0 k1=>?_) fun acc L H₂ hI=>?_
    ·obtain⟨rfl,rfl⟩:=hI
     replace hy:=(aq)▸hy
     obtain⟨t,ht,rfl⟩:=az.mp hy
     exact k1 _ _ _ ⟨rfl,by(erw[aO,ht]);unfold eA;(erw[aB]);rfl⟩
    ·obtain⟨rfl,rfl⟩:=hI
     refine k1 _ _ _ ⟨rfl,?_⟩
     (rw[aj];erw[aZ,aO,hs,List.flatten_append])
     (erw[aB])
     exact congrArg _ (congrArg _ (bk s).symm)
   (refine d9 hI fun q0_ q1_=>?_;subst q0_;subst q1_;clear hI)
   refine⟨aA rfl,bn fun eq H₃ n3=>sq ?_⟩
   have g3:=(g1.trans n2.gr).trans n3.gr
   have he:H₃[eq]?=some (.list (eA qr)):=n3.at_
   refine u1 (T:=T) (c:=fun t=>!qr.contains t) ((pX (g3.at ht)).trans (aj ..)) (fun i=>qf (g3.at ht) i) (fun L=>L 30=some (.ref eq)) rfl (fun t z_ L hL K q=>ay hL (au (Go he) (gQ (fun hc=>by rw[hc]at q;exact q) fun hc=>by rw[hc]at q;exact q))) (fun t L hL=>hL) fun L' hL=>⟨yF hT,bn fun lq H₄ n4=>bn fun pq H₅ n5=>?_⟩
   refine G3 (n5.gr.at (n4.gr.at (n3.gr.at n2.at_))) n5.at_ (by(erw[e1']);exact aA rfl) fun oq H₆ n6=>?_
   have g6:=(n4.gr.trans n5.gr).trans n6.gr
   refine k _ _ (g3.trans g6) ⟨_,n6.at_,by(erw[aJ,e1']);rfl,fun i S hS=>?_⟩
   by_cases hi:i < 6
   ·have hSi:(iP.map fun s=>s.filter fun t=>T.contains t)[i]?=some S:=by
     (erw[←hS]);exact(aI hi).symm
    replace hSi:=(aq)▸hSi
    obtain⟨s,hs,rfl⟩:=az.mp hSi
    refine aM (e2 i s hi hs) fun r r1 r2=>?_
    exact⟨r,by(erw[aI (e1'.symm▸hi)]);exact r1,g6.at (n3.gr.at (n2.gr.at r2))⟩
   ·have hS':[T.filter fun t=>!qr.contains t][i - 6]?=some S:=by
     (erw[←hS]);exact(aX (l₁:=iP.map fun s=>s.filter fun t=>T.contains t) (show 6≤i from aC.mp hi)).symm
    (refine d9 (mx hS') fun h0 q0_=>?_;first|apply dE q0_|apply d6 q0_)
    refine⟨lq,?_,n6.gr.at (n5.gr.at n4.at_)⟩
    (erw[aX (e1'.symm▸aC.mp hi),e1',h0]);rfl
end
section
theorem ot(i:Int):∀L:List Int,(tY i L).Perm (i::L)
 |[]=>jd _
 |j::r=>by
  unfold tY
  split
  ·exact jd _
  ·exact((ot i r).cons j).trans (L9 i j r)
theorem jn:∀L:List Int,(jR L).Perm L
 |[]=>jd _
 |i::r=>(ot i _).trans ((jn r).cons i)
theorem yl(i:Int):∀L:List Int,L.Pairwise (· ≤ ·)→(tY i L).Pairwise (· ≤ ·)
 |[],_=>bX _ _
 |j::r,h=>by
  replace h:=(bz).mp h
  unfold tY
  set_option tactic.hygienic true in split
  ·next hij=>
   have hij':i≤j:=hij
   refine bz.mpr ⟨fun a ha=>?_,bz.mpr h⟩
   rcases aF.mp ha with rfl|ha
   ·exact hij'
   ·exact kh hij' (h.1 a ha)
  ·next hij=>
   have hij':¬i≤j:=hij
   refine bz.mpr ⟨fun a ha=>?_,yl i r h.2⟩
   rcases aF.mp ((ot i r).mem_iff.mp ha)with rfl|ha
   ·omega
   ·exact h.1 a ha
theorem uw:∀L:List Int,(jR L).Pairwise (· ≤ ·)
 |[]=>List.Pairwise.nil
 |i::r=>yl i _ (uw r)
theorem tB:∀{a b:List Int},a.Pairwise (· < ·)→b.Pairwise (· < ·)→(∀x,x∈a↔x∈b)→a=b
 |[],[],_,_,_=>rfl
 |[],y::b,_,_,h=>absurd ((h y).mpr (.head _)) bR
 |x::a,[],_,_,h=>absurd ((h x).mp (.head _)) bR
 |x::a,y::b,ha,hb,h=>by
  rw[bz]at ha hb
  have hxy:x=y:=by
   have h1:=(h x).mp (.head _)
   have h2:=(h y).mpr (.head _)
   rcases aF.mp h1 with h1|h1
   ·exact h1
   ·rcases aF.mp h2 with h2|h2
    ·exact h2.symm
    ·have:=hb.1 x h1
     have:=ha.1 y h2
     omega
  apply dE hxy
  rw[tB ha.2 hb.2 fun z=>?_]
  constructor
  ·intro hz
   rcases aF.mp ((h z).mp (br _ hz))with rfl|h1
   ·have:=ha.1 z hz;omega
   ·exact h1
  ·intro hz
   rcases aF.mp ((h z).mpr (br _ hz))with rfl|h1
   ·have:=hb.1 z hz;omega
   ·exact h1
theorem zy{L:List Int}{N:Nat}{c:Nat→Bool}(nd:L.Nodup)(h:∀x,x∈L↔∃n:Nat,n < N∧c n=true∧x=n):jR L=((aE N).filter c).map fun(n:Nat)=>(n:Int):=by
 refine tB ?_ ?_ fun x=>?_
 ·have h1:=uw L
  have h2:(jR L).Nodup:=(jn L).symm.nodup nd
  have:=h1.and h2
  exact this.imp fun hab=>by omega
 ·(refine(List.pairwise_map).mpr ?_)
  refine Hk ?_ ((List.pairwise_lt_range (n:=N)).filter c)
  intro a b hab;exact dd.mpr ‹_›
 ·rw[(jn L).mem_iff,h,aU]
  constructor
  ·rintro⟨n,h1,h2,rfl⟩
   exact⟨n,bt.mpr ⟨cg.mpr h1,h2⟩,rfl⟩
  ·rintro⟨n,h1,rfl⟩
   refine d9 (bt.mp h1) fun h2 h3=>?_
   exact⟨n,cg.mp h2,h3,rfl⟩
structure iH(X:bQ):Prop where
 fl:X.feats.length≤5
 fp:∀f∈X.feats,f.1∈d5∧f.2.length≤2∧∀n∈f.2,n < X.maps.length
 ml:X.maps.length≤6
 mo:∀es∈X.maps,jt es
 rq:X.req < X.feats.length
 wi:oB X.wish
noncomputable def pZ(X:bQ):Option (String×List Nat):=if 0≤X.req then X.feats[X.req.toNat]? else none
noncomputable def jD(X:bQ):Int:=match pZ X with
 |none=> -1
 |some f=>if X.arab=true then stageL f.1 else 0
variable{d:Nat}{H H₀:MH}{X:bQ}{A:fR}
theorem uH(ok:iH X):(pZ X=none∧¬0≤X.req)∨∃(n:Nat) (f:String×List Nat),pZ X=some f∧X.req=n∧X.feats[n]?=some f:=by
 by_cases h:0≤X.req
 ·refine .inr ⟨X.req.toNat,X.feats[X.req.toNat]'(by have:=ok.rq;omega),?_,by omega,an _⟩
  unfold pZ;(erw[if_pos h]);exact an _
 ·exact .inl ⟨by unfold pZ;(erw[if_neg h];with_reducible rfl),h⟩
theorem kr(F:dw H₀ X A)(g:Gr H₀ H)(ok:iH X){Q:MV→MH→Prop}(k0:pZ X=none→Q .none H)(k1:∀(f:String×List Nat) (r r2:Nat),pZ X=some f→H₀[r]?=some (.inst 1951 [("tag",.str f.1),("lookups",.ref r2)])→H₀[r2]?=some (.list (cJ f.2))→f∈X.feats→Q (.ref r) H):WC (cn (d+2)) 1309 [.ref A.lay,.ref A.ls] H Q:=by
 have ga:aN dz H (.ref A.ls) "required"=some (.int (if 0≤X.req then X.req else -1)):=(aG (g.at F.ls) (by kernel_rfl)).trans (by kernel_rfl)
 refine bC JQ rfl (au nz (sq ?_))
 rcases uH ok with⟨h1,h2⟩|⟨n,f,h1,h2,h3⟩
 ·rw[if_neg h2]at ga
  exact au ga (wB (k0 h1))
 ·rw[if_pos (h2▸bY n),h2]at ga
  exact au ga (qS F g h3 (ah ok.fl (by decide)) fun r r2 c2 c3=>k1 f r r2 h1 c2 c3 (ak h3))
theorem Lb{p:Nat}{L:List Int}{x:Int}{i:Nat}{P:MV→MH→Prop}(h:H[p]?=some (.list (L.map .int)))(hi:wo x L 0=some i)(hn:L.length≤1000)(q:P (.int i) H):U (iX (.ref p) "index" [.int x]) H P:=U.of (fun l=>by
 unfold iX
 dsimp only
 (erw[h])
 dsimp only
 (rw[if_neg (fun e=>absurd (fF.mp e) (by decide)),if_neg (fun e=>absurd (fF.mp e) (by decide))];erw[if_pos rfl])
 show(gY (L.map MV.int)).bind _=_
 rw[jT]
 show(if gj L.length=true then none else dg _ (wo x L 0))=_
 (erw[jH hn,hi]);rfl) q
theorem xK{t:String}(h:t∈d5)(ar:Bool):wo 1 ((eE ar [t]).map fun s=>((s.length:Nat):Int)) 0=some (if ar=true then stageL t else 0):=by
 have:(d5.all fun t=>[true,false].all fun ar=>decide (wo 1 ((eE ar [t]).map fun s=>((s.length:Nat):Int)) 0=some (if ar=true then stageL t else 0)))=true:=by decide+kernel
 exact of_decide_eq_true (bd.mp (bd.mp this t h) ar (by cases ar<;>decide))
theorem qa(ar:Bool)(T:List String):(eE ar T).length=if ar=true then 7 else 1:=by cases ar<;>rfl
theorem xJ{ar:Bool}{T S:List String}(h:S∈eE ar T)(hT:T.length≤60):S.length≤60:=by
 cases ar with
 |false=>(erw[ax.mp h]);exact hT
 |true=>
  rcases aH.mp h with h|h
  ·obtain⟨s,hs,rfl⟩:=aU.mp h
   exact ah (bB _ _) (ah (pW hs) (by decide))
  ·(erw[ax.mp h]);exact ah (bB _ _) hT
theorem q7(F:dw H₀ X A)(g:Gr H₀ H)(ok:iH X){Q:MV→MH→Prop}(k:∀H',Gr H H'→Q (.int (jD X)) H'):WC (cn (d+3)) 1483 [.ref A.lay,.ref A.ls,cc X.arab] H Q:=by
 refine bC JE rfl (au nz (kr F g ok (fun h1=>sq (au ky ?_)) fun f r r2 h1 h3 h4 h5=>sq (au nz ?_)))
 ·have:=k H (Gr.refl _)
  rw[show jD X= -1 by unfold jD;(erw[h1];with_reducible rfl)]at this;exact this
 ·have ers:jD X=((if X.arab=true then stageL f.1 else 0:Nat):Int):=by unfold jD;(erw[h1]);cases X.arab<;>rfl
  rw[ers]at k
  have gt:aN dz H (.ref r) "tag"=some (.str (ag f.1)):=(aG (g.at h3) (by kernel_rfl)).trans (by kernel_rfl)
  refine sq (au gt (bn fun tl H₀' n0=>qE (T:=[f.1]) n0.at_ (aA rfl) fun H₁ q g1 hq=>?_))
  refine dH hq.at_ fun ws w1 w2 w3=>?_
  have hl:=qa X.arab [f.1]
  refine dG (vs:=ws) (fun i acc L H'=>H'=H₁∧acc=(((eE X.arab [f.1]).take i).map fun s=>((s.length:Nat):Int)).map .int) ⟨rfl,rfl⟩ (fun i acc L H hI=>hI.1▸w1) (fun i y acc L H' hy hI K k0 k1=>?_) fun acc L H' hI=>?_
  ·obtain⟨rfl,rfl⟩:=hI
   have hP:(eE X.arab [f.1])[i]?=some ((eE X.arab [f.1])[i]'(w2▸(ai.mp hy).1)):=an _
   refine aM (w3 i _ hP) fun r r1 r2=>?_
   rw[r1]at hy;(obtain rfl:=ab hy;clear hy)
   exact fj ((cw r2).trans (congrArg some (aj ..))) (ah (xJ (ak hP) (aA rfl)) (by decide)) (k1 _ _ _ ⟨rfl,by(erw[aO,hP,aB,aB]);rfl⟩)
  ·obtain⟨rfl,rfl⟩:=hI
   (erw[w2,aZ])
   have h7:((eE X.arab [f.1]).map fun s=>((s.length:Nat):Int)).length≤1000:=by(rw[aj];erw[hl]);split<;>decide
   exact⟨by rw[aj];exact h7,bn fun p H₂ n2=>au (gK n2.at_ rfl) (Lb n2.at_ (xK (ok.fp f h5).1 X.arab) h7 (k _ ((n0.gr.trans g1).trans n2.gr)))⟩
end
section
noncomputable def Hr(C:List Int):Int:=C.foldl bg 0
noncomputable abbrev qA:=Nat→List Int
noncomputable def rh(lk:List Nat)(m:Int)(n:Nat):List Int:=(lk.filter (· ==n)).map fun z_=>m
structure GD(N:Nat)(C:qA)(L:List (Int×MV)):Prop where
 nd:(L.map fun x=>x.1).Nodup
 ks:∀k:Int,k∈L.map (fun x=>x.1)→∃n:Nat,n < N∧k=(n:Int)
 lo:∀n:Nat,i7 n L=if(C n).isEmpty=true then none else some (.int (Hr (C n)))
theorem uJ{k:Int}{v:MV}{L:List (Int×MV)}:(mn k v L).map (fun x=>x.1)=if k∈L.map (fun x=>x.1)then L.map (fun x=>x.1)else L.map (fun x=>x.1)++[k]:=by
 induction L with
 |nil=>rfl
 |cons a r ih=>
  obtain⟨s,u⟩:=a
  unfold mn
  by_cases h:s=k
  ·apply dE h
   rw[if_pos rfl,if_pos (by exact .head _)];rfl
  ·(erw[if_neg h,bj,ih])
   by_cases h2:k∈r.map fun x=>x.1
   ·(erw[if_pos h2];rw[if_pos (by rw[bj];exact br _ h2)]);rfl
   ·(erw[if_neg h2];rw[if_neg (by rw[bj,aF];exact fun q=>q.elim (fun q=>h q.symm) h2)]);rfl
theorem GD.put{N:Nat}{C:qA}{L:List (Int×MV)}(h:GD N C L){n:Nat}(hn:n < N)(m:Int):GD N (fun j=>if j=n then C n++[m]else C j) (mn n (.int (bg (Hr (C n)) m)) L):=by
 refine⟨?_,?_,fun j=>?_⟩
 ·(erw[uJ])
  set_option tactic.hygienic true in split
  ·exact h.nd
  ·next hk=>
   (refine(dL).mpr ?_)
   exact⟨h.nd,bX _ _,fun a ha b hb=>by rw[ax]at hb;apply d6 hb;exact fun q=>hk (q▸ha)⟩
 ·(erw[uJ])
  set_option tactic.hygienic true in split
  ·exact h.ks
  ·intro k hk
   rcases aH.mp hk with hk|hk
   ·exact h.ks k hk
   ·rw[ax]at hk;exact⟨n,hn,hk⟩
 ·(erw[lG])
  by_cases e:j=n
  ·apply dE e
   (erw[if_pos rfl,if_pos rfl];rw[if_neg (by rw[cZ];exact List.append_ne_nil_of_right_ne_nil _ (List.cons_ne_nil _ _))])
   unfold Hr;(erw[hJ]);rfl
  ·(erw[if_neg fun q=>e (Int.ofNat_inj.mp q).symm,if_neg e];rw[h.lo])
theorem GD.look{N:Nat}{C:qA}{L:List (Int×MV)}(h:GD N C L)(n:Nat):(i7 n L).getD (.int 0)=.int (Hr (C n)):=by
 rw[h.lo]
 set_option tactic.hygienic true in split
 ·next e=>(erw[cZ.mp e]);rfl
 ·rfl
theorem sM{c:Int}{L:List (Int×MV)}:i7 c L=none↔c∉L.map fun x=>x.1:=by
 induction L with
 |nil=>exact⟨fun z_=>bR,fun z_=>rfl⟩
 |cons a r ih=>
  obtain⟨s,u⟩:=a
  unfold i7
  by_cases h:s=c
  ·apply dE h;(erw[if_pos rfl]);exact⟨fun q=>(by cases q),fun q=>absurd (List.Mem.head _) q⟩
  ·(erw[if_neg h];rw[ih];erw[bj];rw[aF,not_or]);exact⟨fun q=>⟨fun e=>h e.symm,q⟩,fun q=>q.2⟩
theorem GD.sort{N:Nat}{C:qA}{L:List (Int×MV)}(h:GD N C L):jR (L.map fun x=>x.1)=((aE N).filter fun n=>!(C n).isEmpty).map fun(n:Nat)=>(n:Int):=by
 refine zy h.nd fun x=>?_
 constructor
 ·intro hx
  (refine aM (h.ks x hx) fun n hn q0_=>?_;subst q0_)
  refine⟨n,hn,?_,rfl⟩
  have h1:=h.lo n
  cases e:(C n).isEmpty with
  |false=>rfl
  |true=>(replace h1:=(e)▸h1;rw[if_pos rfl]at h1);exact absurd hx (sM.mp h1)
 ·rintro⟨n,hn,hc,rfl⟩
  have h1:=h.lo n
  rw[dN]at hc
  rw[hc,if_neg (by decide)]at h1
  rcases Classical.em ((n:Int)∈L.map fun x=>x.1)with q|q
  ·exact q
  ·rw[sM.mpr q]at h1;exact bD h1
theorem GD.len{N:Nat}{C:qA}{L:List (Int×MV)}(h:GD N C L):L.length≤N:=by
 have h1:=congrArg BP h.sort
 rw[(jn _).length_eq,aj,aj]at h1
 (erw[h1])
 exact ah (bB _ _) (ff aW)
theorem GD.congr{N:Nat}{C C':qA}{L:List (Int×MV)}(h:GD N C L)(e:∀n,C n=C' n):GD N C' L:=by
 have:C=C':=funext e
 (erw[←this]);exact h
variable{d:Nat}{H H₀:MH}{X:bQ}{A:fR}
noncomputable def pN(H:MH)(m N:Nat)(C:qA):Prop:=∃L,H[m]?=some (.dict (lK L))∧GD N C L
theorem pN.congr{m N:Nat}{C C':qA}(h:pN H m N C)(e:∀n,C n=C' n):pN H m N C':=by
 have:C=C':=funext e
 (erw[←this]);exact h
theorem pN.gr{H':MH}{m N:Nat}{C:qA}(h:pN H m N C)(g:Gr H H'):pN H' m N C:=by(refine aM h fun L a b=>?_;clear h);exact⟨L,g.at a,b⟩
theorem pN.lt{m N:Nat}{C:qA}(h:pN H m N C):m < H.length:=by(refine aM h fun L a b=>?_;clear h);exact dm a
theorem Qe{α β:Type}{l:List α}{f:β→List α}(n:β):l=l++[].flatMap f:=(bk l).symm
structure TQ(A:fR)(m:Nat)(mask:Int)(N:Nat)(H:MH)(C:qA)(L:dn)(H':MH):Prop where
 mo:Mo (· =m) H H'
 ma:L 82=some (.ref m)
 la:L 71=some (.ref A.lay)
 mk_:L 81=some (.int mask)
 gd:pN H' m N C
theorem Dx{lk:List Nat}{m:Int}{i n:Nat}{j:Nat}(h:lk[i]?=some n):rh (lk.take (i+1)) m j=rh (lk.take i) m j++if j=n then[m]else[]:=by
 unfold rh
 (erw[aO,h];rw[cV];erw[aB])
 refine congrArg _ ?_
 show([n].filter (· ==j)).map _=_
 by_cases e:j=n
 ·apply dE e;(erw[if_pos rfl,bG (p:=fun x=>x==j) (beq_self_eq_true j)]);rfl
 ·(erw[if_neg e,bH (p:=fun x=>x==j) fun q=>e (eq_of_beq q).symm]);rfl
theorem pK(F:dw H₀ X A)(g:Gr H₀ H)(ok:iH X){m r r2:Nat}{f:String×List Nat}(hf:f∈X.feats)(h1:H₀[r]?=some (.inst 1951 [("tag",.str f.1),("lookups",.ref r2)]))(h2:H₀[r2]?=some (.list (cJ f.2)))(hm:H₀.length≤m){C:qA}(hC:pN H m X.maps.length C){mask:Int}{Q:MV→MH→Prop}
 (k:∀H',Mo (· =m) H H'→pN H' m X.maps.length (fun n=>C n++rh f.2 mask n)→Q .none H'):WC (cn (d+1)) 1323 [.ref m,.ref A.lay,.ref r,.int mask] H Q:=by
 have ga:aN dz H (.ref r) "lookups"=some (.ref r2):=(aG (g.at h1) (by kernel_rfl)).trans (by kernel_rfl)
 have off:∀{p o},H₀[p]?=some o→p≠m:=fun e=>aS (av (dm e) hm)
 refine dH F.ll fun ws l1 l2 l3=>?_
 have hml:=ok.ml
 refine bC JO rfl (au ga ?_)
 refine cE (vs:=cJ f.2) (fun i L H'=>TQ A m mask X.maps.length H (fun n=>C n++rh (f.2.take i) mask n) L H') ⟨Mo.refl _ _,rfl,rfl,rfl,hC.congr fun n=>(bk _).symm⟩ (fun i L H' hI=>hI.mo.at (g.at h2) (off h2)) (fun i y L H₁ hy hI K kk=>?_) fun L H₁ hI=>?_
 ·obtain⟨mo,f1,f2,f3,⟨M,f4,f5⟩⟩:=hI
  replace hy:=(aq)▸hy
  obtain⟨n,hn,rfl⟩:=az.mp hy
  have hnN:=(ok.fp f hf).2.2 n (ak hn)
  have g1:Gr H₀ H₁:=⟨ah g.1 mo.1,fun p o e z_=>mo.at (g.at e) (off e)⟩
  have gl:aN dz H₁ (.ref A.lay) "lookups"=some (.ref A.ll):=(aG (g1.at F.lay) (by kernel_rfl)).trans (by kernel_rfl)
  refine ay f2 (au gl (fj (n:=X.maps.length) ((cw (g1.at l1)).trans (congrArg some l2)) (ah hml (by decide)) (wn (dd.mpr hnN) (ay f1 (au (gI f4) (jZ f4 rfl (tf n M) ?_))))))
  (erw[f5.look n])
  refine ay f3 (ay f1 (lT f4 rfl (u7 n _ M) (by(erw[s8]);exact ah f5.len (ah hml (by decide))) (kk.next _ _ ⟨mo.setN (.inl rfl),f1,f2,f3,_,cB f4,(f5.put hnN mask).congr fun j=>?_⟩)))
  (erw[Dx hn])
  by_cases e:j=n
  ·apply dE e;(erw[if_pos rfl,if_pos rfl];rw[dM])
  ·(erw[if_neg e,if_neg e];rw[bk])
 ·obtain⟨mo,f1,f2,f3,f4⟩:=hI
  exact k H₁ mo (f4.congr fun n=>by(rw[dx];erw[aZ];with_reducible rfl))
noncomputable def zY(X:bQ)(pl:Nat):List Nat:=match X.feats[pl]? with
 |some f=>f.2
 |none=>[]
noncomputable def KI(X:bQ)(t:String)(m:Int)(n:Nat):List Int:=(Dh X t).flatMap fun pl=>rh (zY X pl) m n
noncomputable def ub(X:bQ)(b:Bool)(n:Nat):List Int:=if b=true then(match pZ X with|some f=>rh f.2 1 n|none=>[])else[]
noncomputable abbrev LW:=List (String×Int)
noncomputable def rg(X:bQ)(Wl:LW)(t:String)(n:Nat):List Int:=match aV t Wl with
 |some m=>if m=0 then[]else KI X t m n
 |none=>[]
noncomputable def ox(X:bQ)(Wl:LW)(b:Bool)(n:Nat):List Int:=ub X b n++(dC (Wl.map fun x=>x.1)).flatMap fun t=>rg X Wl t n
noncomputable def Ks(X:bQ)(Wl:LW)(b:Bool):List (Nat×Int):=((aE X.maps.length).filter fun n=>!(ox X Wl b n).isEmpty).map fun n=>(n,Hr (ox X Wl b n))
noncomputable def rf(Wl:LW):List (Str×MV):=Wl.map fun x=>(ag x.1,.int x.2)
theorem Ga(Wl:LW):(fW (rf Wl)).length=Wl.length:=(aj ..).trans (aj ..)
structure Sv(A:fR)(m wd:Nat)(N:Nat)(H:MH)(C:qA)(L:dn)(H':MH):Prop where
 mo:Mo (· =m) H H'
 ma:L 82=some (.ref m)
 la:L 71=some (.ref A.lay)
 ls:L 67=some (.ref A.ls)
 wi:L 131=some (.ref wd)
 gd:pN H' m N C
theorem K8{p:Nat}{L:List (Int×MV)}{P:MV→MH→Prop}(h:H[p]?=some (.dict (lK L)))(hn:L.length≤60)(q:∀p H',Nu H (.list ((jR (L.map fun x=>x.1)).map .int)) p H'→P (.ref p) H'):U (iG (.builtin "sorted") [.ref p]) H P:=U.of (fun l=>by
 have src:gA H (.ref p)=some ((L.map fun x=>x.1).map .int):=by
  unfold gA;dsimp only;(erw[h])
  unfold lK
  (erw[bc])
  show some ((L.map _).map _)=_
  (erw[bc]);rfl
 show(gA H (.ref p)).bind _=_
 (erw[src])
 show(if 60 < ((L.map fun x=>x.1).map MV.int).length then none else(kU ((L.map fun x=>x.1).map MV.int)).bind _)=_
 rw[if_neg (by rw[aj,aj];exact aC.mpr hn)]
 unfold kU
 rw[jT];rfl) (q _ _ (Nu.mk' _ _))
theorem Kr(F:dw H₀ X A)(g:Gr H₀ H)(ok:iH X){wd:Nat}{Wl:LW}(hw:H[wd]?=some (.dict (fW (rf Wl))))(hl:Wl.length≤30){b:Bool}{Q:MV→MH→Prop}
 (k:∀H' q,Gr H H'→H'[q]?=some (.list (oj (Ks X Wl b)))→Q (.ref q) H'):WC (cn (d+3)) 1329 [.ref A.lay,.ref A.ls,.ref wd,.bool b] H Q:=by
 refine bC JN rfl (au (a:=[]) rfl (bn fun m H₁ n0=>sq ?_))
 have g1:=g.trans n0.gr
 have hf0:H₀.length≤m:=ah g.1 n0.le
 have hwm:wd≠m:=aS (av (dm hw) n0.le)
 have start:pN H₁ m X.maps.length (fun z_=>[]):=⟨[],n0.at_,dp,fun k hk=>absurd hk bR,fun n=>rfl⟩
 have base:∀{H'},Mo (· =m) H₁ H'→Gr H₀ H':=fun mm=>⟨ah g1.1 mm.1,fun p o e z_=>mm.at (g1.at e) (aS (av (dm e) hf0))⟩
 have rest:∀{H₂:MH}{L:dn},Mo (· =m) H₁ H₂→pN H₂ m X.maps.length (ub X b)→L 82=some (.ref m)→L 71=some (.ref A.lay)→L 67=some (.ref A.ls)→L 131=some (.ref wd)→eG (gD ((AS (cn (d+2))).drop 3)) L H₂ (xD Q):=by
  intro H₂ L m2 hC f1 f2 f3 f4
  have hw2:H₂[wd]?=some (.dict (fW (rf Wl))):=m2.at (n0.gr.at hw) hwm
  refine sq (ay f4 (wQ (L:=Wl.map fun x=>x.1) (xi (f:=fun z:Int=>MV.int z) hw2) (by rw[aj];exact ah hl (by decide)) fun sp H₃ n3=>?_))
  have hsm:sp≠m:=(aS (av hC.lt n3.le)).symm
  have m3:Mo (· =m) H₁ H₃:=m2.trans n3.gr.mo
  refine cE (vs:=eA (dC (Wl.map fun x=>x.1))) (fun i L H'=>Sv A m wd X.maps.length H₁ (fun n=>ub X b n++((dC (Wl.map fun x=>x.1)).take i).flatMap fun t=>rg X Wl t n) L H'∧H'[sp]?=some (.list (eA (dC (Wl.map fun x=>x.1))))) ⟨⟨m3,f1,f2,f3,f4,(hC.gr n3.gr).congr fun n=>(bk _).symm⟩,n3.at_⟩ (fun i L H' hI=>hI.2) (fun i y L H₄ hy hI K kk=>?_) fun L H₄ hI=>?_
  ·rw[aq]at hy
   obtain⟨t,hti,rfl⟩:=az.mp hy
   obtain⟨⟨m4,f5,f6,f7,f8,gd⟩,b4⟩:=hI
   have tk:∀n,ub X b n++((dC (Wl.map fun x=>x.1)).take (i+1)).flatMap (fun t=>rg X Wl t n)=(ub X b n++((dC (Wl.map fun x=>x.1)).take i).flatMap (fun t=>rg X Wl t n))++rg X Wl t n:=fun n=>by
    (erw[aO,hti,DN];rw[←dM])
    exact congrArg _ (bk _)
   obtain⟨mk,hmk⟩:∃mk,aV t Wl=some mk:=by
    cases e:aV t Wl with
    |some v=>exact⟨v,rfl⟩
    |none=>exact absurd (fw.mp (ak hti)) (jS.mp e)
   have hwM:∀{H'},Mo (· =m) H₁ H'→H'[wd]?=some (.dict (fW (rf Wl))):=fun mm=>mm.at (n0.gr.at hw) hwm
   have gi:∀{H':MH},H'[wd]?=some (.dict (fW (rf Wl)))→bp H' (.ref wd) (.str (ag t))=some (.int mk):=fun h=>eJ h rfl (by
    rw[l0]
    have:=pu (fun z:Int=>MV.int z) t Wl
    unfold rf
    (erw[this,hmk]);rfl)
   refine ay f8 (au (gi (hwM m4)) ?_)
   by_cases hz:mk=0
   ·subst hz
    have ec:∀n,rg X Wl t n=[]:=fun n=>by unfold rg;(erw[hmk]);exact if_pos rfl
    exact kk.next _ _ ⟨⟨m4,f5,f6,f7,f8,gd.congr fun n=>by rw[tk,ec,bk]⟩,b4⟩
   ·have ec:∀n,rg X Wl t n=KI X t mk n:=fun n=>by unfold rg;(erw[hmk]);exact if_neg hz
    refine Rw (c:=!(mk==0)) (by(erw[beq_eq_false_iff_ne.mpr hz]);rfl) (ay f6 (ay f7 (k9 F (base m4) (ah ok.fl (by decide)) t fun H₅ fq g5 hfl5 hfq=>?_)))
    have hfm:fq≠m:=(aS (av gd.lt hfl5)).symm
    refine cE (vs:=cJ (Dh X t)) (fun j L H'=>(L 120=some (.str (ag t))∧H'[fq]?=some (.list (cJ (Dh X t)))∧H'[sp]?=some (.list (eA (dC (Wl.map fun x=>x.1)))))∧Sv A m wd X.maps.length H₁ (fun n=>(ub X b n++((dC (Wl.map fun x=>x.1)).take i).flatMap (fun t=>rg X Wl t n))++((Dh X t).take j).flatMap fun pl=>rh (zY X pl) mk n) L H') ⟨⟨rfl,hfq,g5.at b4⟩,m4.trans g5.mo,f5,f6,f7,f8,(gd.gr g5).congr fun n=>(bk _).symm⟩ (fun j L H' hI=>hI.1.2.1) (fun j y L H₆ hy hI K kk'=>?_) fun L H₆ hI=>?_
    ·obtain⟨⟨f9,c5,c6⟩,m6,f10,f11,f12,f13,gd6⟩:=hI
     replace hy:=(aq)▸hy
     obtain⟨pl,hpl,rfl⟩:=az.mp hy
     have hplm:pl∈Dh X t:=ak hpl
     have hpln:pl < X.feats.length:=by unfold Dh at hplm;exact cg.mp (bt.mp hplm).1
     have hf:X.feats[pl]?=some X.feats[pl]:=an hpln
     refine dH F.fl fun ws l1 l2 l3=>?_
     refine eW (l3 pl _ hf) fun r r2 c1 c2 c3=>?_
     have g6:Gr H₀ H₆:=base m6
     have ga:aN dz H₆ (.ref A.lay) "features"=some (.ref A.fl):=(aG (g6.at F.lay) (by kernel_rfl)).trans (by kernel_rfl)
     have gf:bp H₆ (.ref A.fl) (.int pl)=some (.ref r):=(cv (g6.at l1) (av hpln (ah ok.fl (by decide)))).trans c1
     refine ay f10 (ay f11 (ay f11 (au ga (au gf (ay f13 (ay f9 (au (gi (hwM m6)) (pK F g6 ok (ak hf) c2 c3 hf0 gd6 fun H₇ m7 gd7=>kk'.next _ _ ⟨⟨f9,m7.at c5 hfm,m7.at c6 hsm⟩,m6.trans m7,f10,f11,f12,f13,gd7.congr fun n=>?_⟩))))))))
     (erw[aO,hpl,DN];rw[←dM])
     refine congrArg _ ?_
     have:zY X pl=X.feats[pl].2:=by unfold zY;(erw[hf];with_reducible rfl)
     (erw[←this]);exact(bk _).symm
    ·obtain⟨⟨f9,c5,c6⟩,m6,f10,f11,f12,f13,gd6⟩:=hI
     exact kk.next _ _ ⟨⟨m6,f10,f11,f12,f13,gd6.congr fun n=>by(rw[tk,ec,dx];erw[aZ]);rfl⟩,c6⟩
  ·obtain⟨⟨m4,f5,f6,f7,f8,gd⟩,b4⟩:=hI
   (refine aM gd fun M a e=>?_;clear gd)
   have e:=e.congr (C':=ox X Wl b) fun n=>by(rw[aj];erw[aZ]);rfl
   have hMl:=e.len
   refine sq (ay f5 (K8 a (ah hMl (ah ok.ml (by decide))) fun kq H₅ n5=>?_))
   have hks:((aE X.maps.length).filter fun n=>!(ox X Wl b n).isEmpty).length≤6:=ah (bB _ _) (by(erw[aW]);exact ok.ml)
   have b1:H₅[kq]?=some (.list (cJ ((aE X.maps.length).filter fun n=>!(ox X Wl b n).isEmpty))):=by
    have:=n5.at_
    rw[e.sort,bc]at this;exact this
   have a5:=n5.gr.at a
   refine dG (vs:=cJ ((aE X.maps.length).filter fun n=>!(ox X Wl b n).isEmpty)) (fun i acc L H'=>H'=H₅∧L 82=some (.ref m)∧acc=oj ((((aE X.maps.length).filter fun n=>!(ox X Wl b n).isEmpty).take i).map fun n=>(n,Hr (ox X Wl b n)))) ⟨rfl,f5,rfl⟩ (fun i acc L H hI=>hI.1▸b1) (fun i y acc L H' hy hI K k0 k1=>?_) fun acc L H' hI=>?_
   ·obtain⟨rfl,f9,rfl⟩:=hI
    rw[aq]at hy
    obtain⟨n,hn,rfl⟩:=az.mp hy
    have hnc:=(bt.mp (ak hn)).2
    rw[dN]at hnc
    have gi:bp H' (.ref m) (.int n)=some (.int (Hr (ox X Wl b n))):=eJ a5 rfl (by(rw[tf,e.lo];erw[hnc]);rfl)
    exact ay f9 (au gi (k1 _ _ _ ⟨rfl,f9,by(erw[aO,hn,aB]);unfold oj;(erw[aB]);rfl⟩))
   ·obtain⟨rfl,f9,rfl⟩:=hI
    (rw[dx];erw[aZ])
    have mm:Mo (· =m) H₁ H':=m4.trans n5.gr.mo
    have gg:Gr H H':=(n0.gr.mo.trans mm).weaken fun x hx q=>aC.mpr n0.le (q▸hx)
    exact⟨by rw[aj,aj];exact ah hks (by decide),bn fun p H₆ n6=>k _ _ (gg.trans n6.gr) n6.at_⟩
 cases b with
 |false=>
  exact sq (au jW (rest (Mo.refl _ _) start rfl rfl rfl rfl))
 |true=>
  refine kr F g1 ok (fun h1=>sq (au jW (rest (Mo.refl _ _) (start.congr fun n=>by unfold ub;(erw[h1]);rfl) rfl rfl rfl rfl))) fun f r r2 h1 h3 h4 h5=>sq (au pE (pK F g1 ok h5 h3 h4 hf0 start fun H₂ m2 gd2=>rest m2 (gd2.congr fun n=>by unfold ub;(erw[h1]);rfl) rfl rfl rfl rfl))
end
section
noncomputable def wV(M:fO)(T:List String):LW:=(T.filter fun t=>(aV t M).isSome).map fun t=>(t,((yz M t:Nat):Int))
noncomputable def lv(X:bQ):List String:=(dC ((eX X.arab X.wish).map fun x=>x.1)).filter (mF X)
noncomputable def j9(X:bQ):DL:=vN (eX X.arab X.wish) (lv X)
noncomputable def o7(X:bQ):List (List (Nat×Int)):=(eE X.arab (lv X)).mapIdx fun i S=>Ks X (wV (j9 X).M S) ((i:Int)==jD X)
variable{d:Nat}{H H₀:MH}{X:bQ}{A:fR}
theorem F9{Wl:LW}{t:String}(h:t∉Wl.map fun y=>y.1)(m:Int):jf (ag t) (.int m) (rf Wl)=rf (Wl++[(t,m)]):=by
 have e1:rf Wl=(Wl.map fun x=>(x.1,MV.int x.2)).map fun x=>(ag x.1,x.2):=by(erw[bc]);rfl
 (erw[e1];rw[sy (by rw[bc];exact h)])
 unfold rf
 (erw[aB,aB,bc]);rfl
structure TJ(A:fR)(pm w:Nat)(b:Bool)(M:fO)(T:List String)(H:MH)(L:dn)(H':MH):Prop where
 mo:Mo (· =w) H H'
 la:L 71=some (.ref A.lay)
 ls:L 67=some (.ref A.ls)
 ma:L 82=some (.ref pm)
 wi:L 131=some (.ref w)
 rq:L 59=some (.bool b)
 at_:H'[w]?=some (.dict (fW (rf (wV M T))))
theorem AE(M:fO)(T:List String):(wV M T).length≤T.length:=by
 unfold wV;rw[aj];exact bB _ _
theorem Dg(F:dw H₀ X A)(g:Gr H₀ H)(ok:iH X){pm tl:Nat}{M:fO}{T:List String}(hM:H[pm]?=some (.dict (fW (lc M))))(hs:∀x∈M,x.2≤40)(ht:H[tl]?=some (.list (eA T)))(nd:T.Nodup)(hT:T.length≤30){b:Bool}{Q:MV→MH→Prop}
 (k:∀H' q,Gr H H'→H'[q]?=some (.list (oj (Ks X (wV M T) b)))→Q (.ref q) H'):WC (cn (d+4)) 1473 [.ref A.lay,.ref A.ls,.ref pm,.ref tl,.bool b] H Q:=by
 refine bC AX rfl (au nz (sq (au (a:=[]) rfl (bn fun w H₁ n0=>sq ?_))))
 have off:∀{p o},H[p]?=some o→p≠w:=fun e=>aS (av (dm e) n0.le)
 refine cE (vs:=eA T) (fun i L H'=>TJ A pm w b M (T.take i) H₁ L H') ⟨Mo.refl _ _,rfl,rfl,rfl,rfl,rfl,n0.at_⟩ (fun i L H hI=>hI.mo.at (n0.gr.at ht) (off ht)) (fun i y L H₂ hy hI K kk=>?_) fun L H₂ hI=>?_
 ·obtain⟨mo,f1,f2,f3,f4,f5,f6⟩:=hI
  replace hy:=(aq)▸hy
  obtain⟨t,hti,rfl⟩:=az.mp hy
  have hM2:=mo.at (n0.gr.at hM) (off hM)
  have tk:wV M (T.take (i+1))=wV M (T.take i)++if(aV t M).isSome=true then[(t,((yz M t:Nat):Int))]else[]:=by
   unfold wV
   (erw[aO,hti];rw[cV];erw[aB])
   refine congrArg _ ?_
   show([t].filter _).map _=_
   by_cases h:(aV t M).isSome=true
   ·(erw[if_pos h,bG (p:=fun t=>(aV t M).isSome) h]);rfl
   ·(erw[if_neg h,bH (p:=fun t=>(aV t M).isSome) h]);rfl
  have hins:nB H₂ .In (.str (ag t)) (.ref pm)=some (aV t M).isSome:=by(erw[nA hM2 rfl (l0 _ _)];rw[nv]);cases aV t M<;>rfl
  have hnt:t∉(wV M (T.take i)).map fun y=>y.1:=fun q=>by
   refine aM (aU.mp q) fun y' hy' eyt=>?_
   (refine aM (aU.mp hy') fun z hz q0_=>?_;subst q0_)
   subst eyt
   refine fH (bW (bt.mp hz).1) fun j hj=>?_
   have hji:j < i:=av (ai.mp hj).1 (by(erw[cK]);exact nE _ _)
   rw[fZ hji]at hj
   exact aS hji ((qY (ai.mp hj).1 nd).mp (hj.trans hti.symm))
  refine ay f3 (au hins (gQ (fun hb=>?_) fun hb=>kk.next _ _ ⟨mo,f1,f2,f3,f4,f5,?_⟩))
  ·refine ay f3 (x5 hM2 hs (ay f4 (lT f6 rfl (jO _ _ _) ?_ (kk.next _ _ ⟨mo.setN (.inl rfl),f1,f2,f3,f4,f5,?_⟩))))
   ·rw[Ga]
    exact ah (AE M (T.take i)) (ah (by(erw[cK]);exact Lk _ _) (ah hT (by decide)))
   ·(erw[cB f6];rw[F9 hnt];erw[tk,hb]);rfl
  ·(erw[tk,hb]);exact f6.trans (congrArg (fun l=>some (MO.dict (fW (rf l)))) (bk _).symm)
 ·obtain⟨mo,f1,f2,f3,f4,f5,f6⟩:=hI
  rw[aj,aZ]at f6
  have g2:Gr H H₂:=(n0.gr.mo.trans mo).weaken fun x hx q=>aC.mpr n0.le (q▸hx)
  exact sq (ay f1 (ay f2 (ay f4 (ay f5 (Kr F (g.trans g2) ok f6 (ah (AE M T) hT) fun H₃ q g3 hq=>k H₃ q (g2.trans g3) hq)))))
theorem t9{a b c:MV}{e:Bool}{Q:MV→MH→Prop}(q:∀p H',Nu H (.list []) p H'→Q (.ref p) H'):WC (cn (d+1)) 1473 [a,.none,b,c,.bool e] H Q:=
 bC AX rfl (au ky (bn q))
theorem un{ar:Bool}{w:gn}(hw:oB w):PS (eX ar w):=by
 have hb:PS (hH ar):=by
  intro x hx
  unfold hH at hx
  rcases aH.mp hx with hx|hx
  ·obtain⟨t,_,rfl⟩:=aU.mp hx;exact⟨.inr rfl,.inr rfl⟩
  ·cases ar with
   |false=>exact absurd hx bR
   |true=>
    rw[if_pos rfl]at hx
    rcases aF.mp hx with rfl|hx
    ·exact⟨.inl rfl,.inr rfl⟩
    ·obtain⟨t,_,rfl⟩:=aU.mp hx;exact⟨.inl rfl,.inr rfl⟩
 cases w with
 |none=>exact hb
 |some y=>
  obtain⟨t,v,b,e⟩:=y
  (refine uj hw fun z_ v0 v1 z_=>?_;clear hw)
  have hv:v=0∨v=1:=by lia
  have ha:PS (pM t (hH ar)):=by
   unfold pM
   split
   ·exact hb
   ·intro x hx
    rcases aH.mp hx with hx|hx
    ·exact hb x hx
    ·rw[ax]at hx;apply d6 hx;exact⟨.inl rfl,.inl rfl⟩
  intro x hx
  obtain⟨y,hy,rfl⟩:=aU.mp hx
  refine d9 (ha y hy) fun h1 h2=>?_
  by_cases ht:y.1=t
  ·(erw[if_pos ht])
   have h3:((dB v b e y.2).value=0∨(dB v b e y.2).value=1)∧(dB v b e y.2).most=y.2.most:=by
    unfold dB
    split
    ·exact⟨hv,rfl⟩
    ·exact⟨h1,rfl⟩
   refine⟨h3.1,?_⟩
   show(if(dB v b e y.2).most < v then v else(dB v b e y.2).most)=0∨(if(dB v b e y.2).most < v then v else(dB v b e y.2).most)=1
   (erw[h3.2])
   split
   ·exact hv
   ·exact h2
  ·(erw[if_neg ht]);exact⟨h1,h2⟩
theorem lr(ar:Bool)(w:gn):(eX ar w).length≤21:=by
 have hb:(hH ar).length≤20:=by cases ar<;>decide
 cases w with
 |none=>show(hH ar).length≤21;omega
 |some y=>
  obtain⟨t,v,b,e⟩:=y
  show(rV _ _ _).length≤21
  unfold rV pM
  rw[aj]
  split
  ·omega
  ·(erw[aJ]);exact gB hb
theorem uz(X:bQ):∀x∈(j9 X).M,x.2≤40:=by
 have key:∀(T:List String) (x:DL),(∀y∈x.M,y.2≤x.sh)→∀y∈(T.foldl (dt (eX X.arab X.wish)) x).M,y.2≤(T.foldl (dt (eX X.arab X.wish)) x).sh:=by
  intro T
  induction T with
  |nil=>intro x h;exact h
  |cons t T ih=>
   intro x h
   (erw[bI])
   refine ih _ ?_
   unfold dt
   split
   ·exact h
   ·split
    ·intro y hy
     rcases aH.mp hy with hy|hy
     ·exact h y hy
     ·rw[ax]at hy;apply d6 hy;exact jM _
    ·split
     ·intro y hy
      rcases aH.mp hy with hy|hy
      ·exact lj (h y hy)
      ·rw[ax]at hy;apply d6 hy;exact cN _
     ·exact h
 intro x hx
 have h1:=key (dC (lv X)) ⟨[],1,1⟩ (fun y hy=>absurd hy bR) x hx
 have h2:=(kp (E:=eX X.arab X.wish) (dC (lv X)) ⟨[],1,1⟩).2.1
 have h3:=kT (lv X)
 have h4:(lv X).length≤21:=by
  unfold lv
  refine ah (bB _ _) ?_
  rw[kT,aj];exact lr _ _
 dsimp only at h2
 lia
theorem AK(X:bQ):(lv X).length≤21:=by
 refine ah (bB _ _) ?_
 rw[kT,aj];exact lr _ _
end
section
variable{d:Nat}{H H₀:MH}{X:bQ}{A:fR}
structure Su(X:bQ)(A:fR)(p tg:Nat)(L:dn):Prop where
 fo:L 38=some (.ref A.font)
 sc:L 102=some (cc X.arab)
 la:L 68=some (.str "dflt")
 ba:L 57=some (.bool X.arab)
 wa:L 129=some (.ref p)
 fi:L 36=some (.ref A.ls)
 se:L 104=some .none
 ta:L 121=some (.ref tg)
structure TD(X:bQ)(A:fR)(p tg:Nat)(T:List String)(H:MH)(L:dn)(H':MH):Prop where
 mo:Mo (· =tg) H H'
 lo:Su X A p tg L
 at_:H'[tg]?=some (.list (eA T))
structure Tx(X:bQ)(A:fR)(pm pq:Nat)(H:MH)(i:Nat)(acc:List MV)(L:dn)(H':MH):Prop where
 gr:Gr H H'
 fo:L 38=some (.ref A.font)
 fi:L 36=some (.ref A.ls)
 ma:L 82=some (.ref pm)
 pa:L 90=some (.ref pq)
 re:L 97=some (.int (jD X))
 le:acc.length=i
 ac:∀(j:Nat) (S:List (Nat×Int)),j < i→(o7 X)[j]?=some S→∃r:Nat,acc[j]?=some (.ref r)∧H'[r]?=some (.list (oj S))
theorem B2{D:DW}{H:MH}{p:Nat}(wa:fG H p D)(we:WS D=eX X.arab X.wish):(lv X).Nodup:=by
 refine fU _ (ko ?_)
 (refine(rC we)▸?_);exact wa.nd
theorem P8{wl:Nat}{w:gn}(h:jY H wl w):wl < H.length:=by
 cases w with
 |none=>exact dm h
 |some y=>refine aM h fun w h z_=>?_;exact dm h
theorem P9{D:Nat}(h:D≤21):D≤100:=ah h (by decide)
theorem J5{S:List String}(h:S∈eE X.arab (lv X))(nd:(lv X).Nodup):S.Nodup∧S.length≤30:=by
 have htl:=AK X
 have hr:∀c:String→Bool,((lv X).filter c).Nodup∧((lv X).filter c).length≤30:=fun c=>⟨fU _ nd,ah (bB _ _) (ah htl (by decide))⟩
 unfold eE at h
 split at h
 ·rcases aH.mp h with h|h
  ·obtain⟨s,hs,rfl⟩:=aU.mp h
   have h6:s.Nodup:=by
    have:(iP.all fun s=>decide s.Nodup)=true:=by decide
    exact of_decide_eq_true (bd.mp this s hs)
   exact⟨fU _ h6,ah (bB _ _) (ah (pW hs) (by decide))⟩
  ·(erw[ax.mp h]);exact hr _
 ·(erw[ax.mp h]);exact⟨nd,ah htl (by decide)⟩
theorem zU(F:dw H X A)(ok:iH X){wl:Nat}(hw:jY H wl X.wish){Q:MV→MH→Prop}
 (k:∀H' P pm ps pp,Gr H H'→H'[P]?=some (kt X.arab pm ps pp (j9 X).df)→H'[pm]?=some (.dict (fW (lc (j9 X).M)))→H'[pp]?=some (.list [])→tG H' ps (o7 X)→Q (.ref P) H'):
 WC (cn (d+5)) 1488 [.ref A.font,cc X.arab,.str "dflt",.bool X.arab,.ref wl] H Q:=by
 have hfl:X.feats.length≤900:=ah ok.fl (by decide)
 have gsub:∀{H':MH},Gr H H'→aN dz H' (.ref A.font) "gsub"=some (.ref A.lay):=fun g=>(aG (g.at F.font) (by kernel_rfl)).trans (by kernel_rfl)
 have gpos:∀{H':MH},Gr H H'→aN dz H' (.ref A.font) "gpos"=some .none:=fun g=>(aG (g.at F.font) (by kernel_rfl)).trans (by kernel_rfl)
 have gkern:∀{H':MH},Gr H H'→aN dz H' (.ref A.font) "kern"=some (.ref A.kern):=fun g=>(aG (g.at F.font) (by kernel_rfl)).trans (by kernel_rfl)
 have skern:∀{H':MH},Gr H H'→kW H' (.ref A.kern)=some 0:=fun g=>by unfold kW;dsimp only;(erw[g.at F.kern]);rfl
 refine bC JD rfl (As X.arab hw ok.wi fun H₁ p D g1 wa we=>sq (au (gsub g1) (wf F g1 X.arab fun H₂ g2=>sq (au (gpos (g1.trans g2)) (tV (sq (bn fun tg H₃ n3=>sq ?_)))))))
 have wa3:=(wa.gr g2).gr n3.gr
 have htg:∀{q:Nat}{o:MO},H₂[q]?=some o→q≠tg:=fun e=>aS (av (dm e) n3.le)
 have g02:=g1.trans g2
 refine wQ (L:=(eX X.arab X.wish).map fun x=>x.1) (by(refine(rC we)▸?_);exact xi (f:=fun z:Nat×cD=>MV.ref z.1) wa3.at_) (by rw[aj];exact ah (lr X.arab X.wish) (by decide)) fun sp H₄ n4=>?_
 have hst:sp≠tg:=(aS (av (dm n3.at_) n4.le)).symm
 have base:∀{H':MH},Mo (· =tg) H₄ H'→Gr H H':=fun mm=>⟨ah ((g02.trans n3.gr).trans n4.gr).1 mm.1,fun p o e z_=>mm.at (((g02.trans n3.gr).trans n4.gr).at e) (htg (g02.at e))⟩
 refine cE (vs:=eA (dC ((eX X.arab X.wish).map fun x=>x.1))) (fun i L H'=>TD X A p tg (((dC ((eX X.arab X.wish).map fun x=>x.1)).take i).filter (mF X)) H₄ L H') ⟨Mo.refl _ _,⟨rfl,rfl,rfl,rfl,rfl,rfl,rfl,rfl⟩,n4.gr.at n3.at_⟩ (fun i L H hI=>hI.mo.at n4.at_ hst) (fun i y L H₅ hy hI K kk=>?_) fun L H₅ hI=>?_
 ·obtain⟨mo,lo,f9⟩:=hI
  rw[aq]at hy
  obtain⟨t,hti,rfl⟩:=az.mp hy
  have g5:=base mo
  have tk:((dC ((eX X.arab X.wish).map fun x=>x.1)).take (i+1)).filter (mF X)=((dC ((eX X.arab X.wish).map fun x=>x.1)).take i).filter (mF X)++if mF X t=true then[t]else[]:=by
   (erw[aO,hti];rw[cV])
   refine congrArg _ ?_
   show[t].filter _=_
   by_cases h:mF X t=true
   ·(erw[if_pos h,bG h]);rfl
   ·(erw[if_neg h,bH h]);rfl
  have hln:(eA (((dC ((eX X.arab X.wish).map fun x=>x.1)).take i).filter (mF X))).length≤1000:=by
   rw[aj]
   refine ah (bB _ _) (ah (by rw[cK];exact Lk _ _) ?_)
   rw[kT,aj]
   exact ah (lr X.arab X.wish) (by decide)
  have rest:∀{L':dn},Su X A p tg L'→L' 120=some (.str (ag t))→L' 58=some (.bool false)→eG (gD ((uE (cn (d+4))).drop 1)) L' H₅ K:=by
   intro L' hL h1 h2
   refine sq (ay h2 (ay hL.fo (au (gsub g5) (ay hL.fi (ay h1 (wq F g5 hfl t fun H₆ g6=>gQ (fun hb=>?_) fun hb=>?_))))))
   ·have f96:=g6.at f9
    refine ay hL.ta (au (gK f96 rfl) (ay h1 (lg f96 hln (kk.next _ _ ⟨(mo.trans g6.mo).setN (.inl rfl),hL,?_⟩))))
    (erw[cB f96,tk,if_pos hb]);unfold eA;(erw[aB]);rfl
   ·refine ay hL.fo (au (gpos (g5.trans g6)) (ay hL.se (ay h1 (FJ (kk.next _ _ ⟨mo.trans g6.mo,hL,?_⟩)))))
    (erw[g6.at f9,tk];rw[if_neg (by rw[hb];exact Bool.noConfusion),bk])
  refine au jm (dc (fun hb=>?_) fun hb=>rest ⟨lo.fo,lo.sc,lo.la,lo.ba,lo.wa,lo.fi,lo.se,lo.ta⟩ rfl (congrArg (fun b=>some (MV.bool b)) (decide_eq_false hb)))
  exact ay lo.fo (au (gkern g5) (fj (skern g5) (by decide) (rest ⟨lo.fo,lo.sc,lo.la,lo.ba,lo.wa,lo.fi,lo.se,lo.ta⟩ rfl rfl)))
 ·obtain⟨mo,⟨f1,f2,f3,f4,f5,f6,f7,f8⟩,f9⟩:=hI
  (rw[aj]at f9;replace f9:=(aZ)▸f9)
  have f9:H₅[tg]?=some (.list (eA (lv X))):=f9
  have g5:=base mo
  have wa5:fG H₅ p D:=⟨mo.at (n4.gr.at wa3.at_) (htg (wa.gr g2).at_),fun x hx=>mo.at (n4.gr.at (wa3.inst x hx)) (htg ((wa.gr g2).inst x hx)),wa.nd,wa.nr⟩
  have ndT:=B2 wa5 we
  have htl:=AK X
  have hin:∀t∈lv X,(aV t D).isSome=true:=fun t ht=>by
   unfold lv at ht
   have ht:=fw.mp (bt.mp ht).1
   rw[←rC we]at ht
   cases e:aV t D with
   |some v=>rfl
   |none=>exact absurd ht (jS.mp e)
  refine sq (ay f5 (ay f8 (xq wa5 (by(erw[we]);exact un ok.wi) f9 (ah htl (by decide)) ndT hin fun H₆ pm g6 hpm=>?_)))
  rw[we]at hpm ⊢
  have hpm:H₆[pm]?=some (.dict (fW (lc (j9 X).M))):=hpm
  refine sq (ay f2 (ay f8 (qE (g6.at f9) (ah htl (by decide)) fun H₇ pq g7 hpq=>?_)))
  have g57:=g5.trans (g6.trans g7)
  refine sq (ay f1 (au (gsub g57) (ay f6 (ay f2 (q7 F g57 ok fun H₈ g8=>sq ?_)))))
  have g58:=g57.trans g8
  refine dH hpq.at_ fun ws w1 w2 w3=>?_
  have w1:=g8.at w1
  have hpl:ws.length≤7:=by(erw[w2];rw[qa]);split<;>decide
  have hpm8:=g8.at (g7.at hpm)
  refine fj (n:=ws.length) (cw w1) (ah hpl (by decide)) (cP (eK (aL hpl (by decide))) ?_)
  refine fN (fun i acc L H'=>Tx X A pm pq H₈ i acc L H') (aL hpl (by decide)) ⟨Gr.refl _,f1,f6,rfl,rfl,rfl,rfl,fun j S hj=>absurd hj (fS _)⟩ (fun i acc L H₉ hi hI K k0 k1=>?_) fun acc L₂ H₉ hI=>?_
  ·obtain⟨g9,e1,e2,e3,e4,e5,e6,e7⟩:=hI
   have hiP:i < (eE X.arab (lv X)).length:=w2▸hi
   have hS:(eE X.arab (lv X))[i]?=some (eE X.arab (lv X))[i]:=an hiP
   have hndS:=J5 (gy hiP) ndT
   refine aM (w3 i _ hS) fun r r1 r2=>?_
   have g59:=g58.trans g9
   have gi:bp H₉ (.ref pq) (.int i)=some (.ref r):=(cv (g9.at w1) (av hi (ah hpl (by decide)))).trans r1
   refine ay e1 (au (gsub g59) (ay e2 (ay e3 (ay e4 (au gi (ay e5 (Dg F g59 ok (g9.at hpm8) (uz X) (g9.at (g8.at r2)) hndS.1 hndS.2 fun H₁₀ gq g10 hgq=>k1 _ _ _ ⟨g9.trans g10,e1,e2,e3,e4,e5,by(erw[aJ,e6]);rfl,fun j S hj hSj=>?_⟩)))))))
   by_cases hji:j < i
   ·obtain⟨r',q1,q2⟩:=e7 j S hji hSj
    exact⟨r',by(erw[aI (e6▸hji)]);exact q1,g10.at q2⟩
   ·have:j=i:=fT (fX hj) (aC.mp hji)
    subst this
    unfold o7 at hSj
    rw[bh,hS]at hSj
    (obtain rfl:=ab hSj;clear hSj)
    exact⟨gq,by(erw[←e6,cC];with_reducible rfl),hgq⟩
  ·obtain⟨g9,e1,e2,e3,e4,e5,e6,e7⟩:=hI
   have g59:=g58.trans g9
   refine⟨by(erw[e6]);exact ah hpl (by decide),bn fun ps H₁₀ n10=>sq (ay f1 (au (gpos (g59.trans n10.gr)) (ay f7 (ay f8 (t9 fun pp H₁₁ n11=>sq ?_)))))⟩
   have gz:=n10.gr.trans n11.gr
   have hpmz:=gz.at (g9.at hpm8)
   have gHz:=g59.trans gz
   have done:∀{L:dn}{c:Bool},c=false→L 102=some (cc X.arab)→L 68=some (.str "dflt")→L 57=some (.bool X.arab)→L 82=some (.ref pm)→L 114=some (.ref ps)→L 95=some (.ref pp)→L 51=some (.bool c)→L 25=some (.int (j9 X).df)→eG (gD ((AR (cn (d+4))).drop 11)) L H₁₁ (xD Q):=by
    intro L c hc a1 a2 a3 a4 a5 a6 a7 a8
    subst hc
    refine sq (ay a1 (ay a2 (ay a3 (ay a4 (ay a5 (ay a6 (ay a7 (ay a8 (zP fun P H₁₂ n12=>k _ _ pm ps pp (gHz.trans n12.gr) n12.at_ (n12.gr.at hpmz) (n12.gr.at n11.at_) ⟨acc,n12.gr.at (n11.gr.at n10.at_),?_,fun j S hS=>?_⟩)))))))))
    ·unfold o7;(erw[dT,e6,w2];with_reducible rfl)
    ·have hj:j < ws.length:=by
      have:=(ai.mp hS).1
      unfold o7 at this;rw[dT]at this;exact w2▸this
     refine aM (e7 j S hj hS) fun r q1 q2=>?_
     exact⟨r,q1,n12.gr.at (gz.at q2)⟩
   refine au (nA hpmz (k:=.str (ag "kern")) rfl (l0 _ _)) (gQ (fun hc=>?_) fun hc=>done hc f2 f3 f4 rfl rfl rfl rfl rfl)
   exact ay f1 (au (gkern gHz) (fj (skern gHz) (by decide) (done rfl f2 f3 f4 rfl rfl rfl rfl rfl)))
end
theorem jX(a b:Nat):bZ (a:Int) (b:Int)=((a &&& b:Nat):Int):=by
 unfold bZ
 have h1:decide ((0:Int)≤(a:Int))=true:=by rw[decide_eq_true_eq];exact bY _
 have h2:decide ((0:Int)≤(b:Int))=true:=by rw[decide_eq_true_eq];exact bY _
 (erw[h1,h2]);rfl
theorem lR(a:Nat):cQ (cQ (a:Int))=a:=by unfold cQ;lia
theorem vj(a b:Nat):bg (a:Int) (b:Int)=((a ||| b:Nat):Int):=by
 unfold bg bZ
 have h1:∀a:Nat,decide ((0:Int)≤cQ (a:Int))=false:=fun a=>by rw[decide_eq_false_iff_not];unfold cQ;omega
 rw[h1,h1]
 rw[lR,lR,lR];rfl
theorem Ao(a b:Nat):bZ (a:Int) (cQ (b:Int))=((a - (a &&& b):Nat):Int):=by
 unfold bZ
 have h1:decide ((0:Int)≤(a:Int))=true:=by rw[decide_eq_true_eq];exact bY _
 have h2:decide ((0:Int)≤cQ (b:Int))=false:=by rw[decide_eq_false_iff_not];unfold cQ;omega
 (erw[h1,h2])
 rw[lR]
 have:a &&& b≤a:=Nat.and_le_left
 simp only[hO]
 omega
theorem BD(a s:Nat):a &&& 2^s=if a.testBit s then 2^s else 0:=by
 apply Nat.eq_of_testBit_eq
 intro j
 (rw[Nat.testBit_and];erw[ka])
 by_cases h:s=j
 ·apply dE h
  cases h:a.testBit s<;>simp[h,ka]
 ·cases h2:a.testBit s<;>simp[h,ka]
theorem FK(a p:Nat):(a - 2*p)/2=a/2 - p:=Nat.sub_mul_div a 2 p
theorem J6{a p:Nat}(h:p≤a/2):(a - 2*p)%2=a%2:=Nat.sub_mul_mod (Nat.mul_comm p 2▸(Nat.le_div_iff_mul_le Nat.two_pos).mp h)
theorem Ba{a:Nat}(h:a%2=1):(a - 1)%2≠1∧(a - 1)/2=a/2:=by
 have e:a - 1=2*(a/2):=Nat.sub_eq_of_eq_add ((h▸Nat.div_add_mod a 2).symm)
 rw[e,Nat.mul_mod_right,Nat.mul_div_cancel_left _ Nat.two_pos]
 exact⟨Nat.zero_ne_one,rfl⟩
theorem AL:∀{s a:Nat},a.testBit s=true→∀j,(a - 2^s).testBit j=(a.testBit j&&!(j==s))
 |0,a,h,j=>by
  have h1:a%2=1:=by rw[l8]at h;exact of_decide_eq_true h
  cases j with
  |zero=>(rw[l8];erw[h]);exact decide_eq_false (Ba h1).1
  |succ j=>
   (rw[jx,jx];erw[show(a - 2^0)/2=a/2 from(Ba h1).2])
   exact(lp _).symm
 |s+1,a,h,j=>by
  rw[jx]at h
  rw[Nat.pow_succ,Nat.mul_comm]
  cases j with
  |zero=>
   (rw[l8,l8];erw[J6 (Nat.ge_two_pow_of_testBit h)])
   exact(lp _).symm
  |succ j=>
   (rw[jx,jx,FK];erw[AL h j,show(j+1==s+1)=(j==s)from by rw[fP,beq_iff_eq,beq_iff_eq,Nat.succ_inj]];with_reducible rfl)
structure HB(m:Int)(f:Nat→Bool):Prop where
 is:∃n:Nat,m=n∧∀j,n.testBit j=f j
theorem HB.or{a b:Int}{f g:Nat→Bool}(h1:HB a f)(h2:HB b g):HB (bg a b) (fun j=>f j||g j):=by
 (refine aM h1.is fun x q0_ hx=>?_;first|apply dE q0_|apply d6 q0_)
 (refine aM h2.is fun y q0_ hy=>?_;first|apply dE q0_|apply d6 q0_)
 exact⟨x ||| y,vj x y,fun j=>by rw[Nat.testBit_or,hx,hy]⟩
theorem HB.congr{a:Int}{f g:Nat→Bool}(h:HB a f)(e:∀j,f j=g j):HB a g:=by
 (refine aM h.is fun x q0_ hx=>?_;first|apply dE q0_|apply d6 q0_)
 exact⟨x,rfl,fun j=>by rw[hx,e]⟩
theorem HB.zero:HB 0 (fun z_=>false):=⟨0,rfl,fun j=>Nat.zero_testBit j⟩
theorem HB.pow(s:Nat):HB ((2^s:Nat):Int) (fun j=>j==s):=⟨2^s,rfl,fun j=>by
 (erw[ka])
 by_cases h:s=j
 ·apply dE h;exact rfl
 ·simp[h,bS h]⟩
theorem HB.one:HB 1 (fun j=>j==0):=HB.pow 0
theorem HB.clear{a:Int}{f:Nat→Bool}(h:HB a f)(s:Nat):HB (bZ a (cQ ((2^s:Nat):Int))) (fun j=>f j&&!(j==s)):=by
 (refine aM h.is fun x q0_ hx=>?_;first|apply dE q0_|apply d6 q0_)
 refine⟨_,Ao x (2^s),fun j=>?_⟩
 rw[BD]
 cases hb:x.testBit s with
 |false=>
  simp only[iL,if_false,AA]
  rw[hx]
  by_cases hj:j=s
  ·subst hj;(rw[←hx];erw[hb]);rfl
  ·have:(j==s)=false:=by rw[beq_eq_false_iff_ne];exact hj
   (erw[this]);simp
 |true=>simp only[if_true];rw[AL hb,hx]
theorem HB.val{v:Int}(hv:v=0∨v=1)(s:Nat):HB (v*((2^s:Nat):Int)) (fun j=>v==1&&j==s):=by
 rcases hv with rfl|rfl
 ·rw[Int.zero_mul];exact HB.zero.congr fun j=>by simp
 ·rw[Int.one_mul];exact(HB.pow s).congr fun j=>by simp
noncomputable def hit(M m:Int):Bool:=bZ M m != 0
theorem HB.hit_pow{M:Int}{f:Nat→Bool}(h:HB M f)(s:Nat):hit M ((2^s:Nat):Int)=f s:=by
 (refine aM h.is fun x q0_ hx=>?_;first|apply dE q0_|apply d6 q0_)
 unfold hit
 rw[jX,BD,hx]
 have:(2^s:Nat)≠0:=DR.mp (Nat.pow_pos (by decide))
 cases f s with
 |false=>rfl
 |true=>
  simp only[if_true,bne_iff_ne,ne_eq]
  omega
theorem HB.hit_or{M a b:Int}{f g h:Nat→Bool}(h0:HB M f)(h1:HB a g)(h2:HB b h):hit M (bg a b)=(hit M a||hit M b):=by
 (refine aM h0.is fun x q0_ z_=>?_;first|apply dE q0_|apply d6 q0_)
 (refine aM h1.is fun y q0_ z_=>?_;first|apply dE q0_|apply d6 q0_)
 (refine aM h2.is fun z q0_ z_=>?_;first|apply dE q0_|apply d6 q0_)
 unfold hit
 rw[vj,jX,jX,jX,Nat.and_or_distrib_left]
 have e:∀n:Nat,((n:Int) != 0)=!(n==0):=fun n=>by
  cases n with
  |zero=>rfl
  |succ n=>simp[bne];omega
 rw[e,e,e]
 generalize x &&& y=p
 generalize x &&& z=q
 by_cases c1:p=0
 ·apply d6 c1;rw[Nat.zero_or];exact rfl
 ·have:p ||| q≠0:=fun r=>c1 (by
   have:p≤p ||| q:=Nat.left_le_or
   lia)
  have e1:((p ||| q)==0)=false:=by rw[beq_eq_false_iff_ne];exact this
  have e2:(p==0)=false:=by rw[beq_eq_false_iff_ne];exact c1
  (erw[e1,e2]);rfl
theorem ym{M:Int}{f:Nat→Bool}(h:HB M f):hit M 0=false:=by
 (refine aM h.is fun x q0_ z_=>?_;first|apply dE q0_|apply d6 q0_)
 unfold hit
 have:=jX x 0
 rw[show(((0:Nat):Int))=0 from rfl,Nat.and_zero]at this
 (erw[this]);rfl
theorem Kn{M:Int}{f:Nat→Bool}(h:HB M f)(C:List Int)(hC:∀m∈C,∃g,HB m g):hit M (Hr C)=C.any (hit M):=by
 have key:∀(C:List Int) (a:Int) (g:Nat→Bool),HB a g→(∀m∈C,∃g,HB m g)→hit M (C.foldl bg a)=(hit M a||C.any (hit M)):=by
  intro C
  induction C with
  |nil=>intro a g _ _;simp
  |cons m C ih=>
   intro a g ha hC
   refine fH (hC m (by simp)) fun gm hm=>?_
   (erw[bI,ih _ _ (ha.or hm) fun y hy=>hC y (br _ hy),h.hit_or ha hm,dr];rw[Bool.or_assoc])
 (erw[key C 0 _ HB.zero hC,ym h];rw[iI])
structure ja(E:List (String×cD))(P:List String)(x:DL):Prop where
 is:∃f,HB x.df f∧f 0=true∧(∀j,x.sh≤j→f j=false)∧∀t∈P,∀w,aV t E=some w→w.own=true→∃s,aV t x.M=some s∧1≤s∧s < x.sh∧f s=(w.value==1)
 com:∀t∈P,∀w,aV t E=some w→w.own=false→aV t x.M=if(w.value==1)=true then some 0 else none
 non:∀t∈P,aV t E=none→aV t x.M=none
 out:∀t,t∉P→aV t x.M=none
 inj:∀t₁ t₂ s,1≤s→aV t₁ x.M=some s→aV t₂ x.M=some s→t₁=t₂
 lt:∀t s,aV t x.M=some s→s < x.sh
 sh1:1≤x.sh
theorem qd{α:Type}(M:List (String×α))(t u:String)(s:α):aV t (M++[(u,s)])=match aV t M with|some v=>some v|none=>if u=t then some s else none:=by
 induction M with
 |nil=>rfl
 |cons a r ih=>
  obtain⟨b,v⟩:=a
  show(if b=t then some v else aV t (r++[(u,s)]))=match(if b=t then some v else aV t r)with|some v=>some v|none=>_
  by_cases h:b=t
  ·(erw[if_pos h,if_pos h];with_reducible rfl)
  ·(erw[if_neg h,if_neg h,ih];with_reducible rfl)
theorem uQ{P:List String}{t u:String}(h:t∈P++[u]):t∈P∨t=u:=(aH.mp h).imp id ax.mp
theorem ja.same{E:List (String×cD)}{P:List String}{x:DL}(h:ja E P x){u:String}(hu:u∉P)(hk:∀w,aV u E=some w→w.own=false∧(w.value==1)=false):ja E (P++[u]) x:=by
 have hMu:=h.out u hu
 refine gO h.is fun f f1 f2 f3 f4=>⟨⟨f,f1,f2,f3,fun t ht w h1 h2=>?_⟩,fun t ht w h1 h2=>?_,fun t ht h1=>?_,fun t ht=>h.out t fun q=>ht (nV _ q),h.inj,h.lt,h.sh1⟩
 ·exact(uQ ht).elim (fun ht=>f4 t ht w h1 h2) fun e=>Bool.noConfusion ((hk w (e▸h1)).1.symm.trans h2)
 ·exact(uQ ht).elim (fun ht=>h.com t ht w h1 h2) fun e=>by(erw[(hk w (e▸h1)).2,e,hMu]);rfl
 ·exact(uQ ht).elim (fun ht=>h.non t ht h1) fun e=>e▸hMu
theorem ja.put{E:List (String×cD)}{P:List String}{x x':DL}(h:ja E P x){u:String}(hu:u∉P){n:Nat}(hM:x'.M=x.M++[(u,n)])(hs:x.sh≤x'.sh)(hn:n < x'.sh)(hn0:1≤n→n=x.sh){w0:cD}(hw:aV u E=some w0)
 (hF:∀f,HB x.df f→f 0=true→(∀j,x.sh≤j→f j=false)→∃f',HB x'.df f'∧f' 0=true∧(∀j,x'.sh≤j→f' j=false)∧(∀s,s < x.sh→f' s=f s)∧(w0.own=true→1≤n∧f' n=(w0.value==1)))
 (hcom:w0.own=false→n=0∧(w0.value==1)=true):ja E (P++[u]) x':=by
 have hMu:=h.out u hu
 have new:aV u x'.M=some n:=by(erw[hM];rw[qd];erw[hMu]);exact if_pos rfl
 have old:∀{t},t≠u→aV t x'.M=aV t x.M:=fun{t} ht=>by
  (erw[hM];rw[qd])
  cases aV t x.M with
  |some v=>rfl
  |none=>exact if_neg (bS ht)
 have neP:∀{t},t∈P→t≠u:=fun{t} ht q=>hu (q▸ht)
 have hlt:∀{t s},aV t x'.M=some s→(t=u∧n=s)∨aV t x.M=some s:=fun{t s} q=>by
  by_cases ht:t=u
  ·exact .inl ⟨ht,ab (new.symm.trans (ht▸q))⟩
  ·exact .inr ((old ht).symm.trans q)
 have w0u:∀{t w},t=u→aV t E=some w→w0=w:=fun e q=>ab (hw.symm.trans (e▸q))
 refine gO h.is fun f f1 f2 f3 f4=>oM (hF f f1 f2 f3) fun f' F1 F2 F3 F4 F5=>⟨⟨f',F1,F2,F3,fun t ht w h1 h2=>?_⟩,fun t ht w h1 h2=>?_,fun t ht h1=>?_,fun t ht=>?_,fun t₁ t₂ s h0 h1 h2=>?_,fun t s q=>?_,ah h.sh1 hs⟩
 ·refine(uQ ht).elim (fun ht=>?_) fun e=>?_
  ·refine gO (f4 t ht w h1 h2) fun s q1 q2 q3 q4=>?_
   exact⟨s,(old (neP ht)).trans q1,q2,av q3 hs,(F4 s q3).trans q4⟩
  ·have hw0:=w0u e h1
   have F5:=F5 (hw0▸h2)
   exact⟨n,e▸new,F5.1,hn,hw0▸F5.2⟩
 ·refine(uQ ht).elim (fun ht=>(old (neP ht)).trans (h.com t ht w h1 h2)) fun e=>?_
  have hw0:=w0u e h1
  have c:=hcom (hw0▸h2)
  (erw[e,new,←hw0,c.1,c.2])
  rfl
 ·exact(uQ ht).elim (fun ht=>(old (neP ht)).trans (h.non t ht h1)) fun e=>bD ((e▸h1:aV u E=none).symm.trans hw)
 ·exact(old fun q=>ht (gX _ (ax.mpr q))).trans (h.out t fun q=>ht (nV _ q))
 ·rcases hlt h1 with⟨e1,e2⟩|q1
  ·rcases hlt h2 with⟨e3,_⟩|q2
   ·exact e1.trans e3.symm
   ·exact absurd (h.lt _ _ q2) (aC.mpr (ff ((hn0 (e2.symm▸h0)).symm.trans e2)))
  ·rcases hlt h2 with⟨e3,e4⟩|q2
   ·exact absurd (h.lt _ _ q1) (aC.mpr (ff ((hn0 (e4.symm▸h0)).symm.trans e4)))
   ·exact h.inj _ _ s h0 q1 q2
 ·rcases hlt q with⟨_,e2⟩|q
  ·exact e2▸hn
  ·exact av (h.lt _ _ q) hs
theorem ja.step{E:List (String×cD)}{P:List String}{x:DL}(h:ja E P x){u:String}(hu:u∉P)(hv:∀w,aV u E=some w→w.value=0∨w.value=1):ja E (P++[u]) (dt E x u):=by
 cases hw:aV u E with
 |none=>
  have e:dt E x u=x:=by unfold dt;(erw[hw];with_reducible rfl)
  (erw[e])
  exact h.same hu fun w q=>bD (hw.symm.trans q)
 |some w=>
  rcases lm w.own with ho|ho
  ·have e:dt E x u=⟨x.M++[(u,x.sh)],bg x.df ((w.value.toNat*2^x.sh:Nat):Int),x.sh+1⟩:=by unfold dt;(erw[hw]);simp only[ho];rfl
   have hval:((w.value.toNat*2^x.sh:Nat):Int)=w.value*((2^x.sh:Nat):Int):=by
    rcases hv w hw with q|q<;>(erw[q])<;>simp
   (erw[e])
   refine h.put hu rfl (cN _) (d4 _) (fun z_=>rfl) hw (fun f f1 f2 f3=>⟨fun j=>f j||(w.value==1&&j==x.sh),hval▸f1.or (HB.val (hv w hw) x.sh),by dsimp only;(erw[f2]);rfl,fun j hj=>?_,fun s hs=>?_,fun z_=>⟨h.sh1,?_⟩⟩) fun q=>Bool.noConfusion (q.symm.trans ho)
   ·have hj:x.sh < j:=hj
    show(f j||(w.value==1&&j==x.sh))=false
    (erw[f3 j (dO hj),beq_eq_false_iff_ne.mpr (cj hj)];rw[d7]);rfl
   ·show(f s||(w.value==1&&s==x.sh))=f s
    (erw[beq_eq_false_iff_ne.mpr (aS hs)];rw[d7,f0])
   ·show(f x.sh||(w.value==1&&x.sh==x.sh))=_
    (erw[f3 _ (aY _)];rw[beq_self_eq_true,lp]);rfl
  ·rcases hv w hw with q|q
   ·have e:dt E x u=x:=by unfold dt;(erw[hw]);simp only[ho,q];rfl
    (erw[e])
    exact h.same hu fun w' hw'=>(ab (hw.symm.trans hw'))▸⟨ho,by(erw[q]);rfl⟩
   ·have e:dt E x u={x with M:=x.M++[(u,0)]}:=by unfold dt;(erw[hw]);simp only[ho,q];rfl
    (erw[e])
    exact h.put hu rfl (aY _) h.sh1 (fun q=>absurd q (Nat.not_succ_le_zero 0)) hw (fun f f1 f2 f3=>⟨f,f1,f2,f3,fun z_ z_=>rfl,fun q=>Bool.noConfusion (ho.symm.trans q)⟩) fun z_=>⟨rfl,by(erw[q]);rfl⟩
theorem ja.all{E:List (String×cD)}(ok:PS E):∀(S P:List String) (x:DL),ja E P x→(P++S).Nodup→ja E (P++S) (S.foldl (dt E) x)
 |[],P,x,h,_=>by rw[bk];exact h
 |u::S,P,x,h,nd=>by
  have e:P++u::S=(P++[u])++S:=by simp
  rw[e]at nd ⊢
  (erw[bI])
  refine ja.all ok S (P++[u]) _ (h.step ?_ fun w hw=>(ok _ (fy hw)).1) nd
  intro q
  have nd1:=(dL.mp nd).1
  have:=(dL.mp nd1).2.2 u q u (by simp)
  exact this rfl
theorem ja.init(E:List (String×cD)):ja E [] ⟨[],1,1⟩:=
 ⟨⟨fun j=>j==0,HB.one,rfl,fun j hj=>by rw[beq_eq_false_iff_ne];exact cj ‹_›,by simp⟩,by simp,by simp,fun z_ z_=>rfl,(fun z_ z_ z_ z_ h=>by exact bD h),(fun z_ z_ h=>by exact bD h),aY 1⟩
noncomputable def xO(ar:Bool)(t:String):Bool:=gk.contains t&&ar
noncomputable def wK(ar:Bool)(t:String):Bool:=if t=="rtla" then ar else["rlig","liga","ccmp","calt"].contains t
theorem DF{t:String}(h:t∈d5)(ar:Bool):aV t (hH ar)=if xO ar t=true then some qb else if wK ar t=true then some Gm else none:=by
 simp only[d5,aF,bR,or_false]at h
 rcases h with rfl|rfl|rfl|rfl|rfl|rfl|rfl|rfl|rfl|rfl<;>cases ar<;>rfl
theorem Dw(t:String)(ar:Bool)(form:String)(c:Int)(w:gn):countsL t ar form c w=if xO ar t=true then t==form||(ik t c w&&decide (0 < vJ w)&&uL w)else if ik t c w then decide (0 < vJ w)else wK ar t:=by
 rfl
theorem C0{α:Type}(t u:String)(f:α→α)(E:List (String×α)):aV u (rV t f E)=if u=t then(aV u E).map f else aV u E:=by
 unfold rV
 induction E with
 |nil=>simp[aV]
 |cons a r ih=>
  obtain⟨s,v⟩:=a
  (erw[bj])
  by_cases h:s=t
  ·subst h
   (erw[if_pos rfl])
   show(if s=u then some (f v)else aV u _)=if u=s then dg f (if s=u then some v else aV u r)else(if s=u then some v else aV u r)
   by_cases h2:s=u
   ·subst h2;simp
   ·(erw[if_neg h2,if_neg (bS h2),if_neg h2,ih,if_neg (bS h2)];with_reducible rfl)
  ·(erw[if_neg h])
   show(if s=u then some v else aV u _)=if u=t then dg f (if s=u then some v else aV u r)else(if s=u then some v else aV u r)
   by_cases h2:s=u
   ·apply dE h2;(erw[if_pos rfl,if_neg h,if_pos rfl];with_reducible rfl)
   ·(erw[if_neg h2,if_neg h2,ih];with_reducible rfl)
theorem uS(t u:String)(E:List (String×cD)):aV u (pM t E)=if u=t then some ((aV t E).getD ⟨0,0,false,false⟩)else aV u E:=by
 unfold pM
 cases h:aV t E with
 |some v=>
  (erw[Option.isSome_some,if_pos rfl])
  by_cases h2:u=t
  ·subst h2;(erw[if_pos rfl,h]);rfl
  ·(erw[if_neg h2];with_reducible rfl)
 |none=>
  (erw[Option.isSome_none];rw[if_neg (by decide),qd])
  by_cases h2:u=t
  ·subst h2;(erw[if_pos rfl,h,if_pos rfl]);rfl
  ·(erw[if_neg h2,if_neg (bS h2)])
   cases aV u E<;>rfl
theorem oa(ar:Bool)(w:gn)(u:String):aV u (eX ar w)=match w with
 |none=>aV u (hH ar)
 |some (t,v,b,e)=>if u=t then some (jC v b e ((aV t (hH ar)).getD ⟨0,0,false,false⟩))else aV u (hH ar):=by
 cases w with
 |none=>rfl
 |some y=>
  obtain⟨t,v,b,e⟩:=y
  show aV u (rV t _ (pM t (hH ar)))=_
  rw[C0]
  by_cases h:u=t
  ·apply dE h;(erw[if_pos rfl];rw[uS];erw[if_pos rfl]);simp
  ·(erw[if_neg h];rw[uS];erw[if_neg h]);simp[h]
section
variable{X:bQ}
theorem Et(ok:iH X)(nd:(lv X).Nodup):ja (eX X.arab X.wish) (dC (lv X)) (j9 X):=by
 have:=ja.all (un (ar:=X.arab) ok.wi) (dC (lv X)) [] ⟨[],1,1⟩ (ja.init _) (by rw[Ll];exact ko nd)
 rw[Ll]at this
 exact this
theorem vI(ar:Bool)(w:gn):((eX ar w).map fun x=>x.1).Nodup:=by
 have hb:((hH ar).map fun x=>x.1).Nodup:=by cases ar<;>decide
 cases w with
 |none=>exact hb
 |some y=>
  obtain⟨t,v,b,e⟩:=y
  show((rV t _ (pM t (hH ar))).map fun x=>x.1).Nodup
  have e1:(rV t (jC v b e) (pM t (hH ar))).map (fun x=>x.1)=(pM t (hH ar)).map fun x=>x.1:=by
   unfold rV;(erw[bc]);refine bL fun y z_=>?_
   dsimp only[Function.comp];set_option tactic.hygienic true in split<;>rfl
  (erw[e1])
  unfold pM
  set_option tactic.hygienic true in split
  ·exact hb
  ·next h=>
   (erw[aB];rw[dL])
   refine⟨hb,by simp,fun a ha b hb=>?_⟩
   simp only[bj,zf,ax]at hb
   subst hb
   intro q;subst q
   apply h
   cases e:aV a (hH ar)with
   |some v=>rfl
   |none=>exact absurd ha (jS.mp e)
theorem vK(X:bQ):(lv X).Nodup:=by
 exact fU _ (ko (vI _ _))
theorem oR{t:String}:t∈lv X↔(∃w,aV t (eX X.arab X.wish)=some w)∧mF X t=true:=by
 unfold lv
 rw[bt,fw]
 constructor
 ·rintro⟨h1,h2⟩
  refine⟨?_,h2⟩
  cases e:aV t (eX X.arab X.wish)with
  |some v=>exact⟨v,rfl⟩
  |none=>exact absurd h1 (jS.mp e)
 ·rintro⟨⟨w,h1⟩,h2⟩
  exact⟨aU.mpr ⟨_,fy h1,rfl⟩,h2⟩
theorem sW(ok:iH X){t:String}(h:mF X t=true):t∈d5:=by
 obtain⟨i,f,e,rfl⟩:=sX.mp h
 exact(ok.fp f (ak e)).1
theorem vP(ok:iH X){t:String}{s:Nat}(h:aV t (j9 X).M=some s):t∈lv X:=by
 have I:=Et ok (vK X)
 by_cases q:t∈dC (lv X)
 ·exact fw.mp q
 ·rw[I.out t q]at h;exact bD h
theorem HL(ok:iH X):aV "rtlm" (j9 X).M=none:=by
 cases h:aV "rtlm" (j9 X).M with
 |none=>rfl
 |some s=>
  have:=sW ok (oR.mp (vP ok h)).2
  exact absurd this (by decide)
theorem Fp(ok:iH X)(ts:List iy)(i:Nat):∃F,HB (qe (j9 X).M X.wish (j9 X).df X.arab ts i) F∧F 0=true∧
 ∀t,mF X t=true→((∃s,aV t (j9 X).M=some s∧F s=true)↔countsL t X.arab (cY ts i) i X.wish=true):=by
 have I:=Et ok (vK X)
 refine gO I.is fun f f1 f2 f3 f4=>?_
 have hwish:∃g,HB (lX (j9 X).M X.wish i (bg 0 (j9 X).df)) g∧∀j,g j=match X.wish with
  |none=>f j
  |some (t,v,b,e)=>match aV t (j9 X).M with
   |none=>f j
   |some s=>if(!fI b e&&uV b e i)=true then(if j=s then v==1 else f j)else f j:=by
  have h0:HB (bg 0 (j9 X).df) f:=(HB.zero.or f1).congr fun j=>by simp
  unfold lX
  have hwi:=ok.wi
  cases hw:X.wish with
  |none=>exact⟨f,h0,fun j=>rfl⟩
  |some y=>
   obtain⟨t,v,b,e⟩:=y
   rw[hw]at hwi
   (refine uj hwi fun z_ v0 v1 z_=>?_;clear hwi)
   dsimp only
   cases hl:aV t (j9 X).M with
   |none=>exact⟨f,h0,fun j=>rfl⟩
   |some s=>
    dsimp only
    by_cases hc:(!fI b e&&uV b e (i:Int))=true
    ·(erw[if_pos hc])
     refine⟨_,(h0.clear s).or (HB.val (show v=0∨v=1 by omega) s),fun j=>?_⟩
     (erw[if_pos hc])
     by_cases hj:j=s
     ·apply dE hj;simp
     ·have:(j==s)=false:=by rw[beq_eq_false_iff_ne];exact hj
      (erw[if_neg hj]);simp[this]
    ·(erw[if_neg hc])
     exact⟨f,h0,fun j=>by(erw[if_neg hc];with_reducible rfl)⟩
 (refine aM hwish fun g g1 g2=>?_;clear hwish)
 have hform:∃h:Nat→Bool,HB ((Qj (j9 X).M (cY ts i):Nat):Int) h∧∀j,h j=(gk.contains (cY ts i)&&aV (cY ts i) (j9 X).M==some j):=by
  unfold Qj
  by_cases hc:gk.contains (cY ts i)=true
  ·(erw[if_pos hc])
   unfold yz
   cases hl:aV (cY ts i) (j9 X).M with
   |none=>exact⟨_,HB.zero,fun j=>by(erw[hc]);rfl⟩
   |some s=>exact⟨_,HB.pow s,fun j=>by
    (erw[hc];rw[jz])
    by_cases hj:j=s
    ·apply dE hj;exact rfl
    ·have h1:(j==s)=false:=by rw[beq_eq_false_iff_ne];exact hj
     have h2:((some s:Option Nat)==some j)=false:=by rw[beq_eq_false_iff_ne];intro q;(obtain rfl:=ab q;clear q);exact hj rfl
     (erw[h1,h2];with_reducible rfl)⟩
  ·(erw[if_neg hc])
   exact⟨_,HB.zero,fun j=>by rw[ca]at hc;(erw[hc]);rfl⟩
 (refine aM hform fun h h1 h2=>?_;clear hform)
 have hF:HB (qe (j9 X).M X.wish (j9 X).df X.arab ts i) (fun j=>g j||(X.arab&&h j)):=by
  unfold qe NX
  cases har:X.arab with
  |true=>
   (erw[if_pos rfl])
   exact((g1.or HB.zero).or h1).congr fun j=>by simp
  |false=>
   rw[if_neg (by decide)]
   exact g1.congr fun j=>by simp
 have wown:∀t v b e s,X.wish=some (t,v,b,e)→aV t (j9 X).M=some s→fI b e=false→1≤s:=by
  intro t v b e s hw hl hwh
  have htT:=vP ok hl
  have hlk:=oa X.arab X.wish t
  rw[hw]at hlk
  dsimp only at hlk
  rw[if_pos rfl]at hlk
  have hown:(jC v b e ((aV t (hH X.arab)).getD ⟨0,0,false,false⟩)).own=true:=by
   show(dB v b e _).own=true
   unfold dB;(erw[hwh];rw[ij,if_neg (by decide)])
  rw[←hw]at hlk
  refine dH (f4 t (fw.mpr htT) _ hlk hown) fun s' q1 q2 z_=>?_
  rw[hl]at q1;(obtain rfl:=ab q1;clear q1);exact q2
 refine⟨_,hF,?_,fun t hft=>?_⟩
 ·have:g 0=true:=by
   rw[g2]
   cases hw:X.wish with
   |none=>exact f2
   |some y=>
    obtain⟨t,v,b,e⟩:=y
    dsimp only
    cases hl:aV t (j9 X).M with
    |none=>exact f2
    |some s=>
     dsimp only
     by_cases hc:(!fI b e&&uV b e (i:Int))=true
     ·(erw[if_pos hc])
      have hwh:fI b e=false:=by
       rw[bf,dN]at hc;exact hc.1
      have:=wown t v b e s hw hl hwh
      rw[if_neg (by omega)];exact f2
     ·(erw[if_neg hc]);exact f2
  simp[this]
 ·have hlaw:=sW ok hft
  rw[Dw]
  have hbase:=DF hlaw X.arab
  have formbit:∀s,1≤s→aV t (j9 X).M=some s→h s=(gk.contains t&&t==cY ts i):=by
   intro s hs hl
   rw[h2]
   by_cases q:t=cY ts i
   ·(erw[←q,hl]);simp
   ·have q1:(t==cY ts i)=false:=by rw[beq_eq_false_iff_ne];exact q
    have q2:(aV (cY ts i) (j9 X).M==some s)=false:=by
     rw[beq_eq_false_iff_ne]
     intro r
     exact q (I.inj _ _ s hs hl r)
    (erw[q1,q2]);simp
  have plain:(∀t' v b e,X.wish=some (t',v,b,e)→t'≠t)→((∃s,aV t (j9 X).M=some s∧(g s||(X.arab&&h s))=true)↔(if xO X.arab t=true then t==cY ts i||(ik t i X.wish&&decide (0 < vJ X.wish)&&uL X.wish)else if ik t i X.wish then decide (0 < vJ X.wish)else wK X.arab t)=true):=by
   intro hno
   have hask:ik t i X.wish=false:=by
    unfold ik
    cases hw:X.wish with
    |none=>rfl
    |some y=>
     obtain⟨t',v,b,e⟩:=y
     have:(t'==t)=false:=by rw[beq_eq_false_iff_ne];exact hno _ _ _ _ hw
     dsimp only;(erw[this]);rfl
   have hlk:aV t (eX X.arab X.wish)=aV t (hH X.arab):=by
    rw[oa]
    cases hw:X.wish with
    |none=>rfl
    |some y=>
     obtain⟨t',v,b,e⟩:=y
     dsimp only
     (erw[if_neg (bS (hno _ _ _ _ hw))];with_reducible rfl)
   simp only[hask,ij,f0,iL,if_false]
   rw[hbase]at hlk
   by_cases c1:xO X.arab t=true
   ·rw[if_pos c1]at hlk ⊢
    have htT:t∈lv X:=oR.mpr ⟨⟨_,hlk⟩,hft⟩
    refine gO (f4 t (fw.mpr htT) _ hlk rfl) fun s q1 q2 q3 q4=>?_
    have hg:g s=false:=by
     rw[g2]
     cases hw:X.wish with
     |none=>exact q4
     |some y=>
      obtain⟨t',v,b,e⟩:=y
      dsimp only
      cases hl:aV t' (j9 X).M with
      |none=>exact q4
      |some s'=>
       dsimp only
       have hne:s≠s':=fun r=>hno _ _ _ _ hw (I.inj _ _ s q2 (by(erw[r]);exact hl) q1)
       (erw[if_neg hne])
       split<;>exact q4
    have hk:gk.contains t=true∧X.arab=true:=by unfold xO at c1;rw[bf]at c1;exact c1
    have hfb:=formbit s q2 q1
    rw[hk.1,jz]at hfb
    constructor
    ·rintro⟨s',r1,r2⟩
     rw[q1]at r1;(obtain rfl:=ab r1;clear r1)
     rw[hg,hk.2,hfb]at r2
     simpa using r2
    ·intro r
     exact⟨s,q1,by(erw[hg,hk.2,hfb,r]);rfl⟩
   ·rw[if_neg c1]at hlk ⊢
    by_cases c2:wK X.arab t=true
    ·rw[if_pos c2]at hlk
     have htT:t∈lv X:=oR.mpr ⟨⟨_,hlk⟩,hft⟩
     have q1:=I.com t (fw.mpr htT) _ hlk rfl
     rw[if_pos (by rfl)]at q1
     refine⟨fun z_=>c2,fun z_=>⟨0,q1,?_⟩⟩
     have:g 0=true:=by
      rw[g2]
      cases hw:X.wish with
      |none=>exact f2
      |some y=>
       obtain⟨t',v,b,e⟩:=y
       dsimp only
       cases hl:aV t' (j9 X).M with
       |none=>exact f2
       |some s'=>
        dsimp only
        by_cases hc:(!fI b e&&uV b e (i:Int))=true
        ·have hwh:fI b e=false:=by
          rw[bf,dN]at hc;exact hc.1
         have:=wown t' v b e s' hw hl hwh
         (erw[if_pos hc];rw[if_neg (by omega)]);exact f2
        ·(erw[if_neg hc]);exact f2
     (erw[this]);rfl
    ·rw[if_neg c2]at hlk
     have hnT:t∉dC (lv X):=fun q=>by
      obtain⟨⟨w,hw⟩,_⟩:=oR.mp (fw.mp q)
      rw[hw]at hlk;cases hlk
     have q1:=I.out t hnT
     constructor
     ·rintro⟨s,r1,_⟩;rw[q1]at r1;exact bD r1
     ·intro r;exact absurd r c2
  cases hw:X.wish with
  |none=>
   have:=plain (fun t' v b e q=>by rw[hw]at q;exact bD q)
   rw[hw]at this;exact this
  |some y=>
   obtain⟨t',v,b,e⟩:=y
   by_cases htt:t'=t
   ·subst htt
    have hwi:=ok.wi
    rw[hw]at hwi
    obtain⟨_,v0,v1,b0,_,e0,_⟩:=hwi
    have hlk:=oa X.arab X.wish t'
    rw[hw]at hlk
    dsimp only at hlk
    rw[if_pos rfl,←hw,hbase]at hlk
    have htT:t'∈lv X:=oR.mpr ⟨⟨_,hlk⟩,hft⟩
    have hmem:=fw.mpr htT
    have hask:ik t' i (some (t',v,b,e))=uV b e i:=by unfold ik uV;simp
    have hpart:uL (some (t',v,b,e))=!fI b e:=by
     unfold uL fI
     by_cases x1:b=0
     ·by_cases x2:e= -1
      ·subst x1 x2;rfl
      ·have:0≤e:=by omega
       have x3:(e== -1)=false:=by rw[beq_eq_false_iff_ne];exact x2
       simp[this,x3]
     ·have:0 < b:=by omega
      have x3:(b==0)=false:=by rw[beq_eq_false_iff_ne];exact x1
      simp[this,x3]
    have hval:decide (0 < vJ (some (t',v,b,e)))=(v==1):=by
     show decide (0 < v)=_
     have:v=0∨v=1:=by omega
     rcases this with rfl|rfl<;>rfl
    (erw[hask,hpart,hval])
    have gown:∀s,aV t' (j9 X).M=some s→g s=if(!fI b e&&uV b e i)=true then v==1 else f s:=by
     intro s hl
     (rw[g2];erw[hw])
     dsimp only
     (erw[hl])
     dsimp only
     by_cases hc:(!fI b e&&uV b e (i:Int))=true
     ·(erw[if_pos hc,if_pos hc,if_pos rfl];with_reducible rfl)
     ·(erw[if_neg hc,if_neg hc];with_reducible rfl)
    by_cases c1:xO X.arab t'=true
    ·rw[if_pos c1]at hlk ⊢
     have hwv:(jC v b e qb).own=true∧(jC v b e qb).value=0:=by
      have:dB v b e qb=qb:=by unfold dB qb;simp
      refine⟨?_,?_⟩
      ·show(dB v b e qb).own=true;(erw[this]);rfl
      ·show(dB v b e qb).value=0;(erw[this]);rfl
     refine gO (f4 t' hmem _ hlk hwv.1) fun s q1 q2 q3 q4=>?_
     have q4:f s=false:=by(erw[q4]);show((jC v b e qb).value==1)=false;(erw[hwv.2]);rfl
     have hk:gk.contains t'=true∧X.arab=true:=by unfold xO at c1;rw[bf]at c1;exact c1
     have hfb:=formbit s q2 q1
     rw[hk.1,jz]at hfb
     have hgs:=gown s q1
     rw[q4]at hgs
     have key:(g s||(X.arab&&h s))=(t'==cY ts i||(uV b e i&&(v==1)&&!fI b e)):=by
      (erw[hgs,hk.2,hfb])
      cases fI b e<;>cases uV b e (i:Int)<;>cases(v==1)<;>cases(t'==cY ts i)<;>rfl
     constructor
     ·rintro⟨s',r1,r2⟩
      rw[q1]at r1;(obtain rfl:=ab r1;clear r1)
      (erw[←key]);exact r2
     ·intro r
      exact⟨s,q1,by(erw[key]);exact r⟩
    ·rw[if_neg c1]at hlk ⊢
     have hno:(X.arab&&gk.contains t')=false:=by
      rw[Bool.and_comm];unfold xO at c1;rw[ca]at c1;exact c1
     have hbw:∃w0:cD,w0.value=(if wK X.arab t'=true then 1 else 0)∧w0.own=false∧w0.set=false∧aV t' (eX X.arab X.wish)=some (jC v b e w0):=by
      by_cases c2:wK X.arab t'=true
      ·rw[if_pos c2]at hlk ⊢;exact⟨Gm,rfl,rfl,rfl,hlk⟩
      ·rw[if_neg c2]at hlk ⊢;exact⟨⟨0,0,false,false⟩,rfl,rfl,rfl,hlk⟩
     (refine gO hbw fun w0 w1 w2 w3 hlk=>?_;clear hbw)
     rcases lm (fI b e)with hwh|hwh
     ·have hin:uV b e i=true:=by
       unfold fI at hwh
       rw[bf,beq_iff_eq,beq_iff_eq]at hwh
       (refine d9 hwh fun q0_ q1_=>?_;subst q0_;subst q1_;clear hwh)
       unfold uV
       have:(0:Int)≤(i:Int):=by exact bY _
       simp[this]
      have e1:(jC v b e w0).own=false∧(jC v b e w0).value=v:=by
       have:dB v b e w0={w0 with value:=v}:=by unfold dB;(erw[hwh,w3]);rfl
       refine⟨?_,?_⟩
       ·show(dB v b e w0).own=false;(erw[this]);exact w2
       ·show(dB v b e w0).value=v;(erw[this];with_reducible rfl)
      have q1:=I.com t' hmem _ hlk e1.1
      rw[e1.2]at q1
      (erw[hin,if_pos rfl])
      rcases lm (v==1)with hv|hv
      ·rw[hv,if_pos rfl]at q1
       refine⟨fun z_=>hv,fun z_=>⟨0,q1,?_⟩⟩
       have:=gown 0 q1
       rw[hwh]at this
       (erw[this,jA];rw[ij,if_neg (by decide)];erw[f2]);rfl
      ·rw[hv,if_neg (by decide)]at q1
       constructor
       ·rintro⟨s,r1,_⟩;rw[q1]at r1;exact bD r1
       ·intro r;rw[hv]at r;exact Bool.noConfusion r
     ·have e1:(jC v b e w0).own=true∧(jC v b e w0).value=w0.value:=by
       have:dB v b e w0={w0 with own:=true}:=by unfold dB;(erw[hwh]);rfl
       refine⟨?_,?_⟩
       ·show(dB v b e w0).own=true;(erw[this];with_reducible rfl)
       ·show(dB v b e w0).value=w0.value;(erw[this];with_reducible rfl)
      refine gO (f4 t' hmem _ hlk e1.1) fun s q1 q2 q3 q4=>?_
      rw[e1.2,w1]at q4
      have q4:f s=wK X.arab t':=by
       (erw[q4])
       cases wK X.arab t'<;>rfl
      have hfb:=formbit s q2 q1
      have key:(g s||(X.arab&&h s))=(if uV b e i=true then v==1 else wK X.arab t'):=by
       (erw[gown s q1,hfb];rw[←nX];erw[hno];rw[ij,f0];erw[hwh,q4,Mb];rw[jz])
      constructor
      ·rintro⟨s',r1,r2⟩
       rw[q1]at r1;(obtain rfl:=ab r1;clear r1)
       rw[key]at r2
       by_cases hi:uV b e (i:Int)=true
       ·rw[if_pos hi]at r2 ⊢;exact r2
       ·rw[if_neg hi]at r2 ⊢;exact r2
      ·intro r
       refine⟨s,q1,?_⟩
       (erw[key])
       by_cases hi:uV b e (i:Int)=true
       ·rw[if_pos hi]at r ⊢;exact r
       ·rw[if_neg hi]at r ⊢;exact r
   ·have:=plain (fun t'' v b e q=>by rw[hw]at q;cases q;exact htt)
    rw[hw]at this;exact this
end
theorem qo{α β γ:Type}(L:List α)(c:α→Bool)(h:α→β)(f:γ→β→γ)(g:γ):((L.filter c).map h).foldl f g=L.foldl (fun g a=>if c a=true then f g (h a)else g) g:=by
 induction L generalizing g with
 |nil=>rfl
 |cons a r ih=>
  (erw[bI];rw[←ih])
  by_cases hc:c a=true
  ·(erw[if_pos hc,bG hc,bj,bI];with_reducible rfl)
  ·(erw[if_neg hc,bH hc];with_reducible rfl)
theorem qR{α γ:Type}{L:List α}{f f':γ→α→γ}(h:∀a∈L,∀g,f g a=f' g a)(g:γ):L.foldl f g=L.foldl f' g:=by
 induction L generalizing g with
 |nil=>rfl
 |cons a r ih=>
  rw[bI,bI,h a (by simp),ih fun b hb=>h b (br _ hb)]
theorem wc{α β:Type}(L:List α)(d:α)(f:Nat→α→β):L.mapIdx f=(aE L.length).map fun i=>f i (L.getD i d):=by
 apply bK
 intro i
 (erw[bh,aq])
 by_cases h:i < L.length
 ·(erw[an h,cH h])
  show some (f i L[i])=some (f i (L.getD i d))
  (erw[cU,an h]);rfl
 ·rw[cF (by omega),cF (by simp;omega)];rfl
theorem n7{n:Nat}(h:n < 7):n=0∨n=1∨n=2∨n=3∨n=4∨n=5∨n=6:=(by decide:∀n,n < 7→n=0∨n=1∨n=2∨n=3∨n=4∨n=5∨n=6) n h
noncomputable def Sa:List (List String):=[["ccmp","locl","ltra","ltrm","rtla","rtlm"],["isol"],["fina"],["medi"],["init"],["rlig"]]
theorem Ca:∀t∈d5,(∀s,s < 6→(t∈Sa.getD s []↔stageL t=s))∧(qr.contains t=false↔stageL t=6):=by decide+kernel
theorem uK{ar:Bool}{T:List String}{s:Nat}{t:String}(hs:s < if ar=true then 7 else 1)(ht:t∈d5):t∈(eE ar T).getD s []↔t∈T∧(ar=true→stageL t=s):=by
 cases ar with
 |false=>
  (erw[Nat.lt_one_iff.mp hs])
  exact⟨fun h=>⟨h,fun q=>Bool.noConfusion q⟩,fun h=>h.1⟩
 |true=>
  have hst:=Ca t ht
  have fin:∀s,s < 6→(t∈(Sa.getD s []).filter (fun t=>T.contains t)↔t∈T∧(true=true→stageL t=s)):=fun s h=>by
   rw[bt,cG,hst.1 s h]
   exact⟨fun a=>⟨a.2,fun z_=>a.1⟩,fun a=>⟨a.2 rfl,a.1⟩⟩
  rcases n7 hs with h|h|h|h|h|h|h<;>(erw[h])
  ·exact fin 0 (by decide)
  ·exact fin 1 (by decide)
  ·exact fin 2 (by decide)
  ·exact fin 3 (by decide)
  ·exact fin 4 (by decide)
  ·exact fin 5 (by decide)
  ·show t∈T.filter (fun t=>!qr.contains t)↔_
   rw[bt,dN,hst.2]
   exact⟨fun a=>⟨a.1,fun z_=>a.2⟩,fun a=>⟨a.1,a.2 rfl⟩⟩
section
variable{X:bQ}
theorem NQ(s:Nat):((eE X.arab (lv X)).getD s []).Nodup:=by
 (erw[cU])
 cases h:(eE X.arab (lv X))[s]? with
 |none=>exact dp
 |some S=>
  have hm:=ak h
  show S.Nodup
  unfold eE at hm
  split at hm
  ·rcases aH.mp hm with hm|hm
   ·obtain⟨s,hs,rfl⟩:=aU.mp hm
    refine fU _ ?_
    simp only[iP,aF,bR,or_false]at hs
    rcases hs with rfl|rfl|rfl|rfl|rfl|rfl<;>decide
   ·replace hm:=(ax).mp hm;(erw[hm]);exact fU _ (vK X)
  ·replace hm:=(ax).mp hm;(erw[hm]);exact vK X
theorem uR{M:fO}{S:List String}{t:String}:aV t (wV M S)=if t∈S then(aV t M).map fun s=>((2^s:Nat):Int)else none:=by
 unfold wV
 induction S with
 |nil=>simp[aV]
 |cons u r ih=>
  cases hu:aV u M with
  |none=>
   (rw[bH (by rw[hu];decide)];erw[ih])
   by_cases h:t=u
   ·subst h;(erw[hu]);simp
   ·by_cases h2:t∈r
    ·(erw[if_pos h2,if_pos (br _ h2)];with_reducible rfl)
    ·(erw[if_neg h2];exact(if_neg (by rw[aF];exact fun q=>q.elim h h2)).symm)
  |some s=>
   (rw[bG (by rw[hu];rfl)];erw[bj])
   show(if u=t then some _ else aV t _)=_
   by_cases h:u=t
   ·apply dE h
    (erw[if_pos rfl];rw[if_pos (by simp)];erw[hu])
    unfold yz;(erw[hu]);rfl
   ·(erw[if_neg h,ih])
    by_cases h2:t∈r
    ·(erw[if_pos h2,if_pos (br _ h2)];with_reducible rfl)
    ·(erw[if_neg h2];exact(if_neg (by rw[aF];exact fun q=>q.elim (fun q=>h q.symm) h2)).symm)
theorem DY{M:fO}{S:List String}{t:String}(h:t∈(wV M S).map fun x=>x.1):t∈S∧∃s,aV t M=some s:=by
 obtain⟨y,hy,rfl⟩:=aU.mp h
 obtain⟨z,hz,rfl⟩:=aU.mp hy
 refine d9 (bt.mp hz) fun h1 h2=>?_
 exact⟨h1,dk.mp h2⟩
theorem Nc(ok:iH X)(ts:List iy)(i s n:Nat)(hs:s < if X.arab=true then 7 else 1):
 hit (qe (j9 X).M X.wish (j9 X).df X.arab ts i) (Hr (ox X (wV (j9 X).M ((eE X.arab (lv X)).getD s [])) ((s:Int)==jD X) n))=EV X (cY ts i) i s n:=by
 refine dH (Fp ok ts i) fun F hF F0 hL=>?_
 generalize hP:(eE X.arab (lv X)).getD s []=S
 have hmem:∀t,t∈S↔t∈(eE X.arab (lv X)).getD s []:=fun t=>by(erw[hP];with_reducible rfl)
 have hconF:∀(lk:List Nat) (m:Int),m∈rh lk m n↔n∈lk:=fun lk m=>by
  unfold rh
  rw[aU]
  constructor
  ·rintro⟨x,hx,_⟩
   refine d9 (bt.mp hx) fun h1 h2=>?_
   rw[beq_iff_eq]at h2;apply dE h2;exact h1
  ·intro h;exact⟨n,bt.mpr ⟨h,beq_self_eq_true _⟩,rfl⟩
 have hconF':∀(lk:List Nat) (m x:Int),x∈rh lk m n→x=m:=fun lk m x hx=>by
  unfold rh at hx
  (refine aM (aU.mp hx) fun z_ z_ q0_=>?_;subst q0_);rfl
 have mems:∀x,x∈ox X (wV (j9 X).M S) ((s:Int)==jD X) n↔(x=1∧((s:Int)==jD X)=true∧∃f,pZ X=some f∧n∈f.2)∨∃t sh pl,t∈S∧aV t (j9 X).M=some sh∧x=((2^sh:Nat):Int)∧pl∈Dh X t∧n∈zY X pl:=fun x=>by
  unfold ox
  rw[aH,rI]
  constructor
  ·rintro(h|⟨t,h1,h2⟩)
   ·left
    unfold ub at h
    by_cases hb:((s:Int)==jD X)=true
    ·replace h:=(if_pos hb)▸h
     cases hr:pZ X with
     |none=>rw[hr]at h;simp at h
     |some f=>
      replace h:=(hr)▸h
      have:=hconF' _ _ _ h
      subst this
      exact⟨rfl,hb,f,rfl,(hconF _ _).mp h⟩
    ·rw[if_neg hb]at h;simp at h
   ·right
    refine Qo (DY (fw.mp h1)) fun q1 sh q2=>?_
    unfold rg at h2
    (rw[uR]at h2;rw[if_pos q1]at h2;replace h2:=(q2)▸h2)
    simp only[jE]at h2
    by_cases hz:((2^sh:Nat):Int)=0
    ·rw[if_pos hz]at h2;simp at h2
    ·replace h2:=(if_neg hz)▸h2
     unfold KI at h2
     refine aM (rI.mp h2) fun pl p1 p2=>?_
     have:=hconF' _ _ _ p2
     subst this
     exact⟨t,sh,pl,q1,q2,rfl,p1,(hconF _ _).mp p2⟩
  ·rintro(⟨rfl,hb,f,hr,hn⟩|⟨t,sh,pl,q1,q2,rfl,p1,p2⟩)
   ·left
    unfold ub
    (erw[if_pos hb,hr])
    exact(hconF _ _).mpr hn
   ·right
    have hlw:aV t (wV (j9 X).M S)=some ((2^sh:Nat):Int):=by(erw[uR,if_pos q1,q2]);rfl
    refine⟨t,fw.mpr (aU.mpr ⟨_,fy hlw,rfl⟩),?_⟩
    unfold rg
    (erw[hlw])
    have hz:((2^sh:Nat):Int)≠0:=by
     have:(2^sh:Nat)≠0:=DR.mp (Nat.pow_pos (by decide))
     omega
    simp only[hz,if_false]
    unfold KI
    exact rI.mpr ⟨pl,p1,(hconF _ _).mpr p2⟩
 rw[Kn hF _ fun x hx=>by
  rcases(mems x).mp hx with⟨rfl,_⟩|⟨_,sh,_,_,_,rfl,_⟩
  ·exact⟨_,HB.one⟩
  ·exact⟨_,HB.pow sh⟩]
 (refine(fP).mpr ?_;rw[dW])
 unfold EV
 rw[dW]
 constructor
 ·rintro⟨x,hx,hh⟩
  rcases(mems x).mp hx with⟨rfl,hb,f,hr,hn⟩|⟨t,sh,pl,q1,q2,rfl,p1,p2⟩
  ·rcases uH ok with⟨c1,_⟩|⟨pl,f',c1,c2,c3⟩
   ·replace hr:=(c1)▸hr;exact bD hr
   ·rw[hr]at c1;(obtain rfl:=ab c1;clear c1)
    refine⟨pl,cg.mpr (ai.mp c3).1,?_⟩
    unfold tZ
    (erw[c3])
    dsimp only
    have h1:f.2.contains n=true:=cG.mpr hn
    have h2:((pl:Int)==X.req)=true:=by(erw[c2]);exact beq_self_eq_true _
    have h3:(!X.arab||stageL f.1==s)=true:=by
     have:=beq_iff_eq.mp hb
     unfold jD at this
     replace this:=(hr)▸this
     cases har:X.arab with
     |false=>rfl
     |true=>
      dsimp only at this
      rw[har,if_pos rfl]at this
      (erw[jA];(rw[iI];refine(beq_iff_eq).mpr ?_));lia
    (erw[h1,h2,h3]);rfl
  ·have hplm:=p1
   unfold Dh at hplm
   refine d9 (bt.mp hplm) fun r1 r2=>?_
   refine⟨pl,r1,?_⟩
   have hpl:=cg.mp r1
   have hf:X.feats[pl]?=some X.feats[pl]:=an hpl
   unfold nL at r2
   (rw[hf]at r2;replace r2:=eq_of_beq r2)
   unfold zY at p2
   rw[hf]at p2
   unfold tZ
   (erw[hf])
   dsimp only at r2 p2 ⊢
   have hlaw:t∈d5:=by(erw[←r2]);exact(ok.fp _ (gy hpl)).1
   have hft:mF X t=true:=sX.mpr ⟨pl,_,hf,r2⟩
   have h1:X.feats[pl].2.contains n=true:=cG.mpr p2
   have hst:=((uK hs hlaw).mp ((hmem t).mp q1)).2
   have h3:(!X.arab||stageL X.feats[pl].1==s)=true:=by
    cases har:X.arab with
    |false=>rfl
    |true=>(erw[jA];(rw[iI];refine(beq_iff_eq).mpr ?_);erw[r2]);exact hst har
   have hc:countsL t X.arab (cY ts i) i X.wish=true:=by
    refine(hL t hft).mp ⟨sh,q2,?_⟩
    rw[←hF.hit_pow];exact hh
   (erw[h1,h3,r2,hc]);exact gN _
 ·rintro⟨pl,r1,r2⟩
  have hpl:=cg.mp r1
  have hf:X.feats[pl]?=some X.feats[pl]:=an hpl
  unfold tZ at r2
  rw[hf]at r2
  dsimp only at r2
  rw[bf,bf]at r2
  obtain⟨⟨h1,h3⟩,h2⟩:=r2
  have hn:n∈X.feats[pl].2:=cG.mp h1
  by_cases hr:((pl:Int)==X.req)=true
  ·have hreq:=beq_iff_eq.mp hr
   refine⟨1,(mems 1).mpr (.inl ⟨rfl,?_,X.feats[pl],?_,hn⟩),?_⟩
   ·(refine(beq_iff_eq).mpr ?_)
    have hrf:pZ X=some X.feats[pl]:=by
     unfold pZ
     (rw[if_pos (by omega)];erw[←hreq];rw[hO]);exact hf
    unfold jD
    (erw[hrf])
    dsimp only
    cases har:X.arab with
    |false=>
     rw[har,if_neg (by decide)]at hs
     rw[if_neg (by decide)];lia
    |true=>
     rw[har,jA,iI,beq_iff_eq]at h3
     (erw[if_pos rfl,h3];with_reducible rfl)
   ·unfold pZ
    (rw[if_pos (by omega)];erw[←hreq];rw[hO]);exact hf
   ·(erw[show(1:Int)=((2^0:Nat):Int)from rfl];rw[hF.hit_pow];erw[F0];with_reducible rfl)
  ·rw[ca]at hr
   rw[hr,iI]at h2
   have hft:mF X X.feats[pl].1=true:=sX.mpr ⟨pl,_,hf,rfl⟩
   refine aM ((hL _ hft).mpr h2) fun sh q1 q2=>?_
   have hlaw:=sW ok hft
   refine⟨((2^sh:Nat):Int),(mems _).mpr (.inr ⟨X.feats[pl].1,sh,pl,?_,q1,rfl,?_,?_⟩),?_⟩
   ·rw[hmem]
    refine(uK hs hlaw).mpr ⟨vP ok q1,fun har=>?_⟩
    rw[har,jA,iI,beq_iff_eq]at h3
    exact h3
   ·unfold Dh
    refine bt.mpr ⟨r1,?_⟩
    unfold nL;(erw[hf]);exact beq_self_eq_true _
   ·unfold zY;(erw[hf]);exact hn
   ·(rw[hF.hit_pow];erw[q2];with_reducible rfl)
theorem yp(ok:iH X)(ts:List iy)(i:Nat)(g:Int):Hs X (o7 X) (qe (j9 X).M X.wish (j9 X).df X.arab ts i) g=kI X (cY ts i) i g:=by
 unfold Hs o7 kI
 (rw[wc _ [],qa];erw[List.foldl_map])
 refine qR (fun s hs g=>?_) g
 rw[cg]at hs
 unfold gS Ks
 rw[qo]
 refine qR (fun n hn g=>?_) g
 unfold oU
 (refine(Nc ok ts i s n hs)▸?_)
 have hzero:(ox X (wV (j9 X).M ((eE X.arab (lv X)).getD s [])) ((s:Int)==jD X) n).isEmpty=true→hit (qe (j9 X).M X.wish (j9 X).df X.arab ts i) (Hr (ox X (wV (j9 X).M ((eE X.arab (lv X)).getD s [])) ((s:Int)==jD X) n))=false:=fun h=>by
  (erw[cZ.mp h])
  refine aM (Fp ok ts i) fun F hF z_=>?_
  exact ym hF
 unfold hit at hzero ⊢
 cases he:(ox X (wV (j9 X).M ((eE X.arab (lv X)).getD s [])) ((s:Int)==jD X) n).isEmpty with
 |true=>
  (erw[hzero he,jA];rw[if_neg (by decide),if_neg (by decide)])
 |false=>(erw[Mb,if_pos rfl];with_reducible rfl)
theorem E4(X:bQ):∀S∈o7 X,∀p∈S,p.1 < X.maps.length:=by
 intro S hS p hp
 unfold o7 at hS
 refine fH (bW hS) fun i hi=>?_
 rw[bh]at hi
 (refine gh hi fun T z_ q0_=>?_;subst q0_)
 (refine aM (aU.mp hp) fun n hn q0_=>?_;subst q0_)
 exact cg.mp (bt.mp hn).1
end
section
variable{d:Nat}{H H₀:MH}{X:bQ}{A:fR}{P:MV→MH→Prop}
theorem o9{C i:Nat}{args:List MV}(hi:dz.init C=some i)(hn:dz.isFn C=false)(w:WC (cn (d+1)) i (.ref H.length::args) (H++[.inst C []]) fun v H'=>v=.none∧P (.ref H.length) H'):U (e9 dz (cn (d+1)) (.stat (.ref C)) args) H P:=by
 obtain⟨⟨v,H',e,rfl,q⟩⟩:=w
 refine U.of (fun l'=>?_) q
 unfold e9
 dsimp only
 (erw[hn,hi])
 show((cn (d+1) i (.ref H.length::args) (H++[.inst C []])).map _).bind _=_
 (erw[e]);rfl
theorem wr{H':MH}{o o':MO}(g:Gr (H++[o]) H'):Gr H (H'.set H.length o'):=((Gr.app H [o]).trans g).setN (.inr (aY _))
theorem v6{H':MH}{o o':MO}{p:Nat}(n:Nu (H++[o]) o' p H'):H.length≠p:=fun e=>aC.mpr n.le (e▸(by(erw[aJ]);exact d4 _))
theorem qJ{rq:MV}{q:Nat}{vs:List MV}(h:H[q]?=some (.list vs))(hn:vs.length≤1000)(k:∀H' (r r2:Nat),Gr H H'→H'[r]?=some (.inst 1897 [("required",rq),("features",.ref r2)])→H'[r2]?=some (.list vs)→P (.ref r) H'):U (e9 dz (cn (d+1)) (.stat (.ref 1897)) [rq,.ref q]) H P:=by
 refine o9 (i:=1887) (by kernel_rfl) (by kernel_rfl) (bC Jj rfl (ce (ft _ _) (aA rfl) (by kernel_rfl) ?_))
 (erw[iS])
 exact sq (oE (oV (tA h)) hn fun p H₁ n1=>ce (n1.gr.at (ft _ _)) (aA rfl) (by kernel_rfl) ⟨rfl,k _ _ _ (wr n1.gr) (cB (n1.gr.at (ft _ _))) (fQ n1.at_ (v6 n1))⟩)
theorem xV{tg:MV}{q:Nat}{vs:List MV}(h:H[q]?=some (.list vs))(hn:vs.length≤1000)(k:∀H' (r r2:Nat),Gr H H'→H'[r]?=some (.inst 1951 [("tag",tg),("lookups",.ref r2)])→H'[r2]?=some (.list vs)→P (.ref r) H'):U (e9 dz (cn (d+1)) (.stat (.ref 1951)) [tg,.ref q]) H P:=by
 refine o9 (i:=1941) (by kernel_rfl) (by kernel_rfl) (bC Jh rfl (ce (ft _ _) (aA rfl) (by kernel_rfl) ?_))
 (erw[iS])
 exact sq (oE (oV (tA h)) hn fun p H₁ n1=>ce (n1.gr.at (ft _ _)) (aA rfl) (by kernel_rfl) ⟨rfl,k _ _ _ (wr n1.gr) (cB (n1.gr.at (ft _ _))) (fQ n1.at_ (v6 n1))⟩)
theorem xW{q:Nat}(h:H[q]?=some (.dict iW))(k:∀H' (r r2:Nat),Gr H H'→H'[r]?=some (.inst 1726 [("codes",.ref r2),("variations",.none)])→H'[r2]?=some (.dict iW)→P (.ref r) H'):U (e9 dz (cn (d+1)) (.stat (.ref 1726)) [.ref q]) H P:=by
 have e:ou (H++[MO.inst 1726 []]) (.ref q)=some iW:=by
  unfold ou pC;dsimp only;(erw[tA (L:=[MO.inst 1726 []]) h]);kernel_rfl
 exact o9 (i:=1704) (by kernel_rfl) (by kernel_rfl) (bC Jr rfl (au e (bn fun p H₁ n1=>ce (n1.gr.at (ft _ _)) (aA rfl) (by kernel_rfl) (sq (ce (cB (n1.gr.at (ft _ _))) (aA rfl) (by kernel_rfl) ⟨rfl,k _ _ _ ((wr n1.gr).setN (.inr (aY _))) (cB (cB (n1.gr.at (ft _ _)))) (fQ (fQ n1.at_ (v6 n1)) (v6 n1))⟩)))))
theorem xU{a b c:MV}{q q2:Nat}{vs us:List MV}(h:H[q]?=some (.list vs))(hn:vs.length≤1000)(h2:H[q2]?=some (.list us))(hn2:us.length≤1000)
 (k:∀p H',Nu H (.inst 1065 [("units",a),("ascent",b),("descent",c),("advances",.tup vs),("bearings",.tup us)]) p H'→P (.ref p) H'):U (e9 dz (cn (d+1)) (.stat (.ref 1065)) [a,b,c,.ref q,.ref q2]) H P:=by
 refine o9 (i:=1048) (by kernel_rfl) (by kernel_rfl) (bC JZ rfl (ce (ft _ _) (aA rfl) (by kernel_rfl) ?_))
 (erw[iS])
 refine sq (ce (ft _ _) (aA rfl) (by kernel_rfl) ?_)
 (erw[iS])
 refine sq (ce (ft _ _) (aA rfl) (by kernel_rfl) ?_)
 (erw[iS])
 refine sq (BE (di (tA h)) hn (ce (ft _ _) (aA rfl) (by kernel_rfl) ?_))
 (erw[iS])
 refine sq (BE (di (tA h2)) hn2 (ce (ft _ _) (aA rfl) (by kernel_rfl) ?_))
 (erw[iS])
 exact⟨rfl,k _ _ (Nu.mk' _ _)⟩
theorem Fg{a b c:MV}(k:∀H' (r:Nat) e f,Gr H H'→H'[r]?=some (.inst 1862 [("classes",a),("attach",b),("sets",c),("points",e),("carets",f)])→P (.ref r) H'):U (e9 dz (cn (d+1)) (.stat (.ref 1862)) [a,b,c]) H P:=by
 refine o9 (i:=1833) (by kernel_rfl) (by kernel_rfl) (bC Jm rfl (ce (ft _ _) (aA rfl) (by kernel_rfl) ?_))
 (erw[iS])
 refine sq (ce (ft _ _) (aA rfl) (by kernel_rfl) ?_)
 (erw[iS])
 refine sq (ce (ft _ _) (aA rfl) (by kernel_rfl) ?_)
 (erw[iS])
 exact sq (au ky (au (a:=[]) rfl (bn fun p H₁ n1=>ce (n1.gr.at (ft _ _)) (aA rfl) (by kernel_rfl) (sq (au ky (au (a:=[]) rfl (bn fun p2 H₂ n2=>ce (n2.gr.at (cB (n1.gr.at (ft _ _)))) (aA rfl) (by kernel_rfl) ⟨rfl,k _ _ _ _ (((wr n1.gr).trans n2.gr).setN (.inr (aY _))) (cB (n2.gr.at (cB (n1.gr.at (ft _ _)))))⟩)))))))
theorem Ff{Q:MV→MH→Prop}
 (k:∀H' (gd gc gdd:Nat) a b c e,Gr H H'→H'[gd]?=some (.inst 1862 [("classes",.ref gc),("attach",a),("sets",b),("points",c),("carets",e)])→H'[gc]?=some (.inst 1814 [("classes",.ref gdd)])→H'[gdd]?=some (.dict [])→Q (.ref gd) H'):WC (cn (d+2)) 1873 [] H Q:=
 bC Jk rfl (au (a:=[]) rfl (bn fun p1 H₁ n1=>sH fun p2 H₂ n2=>au (a:=[]) rfl (bn fun p3 H₃ n3=>sH fun p4 H₄ n4=>bn fun p5 H₅ n5=>Fg fun H' r e f g h=>k H' r p2 p1 _ _ _ _ (((((n1.gr.trans n2.gr).trans n3.gr).trans n4.gr).trans n5.gr).trans g) h (g.at (n5.gr.at (n4.gr.at (n3.gr.at n2.at_)))) (g.at (n5.gr.at (n4.gr.at (n3.gr.at (n2.gr.at n1.at_))))))))
noncomputable def Dn(X:bQ)(ts:List iy)(i:Nat)(c:Int):IV:=
 ⟨c,kI X (cY ts i) i (gP c),i,qe (j9 X).M X.wish (j9 X).df X.arab ts i,false,100+3*kI X (cY ts i) i (gP c)⟩
theorem dw.gr{H':MH}(F:dw H X A)(g1:Gr H H'):dw H' X A:=by
 obtain⟨a1,a2,a3,a4,⟨be,a5⟩,⟨b1,b2,b3,b4,a6⟩,a7,a8,a9,a10,a11,a12,a13,a14,⟨vs,c1,c2,c3⟩,⟨us,e1,e2,e3⟩⟩:=F
 refine⟨g1.at a1,g1.at a2,g1.at a3,g1.at a4,⟨be,g1.at a5⟩,⟨b1,b2,b3,b4,g1.at a6⟩,g1.at a7,g1.at a8,g1.at a9,g1.at a10,g1.at a11,g1.at a12,g1.at a13,g1.at a14,⟨vs,g1.at c1,c2,fun i f hf=>?_⟩,⟨us,g1.at e1,e2,fun i es hes=>?_⟩⟩
 ·obtain⟨r,r2,q1,q2,q3⟩:=c3 i f hf
  exact⟨r,r2,q1,g1.at q2,g1.at q3⟩
 ·obtain⟨r,t,s,m,q1,q2,q3,q4,q5⟩:=e3 i es hes
  exact⟨r,t,s,m,q1,g1.at q2,g1.at q3,g1.at q4,g1.at q5⟩
theorem vO(F:dw H X A)(ok:iH X){p:Nat}{cs:List Int}(h:H[p]?=some (.list (cs.map .int)))(hl:cs.length≤7)(hc:∀c∈cs,c∈K7){wl:Nat}(hw:jY H wl X.wish){Q:MV→MH→Prop}
 (k:∀H' s r (us:List IV),Gr H H'→H'[s]?=some (rt r X.arab)→H'[r]?=some (.list ((if X.arab=true then us.reverse else us).map oS))→us.map cu=(cs.mapIdx (Dn X (cs.map gF))).map cu→Q (.ref s) H'):WC (cn (d+10)) 1684 [.ref A.font,.ref p,cc X.arab,.str "dflt",.ref wl] H Q:=by
 refine bC Js rfl (.of_eq (wj X.arab) (sq (au ky (zU F ok hw fun H₁ P pm ps pp g1 hP hM hpp hS=>sq ?_))))
 refine Cf (F.gr g1) (g1.at h) hl hc hP hM (uz X) (HL ok) hpp hS (ah ok.ml (by decide)) (E4 X) ok.mo (hw.gr g1) ok.wi fun H₂ s r us g2 q1 q2 q3=>k H₂ s r us (g1.trans g2) q1 q2 ?_
 (erw[q3])
 refine congrArg _ ?_
 apply bK;intro j
 (erw[bh,bh])
 cases cs[j]? with
 |none=>rfl
 |some c=>
  refine congrArg some ?_
  unfold N9 Dn
  rw[yp ok]
end
section
structure FA(H:MH)(pf p:Nat)(fs:List (String×List Nat)):Prop where
 ne:pf≠p
 at_:∃vs,H[pf]?=some (.list vs)∧vs.length=fs.length∧∀(i:Nat) f,fs[i]?=some f→∃r:Nat,r≠p∧r≠pf∧vs[i]?=some (.tup [.str (ag f.1),.ref r])∧H[r]?=some (.list (cJ f.2))
structure MA(H:MH)(pm p:Nat)(ms:List (List (MV×MV))):Prop where
 ne:pm≠p
 at_:∃vs,H[pm]?=some (.list vs)∧vs.length=ms.length∧∀(i:Nat) es,ms[i]?=some es→∃r:Nat,r≠p∧r≠pm∧vs[i]?=some (.ref r)∧H[r]?=some (.dict es)
theorem FA.mo{H H':MH}{pf p:Nat}{fs:List (String×List Nat)}(x:FA H pf p fs)(m:Mo (· =p) H H'):FA H' pf p fs:=by
 obtain⟨ne,vs,h1,h2,h3⟩:=x
 exact⟨ne,vs,m.at h1 ne,h2,fun i f e=>by refine gO (h3 i f e) fun r a b c e=>?_;exact⟨r,a,b,c,m.at e a⟩⟩
theorem MA.mo{H H':MH}{pf p:Nat}{ms:List (List (MV×MV))}(x:MA H pf p ms)(m:Mo (· =p) H H'):MA H' pf p ms:=by
 obtain⟨ne,vs,h1,h2,h3⟩:=x
 exact⟨ne,vs,m.at h1 ne,h2,fun i f e=>by refine gO (h3 i f e) fun r a b c e=>?_;exact⟨r,a,b,c,m.at e a⟩⟩
theorem FA.toF{H:MH}{pf p:Nat}{fs:List (String×List Nat)}(x:FA H pf p fs):lV H pf fs:=by
 obtain⟨ne,vs,h1,h2,h3⟩:=x
 exact⟨vs,h1,h2,fun i f e=>by refine gO (h3 i f e) fun r a b c e=>?_;exact⟨r,c,e⟩⟩
theorem MA.toM{H:MH}{pf p:Nat}{ms:List (List (MV×MV))}(x:MA H pf p ms):qz H pf ms:=by
 obtain⟨ne,vs,h1,h2,h3⟩:=x
 exact⟨vs,h1,h2,fun i f e=>by refine gO (h3 i f e) fun r a b c e=>?_;exact⟨r,c,e⟩⟩
noncomputable def fc(H:MH)(p N:Nat):Prop:=∃n,n≤N∧Le H p n
theorem fc.gr{H H':MH}{p N:Nat}(h:fc H p N)(g:Gr H H'):fc H' p N:=by
 obtain⟨n,hn,c,gg,s,cells,h1,h2,h3,h4⟩:=h
 exact⟨n,hn,c,gg,s,cells,g.at h1,h2,g.at h3,h4⟩
theorem fc.le{H:MH}{p N M:Nat}(h:fc H p N)(hNM:N≤M):fc H p M:=by
 (refine aM h fun n hn P=>?_;clear h)
 exact⟨n,ah hn hNM,P⟩
theorem fc.set{H:MH}{p N r:Nat}{o':MO}(h:fc H p N)(hne:p < r):fc (H.set r o') p N:=by
 obtain⟨n,hn,c,gg,s,cells,h1,h2,h3,h4⟩:=h
 exact⟨n,hn,c,gg,s,cells,fQ h1 (cj hne),h2,fQ h3 (cj (ck h2 hne)),h4⟩
theorem fc.lt{H:MH}{p N:Nat}(h:fc H p N):p < H.length:=by
 obtain⟨n,hn,c,gg,s,cells,h1,h2,h3,h4⟩:=h
 exact dm h1
variable{d:Nat}{H H₀:MH}{P:MV→MH→Prop}
theorem jq{p N:Nat}{m:Int}{Q:MV→MH→Prop}(hP:fc H p N)(hN:N < 900)(hm:0 < m)(hm2:m < 1000)
 (k:∀(r:Nat) H',(r:Int) < m→Mo (· =p) H H'→fc H' p (N+1)→Q (.int r) H'):WC (cn (d+1)) 2009 [.ref p,.int m] H Q:=by
 (refine aM hP fun n hn P=>?_;clear hP)
 refine RN P (aL hn (ck hN (by decide))) hm hm2 fun r H' r0 r1 m' P'=>?_
 (refine fH (l9 r0) fun x q0_=>?_;subst q0_)
 exact k x H' r1 m' ⟨n+1,gB hn,P'⟩
noncomputable def so(L:List Nat):List Nat:=(jR (L.map fun(n:Nat)=>(n:Int))).map Int.toNat
theorem sn(L:List Nat):(jR (L.map fun(n:Nat)=>(n:Int))).map MV.int=cJ (so L)∧(so L).length=L.length∧∀n∈so L,n∈L:=by
 have hp:=jn (L.map fun(n:Nat)=>(n:Int))
 have hm:∀x∈jR (L.map fun(n:Nat)=>(n:Int)),∃n:Nat,n∈L∧x=(n:Int):=fun x hx=>by
  obtain⟨n,hn,rfl⟩:=aU.mp (hp.mem_iff.mp hx)
  exact⟨n,hn,rfl⟩
 refine⟨?_,?_,fun n hn=>?_⟩
 ·unfold so cJ
  (erw[bc])
  refine bL fun x hx=>?_
  (refine aM (hm x hx) fun n z_ q0_=>?_;first|apply dE q0_|apply d6 q0_)
  rfl
 ·unfold so
  (rw[aj];erw[hp.length_eq];rw[aj])
 ·skip
  obtain⟨x,hx,rfl⟩:=aU.mp hn
  (refine aM (hm x hx) fun n' hn' q0_=>?_;first|apply dE q0_|apply d6 q0_)
  exact hn'
theorem K6{q:Nat}{L:List Nat}(h:H[q]?=some (.list (cJ L)))(hn:L.length≤60)(k:∀p H',Nu H (.list (cJ (so L))) p H'→P (.ref p) H'):U (iG (.builtin "sorted") [.ref q]) H P:=U.of (fun l=>by
 have e:cJ L=(L.map fun(n:Nat)=>(n:Int)).map .int:=by unfold cJ;(erw[bc]);rfl
 show(gA H (.ref q)).bind _=_
 rw[show gA H (.ref q)=some (cJ L) by unfold gA;dsimp only;(erw[h];with_reducible rfl)]
 show(if 60 < (cJ L).length then none else(kU (cJ L)).bind _)=_
 (rw[if_neg (by rw[dx];exact aC.mpr hn)];erw[e])
 unfold kU
 (rw[jT];refine((sn L).1)▸?_);rfl) (k _ _ (Nu.mk' _ _))
noncomputable abbrev gU:List (PM MF):=AQ (cn 13)
structure T1(p:Nat)(ar:Bool)(L:dn):Prop where
 po:L 94=some (.ref p)
 ta:L 120=some (cc ar)
theorem QP{sc:List Int}(hs:sc.length≤63){L₀:dn}(h0:L₀ 102=some (.flist (sc.map .int))){Q:aT MF}(k:∀L H' p ar,T1 p ar L→fc H' p 1→eG (gD (gU.drop 2)) L H' Q):
 (gD gU).wp L₀ H Q:=by
 refine ay h0 (Kg hs fun p H₁ g1 z_ P=>sq (bn fun q H₂ n2=>?_))
 have P1:fc H₂ p 0:=fc.gr ⟨0,aY _,P⟩ n2.gr
 refine jq P1 (by decide) (by decide) (by decide) fun r H₃ hr m3 P3=>?_
 have hne:q≠p:=(aS (av (fc.lt ⟨0,aY _,P⟩) n2.le)).symm
 have a2:=m3.at n2.at_ hne
 match r,hr with
 |0,_=>
  have gi:bp H₃ (.ref q) (.int ((0:Nat):Int))=some (.str (ag "arab")):=(cv a2 (by decide)).trans rfl
  exact au gi (k _ _ p true ⟨rfl,rfl⟩ P3)
 |1,_=>
  have gi:bp H₃ (.ref q) (.int ((1:Nat):Int))=some (.str (ag "latn")):=(cv a2 (by decide)).trans rfl
  exact au gi (k _ _ p false ⟨rfl,rfl⟩ P3)
 |n+2,h=>exact absurd h (by omega)
noncomputable def vy(fs:List (String×List Nat)):Prop:=∀f∈fs,f.1∈d5∧f.2.length≤2
theorem Ee{n:Nat}(h:n < 10):∃t,t∈d5∧bp H (.tup (eA d5)) (.int n)=some (.str (ag t)):=by
 refine⟨d5[n]'(by exact h),gy _,?_⟩
 (erw[mH (ck h (by decide)),aq,an (show n < d5.length from h)]);rfl
structure F2(p pf:Nat)(ar:Bool)(i:Nat)(L:dn)(H':MH):Prop where
 t1:T1 p ar L
 fe:L 34=some (.ref pf)
 po:fc H' p (2+4*i)
 fs:∃fs,FA H' pf p fs∧vy fs∧fs.length=i
theorem AP{α:Type}{l:List α}{x y:α}{i:Nat}(h:(l++[x])[i]?=some y)(hi:¬i < l.length):i=l.length∧y=x:=by
 have h1:=(ai.mp h).1
 rw[aJ]at h1
 have:i=l.length:=fT (fX h1) (aC.mp hi)
 subst this
 rw[cC]at h
 exact⟨rfl,(ab h).symm⟩
theorem FA.add{pf p:Nat}{fs:List (String×List Nat)}(x:FA H pf p fs){vs:List MV}(hv:H[pf]?=some (.list vs)){t:String}{r:Nat}{L:List Nat}(hr:H[r]?=some (.list (cJ L)))(h1:r≠p)(h2:r≠pf):FA (H.set pf (.list (vs++[.tup [.str (ag t),.ref r]]))) pf p (fs++[(t,L)]):=by
 obtain⟨ne,vs',e1,e2,e3⟩:=x
 rw[hv]at e1;cases e1
 refine⟨ne,_,cB hv,by(erw[aJ,aJ,e2]);rfl,fun i f hf=>?_⟩
 by_cases hi:i < fs.length
 ·replace hf:=(aI hi)▸hf
  refine gO (e3 i f hf) fun r' a b c e=>?_
  exact⟨r',a,b,by(erw[aI (e2.symm▸hi)]);exact c,fQ e (bS b)⟩
 ·obtain⟨rfl,rfl⟩:=AP hf hi
  exact⟨r,h1,h2,by(erw[←e2,cC];with_reducible rfl),fQ hr (bS h2)⟩
theorem FA.len{pf p:Nat}{fs:List (String×List Nat)}(x:FA H pf p fs){vs:List MV}(h:H[pf]?=some (.list vs)):vs.length=fs.length:=by
 obtain⟨_,vs',e1,e2,_⟩:=x
 replace e1:=(h)▸e1;cases e1;exact e2
theorem vy.add{fs:List (String×List Nat)}(h:vy fs){t:String}{L:List Nat}(ht:t∈d5)(hL:L.length≤2):vy (fs++[(t,L)]):=fun f hf=>by
 rcases aH.mp hf with hf|hf
 ·exact h f hf
 ·(erw[ax.mp hf]);exact⟨ht,hL⟩
theorem QO{L₀:dn}{p:Nat}{ar:Bool}(h1:T1 p ar L₀)(hP:fc H p 1){Q:aT MF}
 (k:∀L H' pf fs,T1 p ar L→L 34=some (.ref pf)→fc H' p 30→FA H' pf p fs→vy fs→1≤fs.length→fs.length≤5→eG (gD (gU.drop 4)) L H' Q):
 eG (gD (gU.drop 2)) L₀ H Q:=by
 obtain⟨po,ta⟩:=h1
 refine sq (bn fun pf H₁ n1=>sq (ay po (jq (hP.gr n1.gr) (by decide) (by decide) (by decide) fun r H₂ hr m2 P2=>?_)))
 have hpp:p < pf:=av hP.lt n1.le
 have hne:pf≠p:=cj hpp
 refine cP (b:=((1+r:Nat):Int)) (eK (by omega)) ?_
 refine gL (fun i L H'=>F2 p pf ar i L H') (by omega) ⟨⟨po,ta⟩,rfl,P2,[],⟨hne,[],m2.at n1.at_ hne,rfl,fun i f h=>by exact bD h⟩,fun f hf=>absurd hf bR,rfl⟩ (fun i L H₃ hi hI K kk=>?_) fun L H₃ hI=>?_
 ·obtain⟨⟨f1,f2⟩,f3,P3,fs,fa,fo,fl⟩:=hI
  refine ay f1 (jq P3 (by omega) (by decide) (by decide) fun r4 H₄ hr4 m4 P4=>?_)
  refine aM (Ee (H:=H₄) (n:=r4) (by omega)) fun t ht gi=>?_
  have fa4:=fa.mo m4
  obtain⟨_,vs4,v1,v2,v3⟩:=id fa4
  refine au gi (sq (ay f3 (au (gK v1 rfl) (ay f1 (jq P4 (by omega) (by decide) (by decide) fun r5 H₅ hr5 m5 P5=>?_)))))
  refine cP (b:=((1+r5:Nat):Int)) (eK (by omega)) ?_
  refine fN (fun j acc L H'=>Mo (· =p) H₅ H'∧L 94=some (.ref p)∧fc H' p (4+4*i+j)∧∃N:List Nat,acc=cJ N∧N.length=j) (by omega) ⟨Mo.refl _ _,f1,P5.le (by lia),[],rfl,rfl⟩ (fun j acc L H₆ hj hI K' k0 k1=>?_) fun acc L₆ H₆ hI=>?_
  ·obtain⟨m6,q1,P6,N,rfl,hN⟩:=hI
   exact ay q1 (jq P6 (by lia) (by decide) (by decide) fun r7 H₇ hr7 m7 P7=>k1 _ _ _ ⟨m6.trans m7,q1,P7.le (aY _),N++[r7],by unfold cJ;rw[aB];rfl,by rw[aJ,hN];rfl⟩)
  ·obtain⟨m6,q1,P6,N,rfl,hN⟩:=hI
   refine⟨by rw[dx];omega,bn fun cq H₇ n7=>K6 n7.at_ (by omega) fun sp H₈ n8=>?_⟩
   have mm:Mo (· =p) H₄ H₈:=(m5.trans m6).trans (n7.gr.trans n8.gr).mo
   have v1':H₈[pf]?=some (.list vs4):=mm.at v1 hne
   have hpf:pf < H₇.length:=dm (n7.gr.at ((m5.trans m6).at v1 hne))
   have hsp:pf < sp:=av hpf n8.le
   have hsN:=(sn N).2.1
   exact lg v1' (by lia) (kk.next _ _ ⟨⟨f1,f2⟩,f3,((P6.gr (n7.gr.trans n8.gr)).set hpp).le (by omega),fs++[(t,so N)],(fa4.mo mm).add v1' n8.at_ (cj (ck hpp hsp)) (cj hsp),fo.add ht (by omega),by rw[aJ,fl];rfl⟩)
 ·obtain⟨h1,f3,P3,fs,fa,fo,fl⟩:=hI
  exact k L H₃ pf fs h1 f3 (P3.le (by omega)) fa fo (by omega) (by omega)
end
section
variable{d:Nat}{H H₀:MH}{PP:MV→MH→Prop}
noncomputable def O5(L:List (Int×MV)):Prop:=∀x∈L,∃g':Int,x.2=.int g'∧0≤g'∧g' < 40
theorem J7{L:List (Int×MV)}(h:O5 L)(k g:Int)(h0:0≤g)(h1:g < 40):O5 (mn k (.int g) L):=by
 induction L with
 |nil=>intro x hx;(rw[mn]at hx;replace hx:=(ax).mp hx);apply d6 hx;exact⟨g,rfl,h0,h1⟩
 |cons a r ih=>
  obtain⟨s,u⟩:=a
  intro x hx
  unfold mn at hx
  split at hx
  ·rcases aF.mp hx with rfl|hx
   ·exact⟨g,rfl,h0,h1⟩
   ·exact h x (br _ hx)
  ·rcases aF.mp hx with rfl|hx
   ·exact h _ (.head _)
   ·exact ih (fun y hy=>h y (br _ hy)) x hx
theorem C2{c:Int}{v:MV}{L:List (Int×MV)}(h:i7 c L=some v):(c,v)∈L:=by
 induction L with
 |nil=>exact bD h
 |cons a r ih=>
  obtain⟨s,u⟩:=a
  unfold i7 at h
  by_cases e:s=c
  ·rw[if_pos e]at h;(obtain rfl:=ab h;clear h);apply dE e;exact .head _
  ·rw[if_neg e]at h;exact br _ (ih h)
theorem J8{L:List (Int×MV)}(h:O5 L):jt (lK L):=fun g=>⟨_,tf g L,fun v hv=>by
 refine aM (h _ (C2 hv)) fun g' e h=>?_
 exact⟨g',e,h⟩⟩
theorem s9:∀(P:List (Int×Int)) (L:List (Int×MV)),O5 L→(∀x∈P,0≤x.2∧x.2 < 40)→∃L',iF (P.map fun x=>(MV.int x.1,MV.int x.2)) (lK L)=some (lK L')∧O5 L'
 |[],L,h,_=>⟨L,rfl,h⟩
 |(a,b)::r,L,h,hP=>by
  have hb:=hP (a,b) (.head _)
  refine aM (s9 r (mn a (.int b) L) (J7 h a b hb.1 hb.2) fun x hx=>hP x (br _ hx)) fun L' e h'=>?_
  refine⟨L',?_,h'⟩
  show(if i9 (.int a)then(l6 (.int a) (.int b) (lK L)).bind (iF _)else none)=_
  rw[u7]
  exact e
theorem qG:∀(P:List (Int×Int)),jw (DP P)=some (P.map fun x=>(MV.int x.1,MV.int x.2))
 |[]=>rfl
 |(a,b)::r=>by
  show(jw (DP r)).map ((MV.int a,MV.int b):: ·)=_
  (erw[qG r]);rfl
theorem BG{q:Nat}{vs:List MV}{ps es:List (MV×MV)}(h:H[q]?=some (.list vs))(hn:vs.length≤1000)(hp:jw vs=some ps)(hd:iF ps []=some es)(k:∀p H',Nu H (.dict es) p H'→PP (.ref p) H'):U (iG (.type "dict") [.ref q]) H PP:=U.of (fun l=>by
 show(cy H (.ref q)).bind _=_
 (erw[di h])
 show(if gj vs.length=true then none else _)=_
 (erw[jH hn,hp])
 show(iF ps []).bind _=_
 (erw[hd]);rfl) (k _ _ (Nu.mk' _ _))
theorem Lc{q:Nat}{P:List (Int×Int)}(h:H[q]?=some (.list (DP P)))(hn:P.length≤1000)(hP:∀x∈P,0≤x.2∧x.2 < 40)(k:∀es p H',jt es→Nu H (.dict es) p H'→PP (.ref p) H'):U (iG (.type "dict") [.ref q]) H PP:=by
 refine aM (s9 P [] (fun x hx=>absurd hx bR) hP) fun L' e h'=>?_
 exact BG h (by rw[aj];exact hn) (qG P) e fun p H' n=>k _ p H' (J8 h') n
structure T2(p pf:Nat)(ar:Bool)(L:dn):Prop where
 t1:T1 p ar L
 fe:L 34=some (.ref pf)
structure F3(p pf pm:Nat)(ar:Bool)(fs:List (String×List Nat))(i:Nat)(L:dn)(H':MH):Prop where
 t2:T2 p pf ar L
 ma:L 79=some (.ref pm)
 po:fc H' p (31+2*i)
 fs_:FA H' pf p fs
 ms:∃ms,MA H' pm p ms∧(∀es∈ms,jt es)∧ms.length=i
theorem MA.add{pm p:Nat}{ms:List (List (MV×MV))}(x:MA H pm p ms){vs:List MV}(hv:H[pm]?=some (.list vs)){r:Nat}{es:List (MV×MV)}(hr:H[r]?=some (.dict es))(h1:r≠p)(h2:r≠pm):MA (H.set pm (.list (vs++[.ref r]))) pm p (ms++[es]):=by
 obtain⟨ne,vs',e1,e2,e3⟩:=x
 replace e1:=(hv)▸e1;cases e1
 refine⟨ne,_,cB hv,by(erw[aJ,aJ,e2]);rfl,fun i f hf=>?_⟩
 by_cases hi:i < ms.length
 ·replace hf:=(aI hi)▸hf
  refine gO (e3 i f hf) fun r' a b c e=>?_
  exact⟨r',a,b,by(erw[aI (e2.symm▸hi)]);exact c,fQ e (bS b)⟩
 ·obtain⟨rfl,rfl⟩:=AP hf hi
  exact⟨r,h1,h2,by(erw[←e2,cC];with_reducible rfl),fQ hr (bS h2)⟩
theorem MA.len{pm p:Nat}{ms:List (List (MV×MV))}(x:MA H pm p ms){vs:List MV}(h:H[pm]?=some (.list vs)):vs.length=ms.length:=by
 obtain⟨_,vs',e1,e2,_⟩:=x
 replace e1:=(h)▸e1;cases e1;exact e2
theorem FA.setO{pf p r:Nat}{fs:List (String×List Nat)}{o':MO}(x:FA H pf p fs)(h:∀r':Nat,(∃f,f∈fs∧H[r']?=some (.list (cJ f.2)))∨r'=pf→r'≠r):FA (H.set r o') pf p fs:=by
 obtain⟨ne,vs,h1,h2,h3⟩:=x
 refine⟨ne,vs,fQ h1 (bS (h pf (.inr rfl))),h2,fun i f e=>?_⟩
 refine gO (h3 i f e) fun r' a b c e'=>?_
 exact⟨r',a,b,c,fQ e' (bS (h r' (.inl ⟨f,ak e,e'⟩)))⟩
theorem FA.below{H':MH}{pf p lo:Nat}{fs:List (String×List Nat)}(x:FA H pf p fs)(hl:H.length≤lo)(m:Mo (fun q=>q=p∨lo≤q) H H'):FA H' pf p fs:=by
 obtain⟨ne,vs,h1,h2,h3⟩:=x
 refine⟨ne,vs,m.at h1 fun q=>q.elim ne fun q=>aC.mpr q (av (dm h1) hl),h2,fun i f e=>?_⟩
 refine gO (h3 i f e) fun r' a b c e'=>?_
 exact⟨r',a,b,c,m.at e' fun q=>q.elim a fun q=>aC.mpr q (av (dm e') hl)⟩
structure D3(step few:Int)(H:MH)(i:Nat)(acc:List MV)(L:dn)(H':MH):Prop where
 hp:H'=H
 st_:L 116=some (.int step)
 fe:L 35=some (.int few)
 ac:∃P:List (Int×Int),acc=DP P∧P.length≤i∧∀x∈P,0≤x.2∧x.2 < 40
theorem QN{L₀:dn}{p pf:Nat}{ar:Bool}{fs:List (String×List Nat)}(h2:T2 p pf ar L₀)(hP:fc H p 30)(hF:FA H pf p fs){Q:aT MF}
 (k:∀L H' pm ms,T2 p pf ar L→L 79=some (.ref pm)→fc H' p 60→FA H' pf p fs→MA H' pm p ms→(∀es∈ms,jt es)→1≤ms.length→ms.length≤6→eG (gD (gU.drop 6)) L H' Q):
 eG (gD (gU.drop 4)) L₀ H Q:=by
 obtain⟨⟨po,ta⟩,fe⟩:=h2
 refine sq (bn fun pm H₁ n1=>sq (ay po (jq (hP.gr n1.gr) (by decide) (by decide) (by decide) fun r H₂ hr m2 P2=>?_)))
 have hlt:p < pm:=av hP.lt n1.le
 have hne:pm≠p:=cj hlt
 have base:∀{H':MH},Mo (fun q=>q=p∨pm≤q) H₁ H'→FA H' pf p fs:=fun m=>hF.below n1.le (n1.gr.mo.trans m)
 have w:∀{H H':MH},Mo (· =p) H H'→Mo (fun q=>q=p∨pm≤q) H H':=fun m=>m.weaken fun z_ z_ q=>.inl q
 refine cP (b:=((1+r:Nat):Int)) (eK (by omega)) ?_
 refine gL (fun i L H'=>Mo (fun q=>q=p∨pm≤q) H₁ H'∧F3 p pf pm ar fs i L H') (by omega) ⟨w m2,⟨⟨po,ta⟩,fe⟩,rfl,P2,base (w m2),[],⟨hne,[],m2.at n1.at_ hne,rfl,fun i f h=>by exact bD h⟩,fun f hf=>absurd hf bR,rfl⟩ (fun i L H₃ hi hI K kk=>?_) fun L H₃ hI=>?_
 ·obtain⟨mm,⟨⟨f1,f2⟩,f3⟩,f4,P3,fa,ms,hma,mo,ml⟩:=hI
  refine ay f1 (jq P3 (by omega) (by decide) (by decide) fun r4 H₄ hr4 m4 P4=>sq (ay f1 (jq P4 (by omega) (by decide) (by decide) fun r5 H₅ hr5 m5 P5=>?_)))
  have ma5:=(hma.mo m4).mo m5
  obtain⟨_,vs5,v1,v2,v3⟩:=id ma5
  refine sq (ay f4 (au (gK v1 rfl) (G0 (a:=((1:Nat):Int)) (b:=((40:Nat):Int)) rfl rfl ?_)))
  refine yL (vs:=kF 1 40) (fun j acc L H'=>D3 (7+(r4:Nat)) (1+(r5:Nat)) H₅ j acc L H') ⟨rfl,rfl,rfl,[],rfl,aY _,fun x hx=>absurd hx bR⟩ (og (a:=1) (b:=40)) (fun j acc L H' z_=>om (a:=1) (b:=40) (by decide) (by decide) j) (fun j y acc L₆ H₆ hy hI K' k0 k1=>?_) fun acc L₆ H₆ hI=>?_
  ·obtain⟨rfl,q1,q2,P,rfl,hPl,hPo⟩:=hI
   (rw[kF]at hy;replace hy:=(aq)▸hy)
   obtain⟨j',hj',rfl⟩:=az.mp hy
   refine ay q2 ⟨by lia,gQ (fun hb=>ay q1 ⟨by decide,k1 _ _ _ ⟨rfl,q1,q2,P++[(((1+j':Nat):Int),(((1+j':Nat):Int)+(7+(r4:Nat))).fmod 40)],by unfold DP;rw[aB];rfl,by rw[aJ];exact gB hPl,fun x hx=>?_⟩⟩) fun hb=>k0 _ _ ⟨rfl,q1,q2,P,rfl,lj hPl,hPo⟩⟩
   rcases aH.mp hx with hx|hx
   ·exact hPo x hx
   ·rw[ax.mp hx];exact jl (by decide)
  ·obtain⟨rfl,q1,q2,P,rfl,hPl,hPo⟩:=hI
   have hPl:P.length≤39:=hPl
   refine⟨by rw[aj];exact ah hPl (by decide),bn fun lq H₇ n7=>Lc n7.at_ (ah hPl (by decide)) hPo fun es dq H₈ hes n8=>?_⟩
   have g7:=n7.gr.trans n8.gr
   have v1':=g7.at v1
   have hdq:pm < dq:=av (dm (n7.gr.at v1)) n8.le
   have hm7:Mo (fun q=>q=p∨pm≤q) H₁ (H₈.set pm (.list (vs5++[.ref dq]))):=(((mm.trans (w m4)).trans (w m5)).trans g7.mo).setN (.inl (.inr (aY _)))
   refine lg v1' (by lia) (kk.next _ _ ⟨hm7,⟨⟨f1,f2⟩,f3⟩,f4,((P5.gr g7).set hlt).le (by lia),base hm7,ms++[es],(ma5.mo g7.mo).add v1' n8.at_ (cj (ck hlt hdq)) (cj hdq),?_,by rw[aJ,ml];rfl⟩)
   intro x hx
   rcases aH.mp hx with hx|hx
   ·exact mo x hx
   ·rw[ax.mp hx];exact hes
 ·obtain⟨mm,h2,f4,P3,fa,ms,hma,mo,ml⟩:=hI
  exact k L H₃ pm ms h2 f4 (P3.le (by omega)) fa hma mo (by omega) (by omega)
end
section
variable{d:Nat}{H H₀:MH}
structure T3(p pf pm:Nat)(ar:Bool)(L:dn):Prop where
 t2:T2 p pf ar L
 ma:L 79=some (.ref pm)
noncomputable def Dv(N:Nat)(fs:List (String×List Nat)):List (String×List Nat):=fs.map fun f=>(f.1,f.2.filter fun n=>decide (n < N))
structure R4(pm p:Nat)(N:Nat)(fs:List (String×List Nat))(H:MH)(i:Nat)(acc:List MV)(L:dn)(H':MH):Prop where
 gr:Gr H H'
 ma:L 79=some (.ref pm)
 le:acc.length=i
 ac:∀(j:Nat) f,j < i→fs[j]?=some f→∃r:Nat,H.length≤r∧acc[j]?=some (.tup [.str (ag f.1),.ref r])∧H'[r]?=some (.list (cJ (f.2.filter fun n=>decide (n < N))))
theorem QM{L₀:dn}{p pf pm:Nat}{ar:Bool}{fs:List (String×List Nat)}{ms:List (List (MV×MV))}(h3:T3 p pf pm ar L₀)(hP:fc H p 60)(hF:FA H pf p fs)(hfl:fs.length≤5)(hM:MA H pm p ms)(hml:ms.length≤6)(hfo:vy fs){Q:aT MF}
 (k:∀L H' q,T3 p q pm ar L→fc H' p 60→FA H' q p (Dv ms.length fs)→MA H' pm p ms→eG (gD (gU.drop 7)) L H' Q):
 eG (gD (gU.drop 6)) L₀ H Q:=by
 obtain⟨⟨⟨po,ta⟩,fe⟩,ma⟩:=h3
 obtain⟨nef,vs,v1,v2,v3⟩:=id hF
 obtain⟨nem,ws,w1,w2,w3⟩:=id hM
 refine sq (ay fe ?_)
 refine dG (vs:=vs) (fun i acc L H'=>R4 pm p ms.length fs H i acc L H') ⟨Gr.refl _,ma,rfl,fun j f hj=>absurd hj (fS _)⟩ (fun i acc L H' hI=>hI.gr.at v1) (fun i y acc L H₁ hy hI K k0 k1=>?_) fun acc L H₁ hI=>?_
 ·obtain⟨g1,f1,f2,f3⟩:=hI
  have hi:i < fs.length:=v2▸(ai.mp hy).1
  have hfi:fs[i]?=some fs[i]:=an hi
  generalize fs[i]=f at hfi
  refine gO (v3 i f hfi) fun r r1 r2 r3 r4=>?_
  rw[r3]at hy;(obtain rfl:=ab hy;clear hy)
  have hfm:=hfo f (ak hfi)
  refine dG (vs:=cJ f.2) (fun j acc L H'=>H'=H₁∧L 79=some (.ref pm)∧acc=cJ ((f.2.take j).filter fun n=>decide (n < ms.length))) ⟨rfl,f1,rfl⟩ (fun j acc L H' hI=>hI.1▸g1.at r4) (fun j y acc' L' H' hy hI K' k0' k1'=>?_) fun acc' L' H' hI=>?_
  ·obtain⟨rfl,q1,rfl⟩:=hI
   replace hy:=(aq)▸hy
   (refine gh hy fun n hn q0_=>?_;subst q0_)
   have tk:(f.2.take (j+1)).filter (fun n=>decide (n < ms.length))=(f.2.take j).filter (fun n=>decide (n < ms.length))++[n].filter fun n=>decide (n < ms.length):=by
    (erw[aO,hn];rw[cV]);rfl
   refine ay q1 (fj (n:=ms.length) ((cw (g1.at w1)).trans (congrArg some w2)) (ah hml (by decide)) (dc (fun h=>k1' _ _ _ ⟨rfl,q1,?_⟩) fun h=>k0' _ _ ⟨rfl,q1,?_⟩))
   ·(erw[tk,bG (p:=fun n=>decide (n < ms.length)) (decide_eq_true (dd.mp h))]);unfold cJ;(erw[aB]);rfl
   ·(erw[tk,bH (p:=fun n=>decide (n < ms.length)) (by rw[decide_eq_true_eq];exact fun q=>h (dd.mpr q))]);exact congrArg cJ (bk _).symm
  ·obtain⟨rfl,q1,rfl⟩:=hI
   (rw[dx];erw[aZ])
   refine⟨by rw[dx];exact ah (bB _ _) (ah hfm.2 (by decide)),bn fun cq H₂ n2=>k1 _ _ _ ⟨g1.trans n2.gr,f1,by(erw[aJ,f2]);rfl,fun j f' hj hf'=>?_⟩⟩
   by_cases hji:j < i
   ·obtain⟨r',c1,c3,c4⟩:=f3 j f' hji hf'
    exact⟨r',c1,by(erw[aI (f2▸hji)]);exact c3,n2.gr.at c4⟩
   ·have:j=i:=fT (fX hj) (aC.mp hji)
    subst this
    rw[hfi]at hf';(obtain rfl:=ab hf';clear hf')
    exact⟨cq,ah g1.1 n2.le,by(erw[←f2,cC];with_reducible rfl),n2.at_⟩
 ·obtain⟨g1,f1,f2,f3⟩:=hI
  refine⟨by lia,bn fun q H₂ n2=>?_⟩
  have g2:=g1.trans n2.gr
  refine k _ _ q ⟨⟨⟨po,ta⟩,rfl⟩,ma⟩ (hP.gr g2) ⟨(aS (av hP.lt (ah g1.1 n2.le))).symm,acc,n2.at_,by unfold Dv;rw[aj];exact f2.trans v2,fun j f hf=>?_⟩ (hM.mo g2.mo)
  unfold Dv at hf
  rw[aq]at hf
  obtain⟨f',hf',rfl⟩:=az.mp hf
  refine dH (f3 j f' (v2.symm▸(ai.mp hf').1) hf') fun r' c1 c3 c4=>?_
  exact⟨r',(aS (av hP.lt c1)).symm,aS (av (dm c4) n2.le),c3,n2.gr.at c4⟩
structure T5(p pf pm:Nat)(ar:Bool)(rq:Int)(w:gn)(L:dn):Prop where
 t3:T3 p pf pm ar L
 re:L 97=some (.int rq)
 wi:L 130=some (nK w)
theorem QL{L₀:dn}{p pf pm:Nat}{ar:Bool}{fs:List (String×List Nat)}{ms:List (List (MV×MV))}(h3:T3 p pf pm ar L₀)(hP:fc H p 60)(hF:FA H pf p fs)(hfl:fs.length≤5)(hM:MA H pm p ms){Q:aT MF}
 (k:∀L H' rq w,T5 p pf pm ar rq w L→fc H' p 70→FA H' pf p fs→MA H' pm p ms→rq < fs.length→oB w→eG (gD (gU.drop 10)) L H' Q):
 eG (gD (gU.drop 7)) L₀ H Q:=by
 obtain⟨⟨⟨po,ta⟩,fe⟩,ma⟩:=h3
 obtain⟨nef,vs,v1,v2,v3⟩:=id hF
 refine sq (ay po (ay fe (fj (n:=fs.length) ((cw v1).trans (congrArg some v2)) (by omega) (jq (m:=(fs.length:Int)+3) hP (by decide) (by omega) (by omega) fun r H₁ hr m1 P1=>sq (sq (ay po (jq P1 (by decide) (by decide) (by decide) fun r2 H₂ hr2 m2 P2=>?_)))))))
 have F2:=(hF.mo m1).mo m2
 have M2:=(hM.mo m1).mo m2
 refine gQ (fun z_=>?_) fun z_=>k _ _ ((r:Nat) - 3) none ⟨⟨⟨⟨po,ta⟩,fe⟩,ma⟩,rfl,rfl⟩ (P2.le (by decide)) F2 M2 (by omega) trivial
 refine ay po (jq P2 (by decide) (by decide) (by decide) fun r3 H₃ hr3 m3 P3=>sq (ay po (jq P3 (by decide) (by decide) (by decide) fun r4 H₄ hr4 m4 P4=>?_)))
 have tail:∀{H₅:MH}{L₅:dn}{e:Int},Mo (· =p) H₄ H₅→fc H₅ p 66→T3 p pf pm ar L₅→L₅ 97=some (.int ((r:Nat) - 3))→L₅ 12=some (.int (r3:Nat))→L₅ 31=some (.int e)→ -1≤e→e < 1000→
  eG (gD [bN 130 (bJ [(bx (nF (.tup (eA d5))) (aK (cn 13) 2009 [(ae 94),(ao (.int 10))])),(aK (cn 13) 2009 [(ae 94),(ao (.int 2))]),(ae 12),(ae 31)])]) L₅ H₅ (Cg (gD (gU.drop 10)) Q):=by
  intro H₅ L₅ e m5 P5 c c5 c6 c7 e0 e1
  refine sq (ay c.t2.t1.po (jq P5 (by decide) (by decide) (by decide) fun r6 H₆ hr6 m6 P6=>?_))
  refine aM (Ee (H:=H₆) (n:=r6) (by exact dd.mp ‹_›)) fun t ht gi=>?_
  refine au gi (ay c.t2.t1.po (jq P6 (by decide) (by decide) (by decide) fun r7 H₇ hr7 m7 P7=>ay c6 (ay c7 ?_)))
  have mm:=(m3.trans m4).trans ((m5.trans m6).trans m7)
  exact k _ _ ((r:Nat) - 3) (some (t,(r7:Nat),(r3:Nat),e)) ⟨⟨⟨⟨c.t2.t1.po,c.t2.t1.ta⟩,c.t2.fe⟩,c.ma⟩,c5,rfl⟩ (P7.le (by decide)) (F2.mo mm) (M2.mo mm) (by omega) ⟨ht,by exact bY _,by lia,by exact bY _,by omega,e0,e1⟩
 refine gQ (fun z_=>tail (e:= -1) (Mo.refl _ _) (P4.le (by decide)) ⟨⟨⟨po,ta⟩,fe⟩,ma⟩ rfl rfl rfl (by decide) (by decide)) fun z_=>ay po (jq P4 (by decide) (by decide) (by decide) fun r5 H₅ hr5 m5 P5=>tail (e:=(r3:Nat)+1+(r5:Nat)) m5 (P5.le (by decide)) ⟨⟨⟨po,ta⟩,fe⟩,ma⟩ rfl rfl rfl (by omega) (by omega))
structure T6(p pf pm:Nat)(ar:Bool)(rq:Int)(w:gn)(lq:Nat)(L:dn):Prop where
 t5:T5 p pf pm ar rq w L
 le:L 74=some (.ref lq)
theorem QK{L₀:dn}{p pf pm:Nat}{ar:Bool}{rq:Int}{w:gn}{fs:List (String×List Nat)}{ms:List (List (MV×MV))}(h5:T5 p pf pm ar rq w L₀)(hP:fc H p 70)(hF:FA H pf p fs)(hM:MA H pm p ms){Q:aT MF}
 (k:∀L H' lq ls,T6 p pf pm ar rq w lq L→FA H' pf p fs→MA H' pm p ms→H'[lq]?=some (.list (cJ ls))→1≤ls.length→ls.length≤7→(∀n∈ls,n < 7)→eG (gD (gU.drop 11)) L H' Q):
 eG (gD (gU.drop 10)) L₀ H Q:=by
 obtain⟨⟨⟨⟨po,ta⟩,fe⟩,ma⟩,re,wi⟩:=h5
 refine sq (ay po (jq hP (by decide) (by decide) (by decide) fun r H₁ hr m1 P1=>?_))
 refine cP (b:=((1+r:Nat):Int)) (eK (by omega)) ?_
 refine fN (fun j acc L H'=>Mo (· =p) H₁ H'∧L 94=some (.ref p)∧fc H' p (71+j)∧∃N:List Nat,acc=cJ N∧N.length=j∧∀n∈N,n < 7) (by omega) ⟨Mo.refl _ _,po,P1,[],rfl,rfl,fun n hn=>absurd hn bR⟩ (fun j acc L H₂ hj hI K k0 k1=>?_) fun acc L H₂ hI=>?_
 ·obtain⟨m2,q1,P2,N,rfl,hN,hN7⟩:=hI
  refine ay q1 (jq P2 (by omega) (by decide) (by decide) fun r7 H₃ hr7 m3 P3=>k1 _ _ _ ⟨m2.trans m3,q1,P3,N++[r7],by unfold cJ;rw[aB];rfl,by rw[aJ,hN];rfl,fun n hn=>?_⟩)
  rcases aH.mp hn with hn|hn
  ·exact hN7 n hn
  ·rw[ax.mp hn];exact dd.mp hr7
 ·obtain⟨m2,q1,P2,N,rfl,hN,hN7⟩:=hI
  refine⟨by rw[dx];omega,bn fun lq H₃ n3=>?_⟩
  have mm:=(m1.trans m2).trans n3.gr.mo
  exact k _ _ lq N ⟨⟨⟨⟨⟨po,ta⟩,fe⟩,ma⟩,re,wi⟩,rfl⟩ (hF.mo mm) (hM.mo mm) n3.at_ (by omega) (by omega) hN7
end
section
variable{d:Nat}{H H₀:MH}{P:MV→MH→Prop}
noncomputable def Oh:List MV:=[(.tup [(.int 1576),(.str (ag "D"))]),(.tup [(.int 1575),(.str (ag "R"))]),(.tup [(.int 1604),(.str (ag "D"))]),(.tup [(.int 1614),(.str (ag "T"))]),(.tup [(.int 1583),(.str (ag "R"))]),(.tup [(.int 65),(.str (ag "U"))]),(.tup [(.int 1600),(.str (ag "C"))])]
noncomputable def gZ(n:Nat):Int:=K7.getD n 0
theorem wL{n:Nat}(h:n < 7):bp H (.tup Oh) (.int n)=some (.tup [.int (gZ n),.str (gF (gZ n)).s]):=by
 rcases n7 h with rfl|rfl|rfl|rfl|rfl|rfl|rfl<;>kernel_rfl
theorem Ly{a b:MV}:bp H (.tup [a,b]) (.int 0)=some a:=by kernel_rfl
theorem O2{a b:MV}:bp H (.tup [a,b]) (.int 1)=some b:=by kernel_rfl
noncomputable def kP:List (Int×Int):=[(1576,1),(1575,2),(1604,3),(1614,4),(1583,5),(65,6),(1600,7)]
theorem Pe{n:Nat}(h:n < 7):kP[n]?=some (gZ n,1+(n:Int)):=by
 exact(by decide:∀n,n < 7→kP[n]?=some (gZ n,1+(n:Int))) n h
theorem QD{L₀:dn}{Q:aT MF}(k:∀H' kd,Gr H H'→H'[kd]?=some (.dict iW)→eG (gD (gU.drop 12)) (sN 66 (.ref kd) L₀) H' Q):eG (gD (gU.drop 11)) L₀ H Q:=by
 refine sq (cP (b:=((7:Nat):Int)) rfl ?_)
 refine fN (fun j acc L H'=>H'=H∧acc=(kP.take j).map fun r=>.tup [.int r.1,.int r.2]) (by decide) ⟨rfl,rfl⟩ (fun j acc L H₂ hj hI K k0 k1=>?_) fun acc L H₂ hI=>?_
 ·obtain⟨rfl,rfl⟩:=hI
  exact au (wL hj) (au Ly (k1 _ _ _ ⟨rfl,by(erw[aO,Pe hj,aB]);rfl⟩))
 ·obtain⟨rfl,rfl⟩:=hI
  exact⟨by decide,bn fun q H₃ n3=>BG (ps:=iW) n3.at_ (by decide) (by kernel_rfl) (by kernel_rfl) fun p H₄ n4=>k _ _ (n3.gr.trans n4.gr) n4.at_⟩
theorem uv{n:Nat}(hn:n≤1000):jI H (.range 0 (n:Nat))=some (cJ (aE n)):=by
 unfold jI
 have h1:big 0=false:=rfl
 have h2:big (n:Int)=false:=eK (aL hn (by decide))
 have h3:decide ((1000:Int) < (n:Int) - 0)=false:=by(refine(decide_eq_false_iff_not).mpr ?_);lia
 simp only[h1,h2,h3,f0,iL,if_false]
 refine congrArg some ?_
 have:((n:Int) - 0).toNat=n:=by rfl
 (erw[this])
 refine bL fun i z_=>?_
 rw[Int.zero_add]
theorem QC{L₀:dn}{pf:Nat}{fs:List (String×List Nat)}{rq:Int}(hre:L₀ 97=some (.int rq))(hfe:L₀ 34=some (.ref pf))(hF:lV H pf fs)(hfl:fs.length≤900){Q:aT MF}
 (k:∀H' r r2,Gr H H'→H'[r]?=some (.inst 1897 [("required",.int (if 0≤rq then rq else -1)),("features",.ref r2)])→H'[r2]?=some (.list (cJ (aE fs.length)))→eG (gD (gU.drop 13)) (sN 67 (.ref r) L₀) H' Q):
 eG (gD (gU.drop 12)) L₀ H Q:=by
 (refine dH hF fun vs v1 v2 v3=>?_;clear hF)
 have h9:fs.length≤1000:=ah hfl (by decide)
 have hl:(cJ (aE fs.length)).length≤1000:=by(rw[dx];erw[aW]);exact h9
 refine sq (ay hre (dc (fun h0=>?_) fun h0=>?_))
 ·rw[if_pos h0]at k
  exact ay hre (ay hfe (fj (n:=fs.length) ((cw v1).trans (congrArg some v2)) h9 (cP (eK (aL hfl (by decide))) (oE (uv h9) hl fun q H₁ n1=>qJ n1.at_ hl fun H' r r2 g h1 h2=>k H' r r2 (n1.gr.trans g) h1 h2))))
 ·rw[if_neg h0]at k
  exact ay hfe (fj (n:=fs.length) ((cw v1).trans (congrArg some v2)) h9 (cP (eK (aL hfl (by decide))) (oE (uv h9) hl fun q H₁ n1=>qJ n1.at_ hl fun H' r r2 g h1 h2=>k H' r r2 (n1.gr.trans g) h1 h2)))
noncomputable def wT(H:MH)(rw_:Nat)(fs:List (String×List Nat)):Prop:=∃vs,H[rw_]?=some (.list vs)∧vs.length=fs.length∧∀(i:Nat) f,fs[i]?=some f→∃r r2:Nat,vs[i]?=some (.ref r)∧H[r]?=some (.inst 1951 [("tag",.str f.1),("lookups",.ref r2)])∧H[r2]?=some (.list (cJ f.2))
structure R7(fs:List (String×List Nat))(H:MH)(i:Nat)(acc:List MV)(H':MH):Prop where
 gr:Gr H H'
 le:acc.length=i
 ac:∀(j:Nat) f,j < i→fs[j]?=some f→∃r r2:Nat,acc[j]?=some (.ref r)∧H'[r]?=some (.inst 1951 [("tag",.str f.1),("lookups",.ref r2)])∧H'[r2]?=some (.list (cJ f.2))
theorem QB{L₀:dn}{pf:Nat}{fs:List (String×List Nat)}(hfe:L₀ 34=some (.ref pf))(hF:lV H pf fs)(hfl:fs.length≤900)(hf2:∀f∈fs,f.2.length≤1000){Q:aT MF}
 (k:∀H' r,Gr H H'→wT H' r fs→eG (gD (gU.drop 14)) (sN 100 (.ref r) L₀) H' Q):
 eG (gD (gU.drop 13)) L₀ H Q:=by
 (refine dH hF fun vs v1 v2 v3=>?_;clear hF)
 refine sq (ay hfe ?_)
 refine dG (vs:=vs) (fun i acc L H'=>R7 fs H i acc H') ⟨Gr.refl _,rfl,fun j f hj=>absurd hj (fS _)⟩ (fun i acc L H' hI=>hI.gr.at v1) (fun i y acc L H₁ hy hI K k0 k1=>?_) fun acc L H₁ hI=>?_
 ·obtain⟨g1,f2,f3⟩:=hI
  have hi:i < fs.length:=v2▸(ai.mp hy).1
  have hfi:fs[i]?=some fs[i]:=an hi
  generalize fs[i]=f at hfi
  refine aM (v3 i f hfi) fun r r3 r4=>?_
  rw[r3]at hy;(obtain rfl:=ab hy;clear hy)
  refine xV (g1.at r4) (by rw[aj];exact hf2 f (ak hfi)) fun H₂ q q2 g2 h1 h2=>k1 _ _ _ ⟨g1.trans g2,by(erw[aJ,f2]);rfl,fun j f' hj hf'=>?_⟩
  by_cases hji:j < i
  ·obtain⟨r',r2',c3,c4,c5⟩:=f3 j f' hji hf'
   exact⟨r',r2',by(erw[aI (f2▸hji)]);exact c3,g2.at c4,g2.at c5⟩
  ·have:j=i:=fT (fX hj) (aC.mp hji)
   subst this
   rw[hfi]at hf';(obtain rfl:=ab hf';clear hf')
   exact⟨q,q2,by(erw[←f2,cC];with_reducible rfl),h1,h2⟩
 ·obtain⟨g1,f2,f3⟩:=hI
  refine⟨by(erw[f2,v2]);exact ah hfl (by decide),bn fun q H₂ n2=>k _ _ (g1.trans n2.gr) ⟨acc,n2.at_,f2.trans v2,fun i f hf=>?_⟩⟩
  refine eW (f3 i f (v2.symm▸(ai.mp hf).1) hf) fun r r2 c1 c2 c3=>?_
  exact⟨r,r2,c1,n2.gr.at c2,n2.gr.at c3⟩
noncomputable def rF(H:MH)(ll:Nat)(ms:List (List (MV×MV))):Prop:=∃vs,H[ll]?=some (.list vs)∧vs.length=ms.length∧∀(i:Nat) es,ms[i]?=some es→∃r t s m:Nat,vs[i]?=some (.ref r)∧H[r]?=some (.inst 181 [("kind",.str "single"),("flag",.int 0),("mark_set",.int (-1)),("tables",.ref t)])∧H[t]?=some (.list [.ref s])∧H[s]?=some (.inst 782 [("mapping",.ref m)])∧H[m]?=some (.dict es)
structure R8(ms:List (List (MV×MV)))(H:MH)(i:Nat)(acc:List MV)(H':MH):Prop where
 gr:Gr H H'
 le:acc.length=i
 ac:∀(j:Nat) es,j < i→ms[j]?=some es→∃r t s m:Nat,acc[j]?=some (.ref r)∧H'[r]?=some (.inst 181 [("kind",.str "single"),("flag",.int 0),("mark_set",.int (-1)),("tables",.ref t)])∧H'[t]?=some (.list [.ref s])∧H'[s]?=some (.inst 782 [("mapping",.ref m)])∧H'[m]?=some (.dict es)
theorem QA{L₀:dn}{pm lsy rws:Nat}{ms:List (List (MV×MV))}(hma:L₀ 79=some (.ref pm))(hla:L₀ 67=some (.ref lsy))(hro:L₀ 100=some (.ref rws))(hM:qz H pm ms)(hml:ms.length≤900){Q:aT MF}
 (k:∀H' (lay sd scr lsl ll:Nat),Gr H H'→H'[lay]?=some (.inst 1977 [("scripts",.ref sd),("features",.ref rws),("lookups",.ref ll)])→H'[sd]?=some (.dict [(.str "DFLT",.ref scr)])→H'[scr]?=some (.inst 1923 [("tag",.str "DFLT"),("default",.ref lsy),("languages",.ref lsl)])→H'[lsl]?=some (.dict [])→rF H' ll ms→eG (gD (gU.drop 15)) (sN 71 (.ref lay) L₀) H' Q):
 eG (gD (gU.drop 14)) L₀ H Q:=by
 (refine dH hM fun vs v1 v2 v3=>?_;clear hM)
 refine sq (ay hla (au (a:=[]) rfl (bn fun lsl H₁ n1=>zN fun scr H₂ n2=>au (a:=[(.str (ag "DFLT"),.ref scr)]) rfl (bn fun sd H₃ n3=>ay hro (ay hma ?_)))))
 have g3:=(n1.gr.trans n2.gr).trans n3.gr
 refine dG (vs:=vs) (fun i acc L H'=>R8 ms H₃ i acc H') ⟨Gr.refl _,rfl,fun j f hj=>absurd hj (fS _)⟩ (fun i acc L H' hI=>hI.gr.at (g3.at v1)) (fun i y acc L H₄ hy hI K k0 k1=>?_) fun acc L H₄ hI=>?_
 ·obtain⟨g4,f2,f3⟩:=hI
  have hi:i < ms.length:=v2▸(ai.mp hy).1
  have hfi:ms[i]?=some ms[i]:=an hi
  generalize ms[i]=es at hfi
  refine aM (v3 i es hfi) fun r r3 r4=>?_
  rw[r3]at hy;(obtain rfl:=ab hy;clear hy)
  refine CS fun sg H₅ n5=>bn fun tq H₆ n6=>CU fun lk H₇ n7=>k1 _ _ _ ⟨g4.trans ((n5.gr.trans n6.gr).trans n7.gr),by(erw[aJ,f2]);rfl,fun j es' hj hes'=>?_⟩
  by_cases hji:j < i
  ·have g:=(n5.gr.trans n6.gr).trans n7.gr
   obtain⟨r',t',s',m',c3,c4,c5,c6,c7⟩:=f3 j es' hji hes'
   exact⟨r',t',s',m',by(erw[aI (f2▸hji)]);exact c3,g.at c4,g.at c5,g.at c6,g.at c7⟩
  ·have:j=i:=fT (fX hj) (aC.mp hji)
   subst this
   rw[hfi]at hes';(obtain rfl:=ab hes';clear hes')
   exact⟨lk,tq,sg,r,by(erw[←f2,cC];with_reducible rfl),n7.at_,n7.gr.at n6.at_,n7.gr.at (n6.gr.at n5.at_),n7.gr.at (n6.gr.at (n5.gr.at (g4.at (g3.at r4))))⟩
 ·obtain⟨g4,f2,f3⟩:=hI
  refine⟨by(erw[f2,v2]);exact ah hml (by decide),bn fun ll H₅ n5=>zM fun lay H₆ n6=>?_⟩
  have g:=n5.gr.trans n6.gr
  refine k _ lay sd scr lsl ll ((g3.trans g4).trans g) n6.at_ (g.at (g4.at n3.at_)) (g.at (g4.at (n3.gr.at n2.at_))) (g.at (g4.at (n3.gr.at (n2.gr.at n1.at_)))) ⟨acc,n6.gr.at n5.at_,f2.trans v2,fun i es hes=>?_⟩
  obtain⟨r,t,s,m,c1,c2,c3,c4,c5⟩:=f3 i es (v2.symm▸(ai.mp hes).1) hes
  exact⟨r,t,s,m,c1,g.at c2,g.at c3,g.at c4,g.at c5⟩
theorem Qz{L₀:dn}{Q:aT MF}(k:∀H' r,Gr H H'→H'[r]?=some (.list DJ)→eG (gD (gU.drop 16)) (sN 7 (.ref r) L₀) H' Q):eG (gD (gU.drop 15)) L₀ H Q:=by
 refine sq (cP (b:=((40:Nat):Int)) rfl ?_)
 refine fN (fun j acc L H'=>H'=H∧acc=(aE j).map fun(g:Nat)=>.int (100+3*(g:Int))) (by decide) ⟨rfl,rfl⟩ (fun j acc L H₂ hj hI K k0 k1=>?_) fun acc L H₂ hI=>?_
 ·obtain⟨rfl,rfl⟩:=hI
  exact⟨⟨rfl,eK (ck hj (by decide))⟩,k1 _ _ _ ⟨rfl,by(erw[cX,aB]);rfl⟩⟩
 ·obtain⟨rfl,rfl⟩:=hI
  exact⟨by decide,bn fun q H₃ n3=>k _ _ n3.gr n3.at_⟩
theorem La{q:Nat}{z:Int}(h:H[q]?=some (.list [.int z]))(k:∀p H',Nu H (.list (gx 40 (.int z))) p H'→P (.ref p) H'):U (gT .Mult (.ref q) (.int 40)) H P:=U.of (fun l=>by
 show(cy H (.ref q)).bind _=_
 (erw[di h]);rfl) (k _ _ (Nu.mk' _ _))
theorem Qy{L₀:dn}{kd ad lay:Nat}(hk:L₀ 66=some (.ref kd))(ha:L₀ 7=some (.ref ad))(hl:L₀ 71=some (.ref lay))(h1:H[kd]?=some (.dict iW))(h2:H[ad]?=some (.list DJ)){Q:aT MF}
 (k:∀H' (font kern cm cd me gd gc gdd:Nat) be a b c e,Gr H H'→H'[font]?=some (.inst 1760 [("charmap",.ref cm),("metrics",.ref me),("gdef",.ref gd),("gsub",.ref lay),("gpos",.none),("kern",.ref kern)])→H'[kern]?=some (.dict [])→
  H'[cm]?=some (.inst 1726 [("codes",.ref cd),("variations",.none)])→H'[cd]?=some (.dict iW)→H'[me]?=some (.inst 1065 [("units",.int 1000),("ascent",.int 800),("descent",.int (-200)),("advances",.tup DJ),("bearings",be)])→
  H'[gd]?=some (.inst 1862 [("classes",.ref gc),("attach",a),("sets",b),("points",c),("carets",e)])→H'[gc]?=some (.inst 1814 [("classes",.ref gdd)])→H'[gdd]?=some (.dict [])→eG (gD (gU.drop 17)) (sN 38 (.ref font) L₀) H' Q):
 eG (gD (gU.drop 16)) L₀ H Q:=by
 refine sq (ay hk (xW h1 fun H₁ cm cd g1 c1 c2=>ay ha (bn fun z0 H₂ n2=>La n2.at_ fun z1 H₃ n3=>xU (n3.gr.at (n2.gr.at (g1.at h2))) (by decide) n3.at_ (by decide) fun me H₄ n4=>Ff fun H₅ gd gc gdd a b c e g5 x1 x2 x3=>ay hl (au (a:=[]) rfl (bn fun kern H₆ n6=>zO fun font H₇ n7=>?_)))))
 have gz:=n6.gr.trans n7.gr
 have ga:=((n2.gr.trans n3.gr).trans n4.gr).trans g5
 exact k _ font kern cm cd me gd gc gdd _ a b c e ((g1.trans ga).trans gz) n7.at_ (n7.gr.at n6.at_) (gz.at (ga.at c1)) (gz.at (ga.at c2)) (gz.at (g5.at n4.at_)) (gz.at x1) (gz.at x2) (gz.at x3)
end
section
variable{d:Nat}{H H₀:MH}{X:bQ}{A:fR}{P:MV→MH→Prop}
theorem Qx{L₀:dn}{w:gn}(hwi:L₀ 130=some (nK w)){Q:aT MF}(k:∀H' wl,Gr H H'→jY H' wl w→eG (gD (gU.drop 18)) (sN 131 (.ref wl) L₀) H' Q):eG (gD (gU.drop 17)) L₀ H Q:=by
 cases w with
 |none=>
  have hwi:L₀ 130=some .none:=hwi
  exact sq (ay hwi (au ky (bn fun p H₁ n1=>k _ _ n1.gr n1.at_)))
 |some y=>
  obtain⟨t,v,b,e⟩:=y
  have hwi:L₀ 130=some (.tup [.str (ag t),.int v,.int b,.int e]):=hwi
  have e0:∀{a b c e:MV},nB H .Is (.tup [a,b,c,e]) .none=some false:=rfl
  have i0:∀{a b c e:MV}{H:MH},bp H (.tup [a,b,c,e]) (.int 0)=some a:=fun{a b c e H}=>by kernel_rfl
  have i1:∀{a b c e:MV}{H:MH},bp H (.tup [a,b,c,e]) (.int 1)=some b:=fun{a b c e H}=>by kernel_rfl
  have i2:∀{a b c e:MV}{H:MH},bp H (.tup [a,b,c,e]) (.int 2)=some c:=fun{a b c e H}=>by kernel_rfl
  have i3:∀{a b c e:MV}{H:MH},bp H (.tup [a,b,c,e]) (.int 3)=some e:=fun{a b c e H}=>by kernel_rfl
  exact sq (ay hwi (au e0 (ay hwi (au i0 (ay hwi (au i1 (ay hwi (au i2 (ay hwi (au i3 (zQ fun p H₁ n1=>bn fun q H₂ n2=>k _ _ (n1.gr.trans n2.gr) ⟨p,n2.at_,n2.gr.at n1.at_⟩)))))))))))
theorem Gn{n:Nat}(h:n < 7):gZ n∈K7:=(by decide:∀n,n < 7→gZ n∈K7) n h
theorem yP{n:Nat}(h:n < 7):gP (gZ n)=1+(n:Int):=(by decide:∀n,n < 7→gP (gZ n)=1+(n:Int)) n h
theorem Qw{L₀:dn}{lq wl:Nat}{ls:List Nat}(hfo:L₀ 38=some (.ref A.font))(hle:L₀ 74=some (.ref lq))(hta:L₀ 120=some (cc X.arab))(hwl:L₀ 131=some (.ref wl))
 (F:dw H X A) (ok:iH X) (hl:H[lq]?=some (.list (cJ ls))) (hl7:ls.length≤7) (hln:∀n∈ls,n < 7) (hw:jY H wl X.wish) {Q:aT MF}
 (k:∀H' s r (us:List IV),Gr H H'→H'[s]?=some (rt r X.arab)→H'[r]?=some (.list ((if X.arab=true then us.reverse else us).map oS))→us.map cu=((ls.map gZ).mapIdx (Dn X (ls.map fun n=>gF (gZ n)))).map cu→eG (gD (gU.drop 19)) (sN 108 (.ref s) L₀) H' Q):
 eG (gD (gU.drop 18)) L₀ H Q:=by
 refine sq (ay hfo (ay hle ?_))
 refine dG (vs:=cJ ls) (fun i acc L H'=>H'=H∧acc=((ls.map gZ).take i).map .int) ⟨rfl,rfl⟩ (fun i acc L H' hI=>hI.1▸hl) (fun i y acc L H' hy hI K k0 k1=>?_) fun acc L H' hI=>?_
 ·obtain⟨rfl,rfl⟩:=hI
  rw[aq]at hy
  obtain⟨n,hn,rfl⟩:=az.mp hy
  exact au (wL (hln n (ak hn))) (au Ly (k1 _ _ _ ⟨rfl,by(erw[aO,aq,hn,aB]);rfl⟩))
 ·obtain⟨rfl,rfl⟩:=hI
  have hz:(ls.map gZ).length=ls.length:=aj ..
  (rw[dx];erw[←hz,aZ])
  refine⟨by(rw[aj];erw[hz]);exact ah hl7 (by decide),bn fun q H₁ n1=>ay hta (ay hwl (vO (F.gr n1.gr) ok n1.at_ (hz.symm▸hl7) (fun c hc=>?_) (hw.gr n1.gr) fun H₂ s r us g2 q1 q2 q3=>?_))⟩
  ·obtain⟨n,hn,rfl⟩:=aU.mp hc
   exact Gn (hln n hn)
  ·rw[bc]at q3
   exact k H₂ s r us (n1.gr.trans g2) q1 q2 q3
theorem Qv{L₀:dn}{lq:Nat}{ls:List Nat}(hle:L₀ 74=some (.ref lq))(hl:H[lq]?=some (.list (cJ ls)))(hl7:ls.length≤7)(hln:∀n∈ls,n < 7){Q:aT MF}
 (k:∀H' q,Gr H H'→H'[q]?=some (.list ((aE ls.length).map fun i=>.str (ag (cY (ls.map fun n=>gF (gZ n)) i))))→eG (gD (gU.drop 20)) (sN 41 (.ref q) L₀) H' Q):
 eG (gD (gU.drop 19)) L₀ H Q:=by
 refine sq (ay hle ?_)
 refine dG (vs:=cJ ls) (fun i acc L H'=>H'=H∧acc=iO ((ls.map fun n=>gF (gZ n)).take i)) ⟨rfl,rfl⟩ (fun i acc L H' hI=>hI.1▸hl) (fun i y acc L H' hy hI K k0 k1=>?_) fun acc L H' hI=>?_
 ·obtain⟨rfl,rfl⟩:=hI
  rw[aq]at hy
  obtain⟨n,hn,rfl⟩:=az.mp hy
  exact au (wL (hln n (ak hn))) (au O2 (k1 _ _ _ ⟨rfl,by(erw[aO,aq,hn]);unfold iO;(erw[aB]);rfl⟩))
 ·obtain⟨rfl,rfl⟩:=hI
  have hz:(ls.map fun n=>gF (gZ n)).length=ls.length:=aj ..
  (rw[dx];erw[←hz,aZ])
  refine⟨by(rw[aj];erw[hz]);exact ah hl7 (by decide),bn fun q H₁ n1=>C8 n1.at_ (hz.symm▸hl7) fun H₂ q g2 hq=>?_⟩
  rw[hz]at hq
  exact k H₂ q (n1.gr.trans g2) hq
noncomputable def Gc(X:bQ)(ls:List Nat)(i:Nat):Int:=kI X (cY (ls.map fun n=>gF (gZ n)) i) i (1+(ls.getD i 0:Nat))
noncomputable def Ae(X:bQ)(ls:List Nat)(i:Nat):MV:=.tup [.int (Gc X ls i),.int (i:Nat),.int (100+3*Gc X ls i),.int 0,.int 0,.int 0]
structure TN(X:bQ)(lq pf pm fq dq sq:Nat)(L:dn):Prop where
 le:L 74=some (.ref lq)
 fe:L 34=some (.ref pf)
 re:L 97=some (.int X.req)
 ma:L 79=some (.ref pm)
 ta:L 120=some (cc X.arab)
 fo:L 41=some (.ref fq)
 wi:L 130=some (nK X.wish)
 du:L 29=some (.ref dq)
 sh:L 108=some (.ref sq)
structure TO(X:bQ)(ls:List Nat)(lq pf pm fq dq sq:Nat)(H:MH)(i:Nat)(L:dn)(H':MH):Prop where
 mo:Mo (· =dq) H H'
 lo:TN X lq pf pm fq dq sq L
 at_:H'[dq]?=some (.list ((aE i).map (Ae X ls)))
theorem wu(ok:iH X)(ts:List iy)(i:Nat){g:Int}(hg:0≤g∧g < 40):0≤kI X (cY ts i) i g∧kI X (cY ts i) i g < 40:=by
 rw[←yp ok];exact uZ ok.mo _ _ _ hg
theorem Qu{L₀:dn}{lq pf pm fq sq_:Nat}{ls:List Nat}(b1:L₀ 74=some (.ref lq))(b2:L₀ 34=some (.ref pf))(b3:L₀ 97=some (.int X.req))(b4:L₀ 79=some (.ref pm))(b5:L₀ 120=some (cc X.arab))(b6:L₀ 41=some (.ref fq))(b7:L₀ 130=some (nK X.wish))(b8:L₀ 108=some (.ref sq_))
 (ok:iH X) (hG:tI X pf pm H) (hl:H[lq]?=some (.list (cJ ls))) (hl7:ls.length≤7) (hln:∀n∈ls,n < 7) (hfq:H[fq]?=some (.list ((aE ls.length).map fun i=>.str (ag (cY (ls.map fun n=>gF (gZ n)) i))))) {Q:aT MF}
 (k:∀L H' dq,Gr H H'→L 120=some (cc X.arab)→L 108=some (.ref sq_)→L 29=some (.ref dq)→H.length≤dq→H'[dq]?=some (.list ((aE ls.length).map (Ae X ls)))→eG (gD (gU.drop 22)) L H' Q):
 eG (gD (gU.drop 20)) L₀ H Q:=by
 refine sq (bn fun dq H₁ n1=>sq (ay b1 (fj (n:=ls.length) ((cw (n1.gr.at hl)).trans (congrArg some (dx _))) (ah hl7 (by decide)) (cP (eK (aL hl7 (by decide))) ?_))))
 refine gL (fun i L H'=>TO X ls lq pf pm fq dq sq_ H₁ i L H') (aL hl7 (by decide)) ⟨Mo.refl _ _,⟨b1,b2,b3,b4,b5,b6,b7,rfl,b8⟩,n1.at_⟩ (fun i L H₂ hi hI K kk=>?_) fun L H₂ hI=>?_
 ·obtain⟨mo,⟨c1,c2,c3,c4,c5,c6,c7,c8,c9⟩,c10⟩:=hI
  have gH:Gr H H₂:=(n1.gr.mo.trans mo).weaken fun x hx q=>aC.mpr n1.le (q▸hx)
  have hli:ls[i]?=some ls[i]:=an hi
  have hi6:i < 1000000:=av hi (ah hl7 (by decide))
  have gi1:bp H₂ (.ref lq) (.int i)=some (.int (ls[i]:Nat)):=rx (gH.at hl) hi6 hli
  have gi2:bp H₂ (.ref fq) (.int i)=some (.str (ag (cY (ls.map fun n=>gF (gZ n)) i))):=by
   (erw[cv (gH.at hfq) hi6,aq,cH hi]);rfl
  have hD:ls.getD i 0=ls[i]:=by(erw[cU,hli]);rfl
  have hg7:=hln _ (gy hi)
  have hrng:=wu ok (ls.map fun n=>gF (gZ n)) i (g:=1+(ls[i]:Nat)) (by lia)
  refine ay c1 (au gi1 (ay c2 (ay c3 (ay c4 (ay c5 (ay c6 (au gi2 (ay c7 (C7 (hG.gr gH) fun H₃ g3=>sq ?_)))))))))
  have d10:=g3.at c10
  have hgd:Gc X ls i=kI X (cY (ls.map fun n=>gF (gZ n)) i) i (1+(ls[i]:Nat)):=by unfold Gc;(erw[hD];with_reducible rfl)
  refine ay c8 (au (gK d10 rfl) ⟨⟨rfl,oz (by omega) (by omega)⟩,lg d10 (by(rw[aj];erw[aW]);lia) (kk.next _ _ ⟨(mo.trans g3.mo).setN (.inl rfl),⟨c1,c2,c3,c4,c5,c6,c7,c8,c9⟩,?_⟩)⟩)
  (erw[cB d10,cX,aB])
  show _=some (MO.list (_++[Ae X ls i]))
  unfold Ae
  (erw[hgd];with_reducible rfl)
 ·obtain⟨mo,lo,c10⟩:=hI
  exact k L H₂ dq ((n1.gr.mo.trans mo).weaken fun x hx q=>aC.mpr n1.le (q▸hx)) lo.ta lo.sh lo.du n1.le c10
theorem Qt{L₀:dn}{dq:Nat}{vs:List MV}{ar:Bool}(hta:L₀ 120=some (cc ar))(hdu:L₀ 29=some (.ref dq))(hd:H[dq]?=some (.list vs))(hn:vs.length≤1000){Q:aT MF}
 (k:∀H',Mo (· =dq) H H'→H'[dq]?=some (.list (if ar=true then vs.reverse else vs))→eG (gD (gU.drop 23)) L₀ H' Q):
 eG (gD (gU.drop 22)) L₀ H Q:=by
 refine sq (ay hta (au jr ?_))
 cases ar with
 |true=>exact ay hdu (au (gK hd rfl) (vx hd hn (k _ (Mo.set (.inl rfl)) (cB hd))))
 |false=>exact k H (Mo.refl _ _) hd
noncomputable def km(v:IV):MV:=.tup [.int v.glyph,.int v.cluster,.int v.xadv,.int 0,.int 0,.int 0]
theorem KF(A:List IV):wD (A.map km) (A.map km)=some true:=by
 have h:∀A:List IV,∃R,jv (A.map km)=some R:=by
  intro A
  induction A with
  |nil=>exact⟨[],rfl⟩
  |cons a r ih=>
   (refine fH ih fun R hR=>?_;clear ih)
   refine⟨[a.glyph,a.cluster,a.xadv,0,0,0]::R,?_⟩
   show((gY [MV.int a.glyph,.int a.cluster,.int a.xadv,.int 0,.int 0,.int 0]).bind fun x=>(jv (r.map km)).map (x:: ·))=_
   (erw[hR]);rfl
 cases A with
 |nil=>rfl
 |cons a r=>
  refine fH (h (a::r)) fun R hR=>?_
  show((jv ((a::r).map km)).bind fun x=>(jv ((a::r).map km)).map fun y=>x==y)=_
  rw[hR]
  exact congrArg some (beq_self_eq_true R)
theorem EW(ok:iH X){ls:List Nat}(hln:∀n∈ls,n < 7){us:List IV}(e:us.map cu=((ls.map gZ).mapIdx (Dn X (ls.map fun n=>gF (gZ n)))).map cu):us.map km=(aE ls.length).map (Ae X ls):=by
 have h1:∀L:List IV,L.map km=(L.map cu).map km:=fun L=>by(erw[bc]);rfl
 (rw[h1];erw[e];rw[←h1])
 apply bK
 intro i
 (erw[aq,bh,aq,aq])
 by_cases hi:i < ls.length
 ·have hli:ls[i]?=some ls[i]:=an hi
  have hk:=yP (hln _ (gy hi))
  have hD:ls.getD i 0=ls[i]:=by(erw[cU,hli]);rfl
  (erw[hli,cH hi])
  show some (km (Dn X _ i (gZ ls[i])))=some (Ae X ls i)
  unfold km Dn Ae Gc
  (erw[hD,hk];with_reducible rfl)
 ·(erw[cF (aC.mp hi),cF (by rw[aW];exact aC.mp hi)]);rfl
theorem GV{v:IV}(q:P (km v) H):U (iQ (oS v) none (some (.int 6))) H P:=U.of (fun z_=>by kernel_rfl) q
theorem Qs{L₀:dn}{dq sq_ r:Nat}{A:List IV}{ar:Bool}(hta:L₀ 120=some (cc ar))(hdu:L₀ 29=some (.ref dq))(hsh:L₀ 108=some (.ref sq_))(hs:H[sq_]?=some (rt r ar))(hr:H[r]?=some (.list (A.map oS)))(hd:H[dq]?=some (.list (A.map km)))(hn:A.length≤7){Q:MV→MH→Prop}(k:∀H',Q (.bool true) H'):
 eG (gD (gU.drop 23)) L₀ H (xD Q):=by
 have ga:aN dz H (.ref sq_) "rows"=some (.ref r):=(aG hs (by kernel_rfl)).trans (by kernel_rfl)
 refine sq (ay hsh (au ga ?_))
 refine dG (vs:=A.map oS) (fun i acc L H'=>H'=H∧acc=(A.take i).map km) ⟨rfl,rfl⟩ (fun i acc L H' hI=>hI.1▸hr) (fun i y acc L H' hy hI K k0 k1=>?_) fun acc L H' hI=>?_
 ·obtain⟨rfl,rfl⟩:=hI
  rw[aq]at hy
  obtain⟨v,hv,rfl⟩:=az.mp hy
  exact GV (k1 _ _ _ ⟨rfl,by(erw[aO,hv,aB]);rfl⟩)
 ·obtain⟨rfl,rfl⟩:=hI
  have hz:(A.map oS).length=A.length:=aj ..
  (erw[hz,aZ])
  refine⟨by rw[aj];exact ah hn (by decide),bn fun q H₁ n1=>ay hdu ?_⟩
  have e:nB H₁ .Eq (.ref q) (.ref dq)=some true:=by
   show D0 _ (.ref q) (.ref dq)=_
   unfold D0
   dsimp only
   rw[di n1.at_,di (n1.gr.at hd)]
   exact KF A
  have gb:aN dz H₁ (.ref sq_) "is_backward"=some (.bool ar):=(aG (n1.gr.at hs) (by kernel_rfl)).trans (by kernel_rfl)
  refine au e (ay hsh (au gb (ay hta (au jr ?_))))
  cases ar<;>exact au (a:=true) rfl (k _)
end
theorem rF.gr{H H':MH}{ll:Nat}{ms:List (List (MV×MV))}(x:rF H ll ms)(g:Gr H H'):rF H' ll ms:=by
 (refine dH x fun vs e1 e2 e3=>?_;clear x)
 exact⟨vs,g.at e1,e2,fun i es h=>by obtain⟨r,t,s,m,q1,q2,q3,q4,q5⟩:=e3 i es h;exact⟨r,t,s,m,q1,g.at q2,g.at q3,g.at q4,g.at q5⟩⟩
theorem wT.gr{H H':MH}{ll:Nat}{fs:List (String×List Nat)}(x:wT H ll fs)(g:Gr H H'):wT H' ll fs:=by
 (refine dH x fun vs e1 e2 e3=>?_;clear x)
 exact⟨vs,g.at e1,e2,fun i es h=>by refine eW (e3 i es h) fun r t q1 q2 q3=>?_;exact⟨r,t,q1,g.at q2,g.at q3⟩⟩
theorem Kh{H:MH}{sc:List Int}(hs:sc.length≤63):WC (cn 14) 2033 [.flist (sc.map .int)] H fun v z_=>v=.bool true:=by
 refine bC (d:=13) I9 rfl (QP hs rfl fun L1 H1 p ar t1 P1=>QO t1 P1 fun L2 H2 pf fs t2 f2 P2 F2 fo fl1 fl5=>QN ⟨t2,f2⟩ P2 F2 fun L3 H3 pm ms t3 m3 P3 F3 M3 mo ml1 ml6=>QM ⟨t3,m3⟩ P3 F3 fl5 M3 ml6 fo fun L4 H4 pf' t4 P4 F4 M4=>?_)
 have hcl:(Dv ms.length fs).length=fs.length:=aj ..
 have hco:∀f∈Dv ms.length fs,f.1∈d5∧f.2.length≤2∧∀n∈f.2,n < ms.length:=fun f hf=>by
  obtain⟨f',hf',rfl⟩:=aU.mp hf
  exact⟨(fo f' hf').1,ah (bB _ _) (fo f' hf').2,fun n hn=>of_decide_eq_true (bt.mp hn).2⟩
 generalize Dv ms.length fs=fs' at F4 hcl hco
 have h5:fs'.length≤5:=hcl▸fl5
 refine QL t4 P4 F4 h5 M4 fun L5 H5 rq w t5 P5 F5 M5 hrq hw=>QK t5 P5 F5 M5 fun L6 H6 lq ls t6 F6 M6 hlq hl1 hl7 hln=>?_
 obtain⟨⟨⟨⟨⟨_,ta⟩,fe⟩,ma⟩,re,wi⟩,le⟩:=t6
 have FF:=F6.toF
 have MM:=M6.toM
 have ok:iH ⟨fs',ms,rq,ar,w⟩:=⟨h5,hco,ml6,mo,hrq,hw⟩
 have h9:fs'.length≤900:=ah h5 (by decide)
 have m9:ms.length≤900:=ah ml6 (by decide)
 refine QD fun H7 kd g7 a7=>QC (rq:=rq) (pf:=pf') (fs:=fs') (by exact re) (by exact fe) (FF.gr g7) h9 fun H8 lsy lsf g8 a8 b8=>?_
 have y8:=Gr.trans g7 g8
 refine QB (pf:=pf') (fs:=fs') (by exact fe) (FF.gr y8) h9 (fun f hf=>ah (hco f hf).2.1 (by decide)) fun H9 rws g9 a9=>?_
 have y9:=y8.trans g9
 refine QA (pm:=pm) (lsy:=lsy) (rws:=rws) (ms:=ms) (by exact ma) (by rfl) (by rfl) (MM.gr y9) m9 fun H10 lay sd scr lsl ll g10 a10 b10 c10 d10 e10=>Qz fun H11 ad g11 a11=>?_
 refine Qy (kd:=kd) (ad:=ad) (lay:=lay) (by rfl) (by rfl) (by rfl) (g11.at (g10.at (g9.at (g8.at a7)))) a11 fun H12 font kern cm cd me gd gc gdd be a b c e g12 f1 f2 f3 f4 f5 f6 f7 f8=>Qx (w:=w) (by exact wi) fun H13 wl g13 w13=>?_
 have z:=g11.trans (g12.trans g13)
 have y13:=(y9.trans g10).trans z
 have F:dw H13 ⟨fs',ms,rq,ar,w⟩ ⟨font,kern,cm,cd,me,gd,gc,gdd,lay,sd,scr,lsl,lsy,lsf,rws,ll⟩:=
  ⟨g13.at f1,g13.at f2,g13.at f3,g13.at f4,⟨be,g13.at f5⟩,⟨a,b,c,e,g13.at f6⟩,g13.at f7,g13.at f8,z.at a10,z.at b10,z.at c10,z.at d10,z.at (g10.at (g9.at a8)),z.at (g10.at (g9.at b8)),a9.gr (g10.trans z),e10.gr z⟩
 refine Qw (X:=⟨fs',ms,rq,ar,w⟩) (A:=⟨font,kern,cm,cd,me,gd,gc,gdd,lay,sd,scr,lsl,lsy,lsf,rws,ll⟩) (lq:=lq) (wl:=wl) (ls:=ls) (by rfl) (by exact le) (by exact ta) (by rfl) F ok (y13.at hlq) hl7 hln w13 fun H14 sq_ r us g14 s1 s2 s3=>?_
 have y14:=y13.trans g14
 refine Qv (lq:=lq) (ls:=ls) (by exact le) (y14.at hlq) hl7 hln fun H15 fq g15 a15=>?_
 have y15:=y14.trans g15
 refine Qu (X:=⟨fs',ms,rq,ar,w⟩) (lq:=lq) (pf:=pf') (pm:=pm) (fq:=fq) (sq_:=sq_) (ls:=ls) (by exact le) (by exact fe) (by exact re) (by exact ma) (by exact ta) (by rfl) (by exact wi) (by rfl) ok ⟨FF.gr y15,MM.gr y15,h9,m9,mo⟩ (y15.at hlq) hl7 hln a15 fun L16 H16 dq g16 t16 s16 u16 hdq d16=>?_
 refine Qt (ar:=ar) t16 u16 d16 (by(rw[aj];erw[aW]);exact ah hl7 (by decide)) fun H17 m17 d17=>?_
 have hu:us.length=ls.length:=by
  have:=congrArg BP s3
  rwa [aj,aj,dT,aj]at this
 refine Qs (A:=if ar=true then us.reverse else us) (Q:=fun v z_=>v=.bool true) t16 u16 s16 (m17.at (g16.at (g15.at s1)) (aS (av (dm (g15.at s1)) hdq))) (m17.at (g16.at (g15.at s2)) (aS (av (dm (g15.at s2)) hdq))) ?_ ?_ fun z_=>rfl
 ·(erw[d17];refine(EW ok hln s3)▸?_)
  cases ar with
  |true=>exact congrArg (fun l=>some (MO.list l)) Hy.symm
  |false=>rfl
 ·rw[←hu]at hl7
  cases ar with
  |true=>exact ah (ff iz) hl7
  |false=>exact hl7
set_option backward.match.sparseCases true
theorem EZ{args:List WData}(h:pY.claim.pre args=true):∃sc:List Int,args=[.list (sc.map WData.int)]∧sc.length≤63:=by
 refine d9 (pre_splitW (r:=pY) h) fun h1 h2=>eW (hasAllW_cons h1) fun d r e1 h3 h4=>aM (hasW_list h3) fun xs e2 h5=>fH (items_int h5) fun sc e3=>?_
 have e:=hasAllW_nil h4
 subst e e3 e2 e1
 refine⟨sc,rfl,?_⟩
 have v4:=w_and (R:=[]) (e:={args:=[WData.list (sc.map WData.int)]}) (w_not (w_lt (a:=.lit (.int 63)) (b:=.len (.arg 0)) (x:=63) (y:=((sc.map WData.int).length:Nat)) rfl rfl)) (b:=.lit (.bool true)) (l:=true) rfl
 refine ir (condW_of h2 v4) fun h7 z_=>?_
 rw[aj]at h7
 exact mT.mp (fu.mp (of_decide_eq_false (Bc h7)))
theorem zE{R:WRecords}{cl:Str→Option Addr}{B:Heap}{sc:List Int}(Φ:bE):∀{vs:List Value}{as:List Addr},ReadsAllW R cl B vs (sc.map WData.int) as→dy B Φ B (sc.map MV.int) vs:=by
 induction sc with
 |nil=>intro vs as h;exact(readsAllW_nil_inv h).1▸.nil
 |cons i r ih=>
  intro vs as h
  obtain⟨v,vs',a1,a2,e1,_,h1,h2⟩:=readsAllW_cons_inv h
  obtain⟨t,e2,_⟩:=readsW_int_inv h1
  exact e1▸.cons (e2▸.int i t) (ih h2)
theorem zD{R:WRecords}{cl:Str→Option Addr}{B:Heap}{sc:List Int}{vals:List Value}{as:List Addr}(h:ReadsAllW R cl B vals [.list (sc.map WData.int)] as):∃l,vals=[.ref l]∧∀Φ,VR B Φ B (.flist (sc.map .int)) (.ref l):=by
 obtain⟨v,vs',a1,a2,e1,_,h1,h2⟩:=readsAllW_cons_inv h
 obtain⟨l,xs,as',e2,h3,h4,_⟩:=readsW_list_inv h1
 exact⟨l,e1.trans ((readsAllW_nil_inv h2).1▸e2▸rfl),fun Φ=>.flist (items:=xs.toList) h3 (zE Φ h4)⟩
theorem J0{args:List WData}:pY.claim.post args (.bool true) args=true:=
 look_both (show WShape.has [] (.bool true) .bool=true from by kernel_rfl) (holdsW_of_value (w_eq_bool (k:=true) (l:=true) rfl rfl))
theorem N4{G:Heap}(hA:vw.all (fun a=>(G.get? a).isSome)=true)(hgl:Qh.all (FM G)=true)(hfn:Gv (KX G)=true)(hin:Gu (KX G)=true)(hfl:Gw (KX G)=true)(hme:Gs (KX G)=true)
 (hfun:FW.all (FX G)=true) (hfd:FW.map (fun p=>(F7 G p.1).map fun fd=>(fd.scope,fd.body,fd.params.args.map (·.arg)))=FW.map (fun p=>some (p.2.sc,.stmts p.2.body,p.2.params))) (hlaw:nsFind (Ob G) (ag "law")=some (.ref 2033)) (hsys:(G.get? sysModules).isSome=true)
 {s:Shared}(hs:s.heap=B) (hY:∀b o,G.get? b=some o→B.get? b=some o) {mg mb:Str→Option Value}(hg:B.Ns mainGlobals mg) (hb:B.Ns builtinsNs mb) (hbi:∀y:Str,y≠"__name__"→mb y=bootBuiltins y) (hN:B.NoLimit)
 {a:Addr}(hmg:mg (ag "law")=some (.ref a)) {args:List WData}{vals:List Value}{as:List Addr}(hpre:pY.claim.pre args=true) {cl:Str→Option Addr}{mean:ExcName→Option Value}(hrd:ReadsAllW pY.records cl B vals args as) (hgens:s.gens=#[]):
 wpAny (model aQ w) callerA (DM (.ref a) vals) (fun v s'=>GoodWG pY.claim cl mean args s (.ok (.ret v)) s') (fun e s'=>GoodWG pY.claim cl mean args s (.error e) s') s:=by
 have ha:He a=.ref 2033:=ab (hmg.symm.trans ((F8 hY hA hg _).symm.trans hlaw))
 rw[ha]
 obtain⟨o,ho⟩:=dk.mp hsys
 obtain⟨sc,rfl,h63⟩:=EZ hpre
 obtain⟨la,rfl,hv⟩:=zD hrd
 have C:=Gy (OK hY hA hgl hfn hin hfl hme hg hb hbi ⟨o,hY _ _ ho⟩ rfl) (N6 hY hfun hfd) hN 14 callerA ⟨rfl,by decide,by decide⟩
 obtain⟨v,H',e,hvt⟩:=(Kh (H:=[]) h63).ex
 subst hvt
 have hr0:HR B [] [] s.heap:=hs.symm▸⟨fun z_ z_ e=>e,rfl,(fun n o p e=>bD e),List.Pairwise.nil,(fun p hp=>nomatch hp)⟩
 refine wpAny_call (C 2033 _ [] _ H' e [.ref la] [] s hr0 (.cons (hs.symm▸hv []) .nil) _ fun u s' P' c x=>?_)
 cases x
 obtain⟨h',tk,hs⟩:=c.shape
 refine GoodW.toG ⟨.inl ⟨_,.bool true,[],rfl,fun z_=>rfl,.bool true,J0,fun z_=>⟨dp,by simp⟩⟩,fun b o e=>?_,by rw[hs],by rw[hs];exact hgens⟩
 exact c.ext.keep b o e (fun⟨p,hp,_⟩=>nomatch hp) (fun q=>q)
theorem Pq:BJ X0:=fun hp s hs hY mg mb hg hb hbi hN a hmg args vals as hpre cl mean hrd hgens=>
 N4 (GS _) (N5 _) (N8 _) (FH _) (KB _) (Fl _) (Ku _) (Pv _) (NY _) (Mg _) hs hY hg hb hbi hN hmg hpre hrd hgens
theorem FL(x:Program×World×Heap):BJ x:=Classical.byContradiction fun h=>Classical.epsilon_spec (p:=fun x=>¬BJ x) ⟨x,h⟩ Pq
theorem Qm:Mh.Li:=by
 intro d kw hdef w s₀ s₁ mg mb G hY a o pm cd doc dV kV ho hod hcr hdf hmg hgens args vals as hpre hlay hrd hwell has
 have hn':d.name=ag "law":=defOf_name hdef
 rw[hn']at hmg
 exact FL (pY.prog,w,s₁.heap) rfl s₁ rfl hY mg mb G.T.g G.T.b G.T.builtins G.T.nolimit a hmg args vals as hpre _ _ hrd hgens
end Mine
end
theorem PySem.Challenge.cw_nu0210_01_holds : PySem.Challenge.rw_nu0210_01.Holds :=
 holds_law Mh.TS fun said=>Mh.OU said Mine.Qm
