import PyProof.Rows.All
import Wide.All
import OpenK.AllK
import Wide.FinOn
import PyProof.ToksMono
import PyProof.Heap
import KE.KTupTruth
import KE.KEqDict
import KE.KDictSum
import PyProof.Rows.SortStr
import Lean
import PySem.Challenge.RW_xm0555_01
set_option genSizeOf false
set_option genInjectivity false
set_option Elab.async false
set_option maxHeartbeats 0
set_option compiler.extract_closed false
set_option compiler.reuse false
set_option linter.all false
namespace Mine.Internal
abbrev mX:=Lean.Syntax
def mN(k:String)(a:List mX):mX:=.node .none (if k="" then`null else`Lean.Parser++k.toName) ⟨a⟩
def mL(a:List mX):mX:=mN "" a
def mI(x:String):mX:=.ident .none "".toRawSubstring x.toName []
def mT(k:String)(a:List mX):mX:=mN ("Tactic."++k) (mI ""::a)
def mJ:List mX->List mX
 |a::b::l=>a::mI ""::mJ (b::l)
 |l=>l
def mS(a:List mX):mX:=mN "Tactic.tacticSeq" [mN "Tactic.tacticSeq1Indented" [mL (mJ a)]]
def mF(a:List (List mX)):mX:=mT "first" [mL (a.map λt=>mL [mI "",mS t])]
def mR(f:String)(a:List mX):List mX:=[mT "refine" [mN "Term.app" [mI f,mL a]]]
def mQ(e m:mX):mX:=mT "rcases" [mL [mN "Tactic.elimTarget" [mL [],e]],mL [mI "",mN "Tactic.rcasesPatLo" [m,mL []]]]
def mM(a:List mX):mX:=mN "Tactic.rcasesPatMed" [mL (mJ a)]
def mG(q:mX)(n:String):mX×mX:=
 let p:=q[0][0]
 if q[0].getNumArgs=1&&p.getKind== `Lean.Parser.Tactic.rcasesPat.one&&p[0].getId != `rfl then(p[0],mT "skip" []) else(mI n,mQ (mI n) q)
def mV(e:mX)(x:List (mX×mX)):List mX:=(if e.isIdent then mF [[mT "clear" [mL [e]]],[mT "skip" []]] else mT "skip" [])::mT "intro" [mL (x.map (·.1))]::x.map (·.2)
def mO(s:mX):mX:=
 let e:=s[3][1][0]
 mQ (if s[2].getNumArgs=0 then e else mN "Term.typeAscription" [mN "Term.hygienicLParen" [mI "",mN "hygieneInfo" []],e,mI "",mL [s[2][1]],mI ""]) s[1][0]
def mU(s:mX):Option mX:=
 let e:=s[1][0][1]
 let h:=mN "Term.syntheticHole" [mI "",mN "Term.hole" [mI ""]]
 match s[2][1][0][0].getSepArgs.toList with
 |[p]=>
  if p.getKind== `Lean.Parser.Tactic.rcasesPat.paren then some (mQ e p[1][0]) else
  match p[1].getSepArgs.toList with
  |q::r::l=>some (mS (mF [mR "Exists.elim" [e,h],mR "And.elim" [h,e]]::mV e [mG q[0] "zx",mG (if l.isEmpty then r[0] else mM [mT "rcasesPat.tuple" [mL (mJ (r::l)),mI ""]]) "zy"]))
  |_=>none
 |p::l=>
  let g l:=mV e [mG (mM l) "zx"];some (mT "focus" [mS (mR "Or.elim" [e,h,h]++mT "rotateLeft" [mL []]::g l++mT "rotateRight" [mL []]::g [p])])
 |_=>none
def mB(s:mX):mX:=
 let x:=s[1][0][1]
 let z:=["zx","zy","zz","zw"].map mI
 let w l:=[mT "injection" [x,mL [mI "",mL l]],mT "allGoals" [mS (l.map λx=>mT "cases" [mL [mN "Tactic.elimTarget" [mL [],x]],mL [],mL []])]]
 if s[3].getNumArgs=0 then mF [[mT "injection" [x,mL []],mT "done" []],mR "List.not_mem_nil.elim" [x],[mQ x (mM [mN "Tactic.rcasesPat.one" [mI "rfl"]])],w z,w (z.take 3),w (z.take 2),w (z.take 1)]
 else mF (["List","Option","Nat","Bool"].map λn=>[mT "induction" [s[1],mL [mI "",mI (n++".casesOn")],mL [],s[3]]])
def mW(e:mX):List mX:=[mT "cases" [mL [mN "Tactic.elimTarget" [mL [],e]],mL [],mL []],mT "done" []]
def mY(l:List (List mX)):mX:=mN "Term.byTactic" [mI "",mS [mF l]]
theorem mSub{α:Sort _}{a b:α}{P:α->Prop}(e:a=b)(h:P a):P b:=Eq.ndrec h e
end Mine.Internal
open PySem PySem.W PyProof.Rows
noncomputable section
namespace Mine.Internal
theorem Y{α:Sort _}{a:α}:a=a:=rfl
abbrev aaS:=@Nat.le_trans
abbrev aaT:=@List.mem_singleton
abbrev aaU:=@congrArg
abbrev aaV:=@wpAny_bind
abbrev aaW:=@Nat.le_add_right
abbrev aaX:=@Nat.le_refl
abbrev aaY:=@Bool.false_ne_true
abbrev aaZ:=@Nat.lt_of_le_of_lt
abbrev aa0:=@Option.some.inj
abbrev aa1:=@List.length_map
abbrev aa2:=@Nat.add_le_add_right
abbrev aa3:=@Nat.add_le_add_left
abbrev aa4:=@List.length_append
abbrev aa5:=@List.mem_cons
abbrev aa6:=@List.mem_map
abbrev aa7:=@Nat.le_of_eq
abbrev aa8:=@Option.some_ne_none
abbrev aa9:=@Nat.zero_le
abbrev aa':=@List.forall_mem_cons
abbrev aa_:=@if_neg
abbrev aba:=@decide_eq_true
abbrev abb:=@Nat.lt_of_lt_of_le
abbrev abc:=@beq_iff_eq
abbrev abd:=@List.all_eq_true
abbrev abe:=@List.mem_append_left
abbrev abf:=@decide_eq_false
abbrev abg:=@List.getElem?_eq_some_iff
abbrev abh:=@wpAny_pure
abbrev abi:=@List.mem_append_right
abbrev abj:=@Nat.le_add_left
abbrev abk:=@List.mem_of_getElem?
abbrev abl:=@of_decide_eq_true
abbrev abm:=@List.getElem?_map
abbrev abn:=@if_pos
abbrev abo:=@List.not_mem_nil
abbrev abp:=@List.prefix_refl
abbrev abq:=@List.mem_append
abbrev abr:=@decide_eq_true_eq
abbrev abt:=@List.length_cons
abbrev abu:=@Nat.add_assoc
abbrev abv:=@List.nodup_cons
abbrev abw:=@Nat.add_le_add
abbrev abx:=@Nat.ne_of_lt
abbrev aby:=@Nat.not_le_of_lt
abbrev abz:=@Nat.mul_le_mul_left
abbrev abA:=@List.map_append
abbrev abB:=@Nat.lt_trans
abbrev abC:=@Int.ofNat.inj
abbrev abD:=@List.isEmpty_iff
abbrev abE:=@Nat.add_comm
abbrev abF:=@List.mem_cons_of_mem
abbrev abG:=@Nat.le_of_lt
abbrev abH:=@Nat.le_add_left_of_le
abbrev abI:=@Nat.succ_le_succ
abbrev abJ:=@beq_eq_false_iff_ne
abbrev abK:=@List.mem_cons_self
abbrev abL:=@wpAny_standAt
abbrev abM:=@List.map_cons
abbrev abN:=@Nat.not_lt_of_le
abbrev abO:=@List.append_nil
abbrev abP:=@Bool.eq_iff_iff
abbrev abQ:=@wpAny_holding
abbrev abR:=@List.nodup_append
abbrev abS:=@List.length_filter_le
abbrev abT:=@Nat.add_right_comm
abbrev abU:=@Heap.get?_push_size
abbrev abV:=@Bool.eq_false_iff
abbrev abW:=@Nat.lt_add_of_pos_right
abbrev abX:=@List.lookup_cons
abbrev abY:=@Bool.and_eq_true
abbrev abZ:=@List.mem_filter
abbrev ab0:=@Nat.not_lt
abbrev ab1:=@Heap.size_push
abbrev ab2:=@Heap.lt_size
abbrev ab3:=@Nat.lt_succ_self
abbrev ab4:=@List.getElem?_eq_getElem
abbrev ab5:=@Nat.zero_add
abbrev ab6:=@List.nodup_nil
abbrev ab7:=@Nat.le_succ
abbrev ab8:=@decide_eq_decide
end Mine.Internal
section
set_option maxRecDepth 100000
namespace Mine.Internal
abbrev eZ:=PySem.Challenge.rw_xm0555_01
theorem v1:noRoadLSs {strict:=true,foot:=some eZ.bound',writes:=eZ.writes,may:=eZ.may} eZ.footing=true:=by rewrite [PySem.W.Fast.te8326940854005059898];kernel_rfl
theorem v2:(importedModules eZ.prog.main.body).all cThrough.contains=true:=by kernel_rfl
theorem v3:(["vars","dir","locals"]:List Str).filter (readsOut eZ.prog eZ.prog.main.body)=[]:=by
 unfold readsOut;rewrite [PySem.W.Fast.te17119622794617984870];kernel_rfl
theorem v4:noRoadLSs {strict:=!(importedModules eZ.prog.main.body).all cThrough.contains,foot:=none,bare:=(["vars","dir","locals"]:List Str).filter (readsOut eZ.prog eZ.prog.main.body)} eZ.prog.main.body=true:=by rewrite [v2,v3,PySem.W.Fast.te8326940854005059898];kernel_rfl
theorem v5:looksOpen eZ.prog=true:=by
 delta looksOpen;repeat' with_reducible refine look_both ?_ ?_
 all_goals first|with_reducible exact v4|(rewrite [PySem.W.Fast.te8377067652309620493];kernel_rfl)|(rewrite [PySem.W.Fast.te17119622794617984870];kernel_rfl)|(rewrite [PySem.W.Fast.te11788848310118352699];kernel_rfl)|kernel_rfl
theorem v6(h:looksOpen eZ.row.prog=true):eZ.wellSaid=true:=by
 delta OpenLaw.wellSaid OpenRow.wellSaid OpenRow.partSaid;repeat' with_reducible refine look_both ?_ ?_
 with_reducible exact h
 all_goals first|with_reducible exact v1|(rewrite [PySem.W.Fast.te17119622794617984870];kernel_rfl)|kernel_rfl
theorem Mt:eZ.wellSaid=true:=v6 v5
end Mine.Internal
end
namespace Mine.Internal.H
section
set_option maxRecDepth 100000
noncomputable abbrev pw:Program:=PySem.Challenge.pw_xm0555_01
def alt(l:List Obj):Bool->List Obj:=@List.rec Obj (λ_=>Bool->List Obj) (λ_=>[]) (λx _ a b=>@Bool.rec (λ_=>List Obj) (a true) (x::a false) b) l
def lU(n:Nat):List Obj->BT:=@Nat.rec (λ_=>List Obj->BT) (λ_=>.nil) (λ_ a l=>@List.rec Obj (λ_=>BT) .nil (λx xs _=>.node x (a (alt xs true)) (a (alt xs false))) l) n
noncomputable abbrev I(i:Int)(t:Nat):Value:=.int i t
noncomputable def X(n:Nat):Str:=.ofString ((([["<module>","/claim/cut.py","__main__","type.__subclasses__.Exception.0","type.__subclasses__.Exception.n","__name__","kindkeep.diags","__doc__","__package__","__loader__","__spec__","__annotations__","__builtins__","__file__","__cached__","_wall"],["U_ANY","U_METHOD","U_PROP","U_READONLY","U_ENUM","U_OPTION","U_VAR","KeepError","TooDeep","k","__module__","__qualname__","__firstlineno__","__init__","__static_attributes__",""],["self","text","KeepError.__init__","number","__weakref__","TooDeep.__init__","kindkeep.types","HostFault","Notes","Y_KEY","Y_BOOL","Y_STR","HostFault.__init__","put","codes","clean"],["Notes.__init__","code","at","Notes.put","Notes.codes","Notes.clean","rows","__dict__","Y_NUM","Y_ENUM","Y_UNION","Y_INTER","Y_OBJ","Y_REF","Y_PARAM","Y_ARRAY"],["Y_TUPLE","Y_SIG","Y_KEYOF","Y_INDEX","Y_COND","Y_MAPPED","Y_TPL","Y_ALIAS","ANY","UNKNOWN","NEVER","VOID","UNDEF","NULLT","STRING","NUMBER"],["FALSE_T","TRUE_T","OBJECTT","EMPTY","ERR","FRESH_F","FRESH_T","P_OPT","P_READONLY","P_METHOD","P_PRIVATE","P_PROTECTED","P_GETONLY","V_CO","V_CONTRA","V_BI"],["V_NONE","MAX_UNION","FIRST_ROWS","LITERAL_ROWS","MARKED_ROWS","any","unknown","never","void","undefined","null","string","object","error","TypeTable","Decl"],["sorted_props","row","TypeTable.__init__","t","TypeTable.row","TypeTable.put","bounds","decls","defaults","index","names","origins","putting","renamed","shaping","did"],["kind","name","Decl.__init__","abstract","bases","body","busy","extends_class","file","members","nid","params","static","variances","kindkeep.shapes","obj_type"],["func_type","new_param","new_decl","parts_of","whole_of_row","regular_twin","join_bools","stays_beside","top_of","union","add_undef","is_literal","is_unit","is_fresh","regular_one","MOST_PLAIN"],["PLAIN_ROWS","plain_shape","tab","props","calls","ctors","sindex","nindex","fresh","sig","bound","default","pid","decl","got","turn"],["kindkeep.hosts","body_put","plain_body","arg_shape","base_dids","MOST_ROUNDS","MOST_SHAPES","host","first","key","Thin","force","put_deferred","put_cond","lay_row","shape"],["fits","lies","infers","tpl_fits","shape_fits","put_in","own_sig","forget","list_prop","list_index","elem_met","error_class","Thin.__init__","Thin.force","Thin.put_deferred","mapping"],["Thin.put_cond","Thin.lay_row","Thin.bound","Thin.shape","s","Thin.fits","Thin.lies","pids","check","ext","Thin.infers","Thin.tpl_fits","Thin.shape_fits","Thin.put_in","erased","Thin.own_sig"],["Thin.forget","Thin.list_prop","Thin.list_index","kinds","Thin.elem_met","Thin.error_class","deep","lib","most_deep","most_rounds","kindkeep.relbase","ArgHost","bound_of","find_prop","prop_row","read_type"],["has_base","R_ASSIGN","R_COMPARE","R_IDENT","R_SUBTYPE","RULE_MEET","RULE_DEFERRED","RULE_SIG","RULE_LIST","RULE_OBJECT","ArgHost.__init__","ArgHost.bound","ArgHost.forget","ArgHost.shape","instances","prop"],["base","seen","waiting","RULE_CHOICE","RULE_CALLS","RULE_INDEX","RULE_REFS","RULE_PLACES","RULE_WORD","VALUE_ROWS","LIST_ROWS","SHAPED_ROWS","DEFERRED_ROWS","OPEN_ROWS","MAX_OPEN","MOST_LOOKS"],["RelRule","holds","loose","blank","tells","rel","RelRule.holds","RelRule.loose","RelRule.sig","RelRule.blank","parts","RelRule.tells","Rel","by_rule","silent_with","twin_of"],["cut_back","settled","ask","note","same","mark","back","infer_sig","mode","Rel.__init__","Rel.ask","Rel.note","Rel.same","Rel.mark","spot","Rel.back"],["Rel.infer_sig","assumed","known","looks","missing","notes","road","rules","telling","trail","twin","rule","made","ask_kinds","relbase_kept","close_trail"],["taken_wider","slot_notes","all_related","simple_related","tops_related","unknown_told","is_numeric_enum","values_related","number_to_enum","structured","rule_for","from_union","some_part","lay_again","told","answer"],["s_ro","t_ro","ss","ts","place","a","b","part","lax","kindkeep.relshape","to_union","same_kind","each_in","is_weak","shows_nothing","is_weak_kind"],["weak_fault","MAX_ROAD","LENGTH_CHANGERS","did_of","rises","too_deep","objects_related","refs_related","opened","is_readonly","weak_asked","shape_related","relshape_within_literal","kindkeep.excess","pop","push"],["reverse","shift","side","last","count","step","weak","signs","rest_related","lacking","owners_fit","marks_fit","is_called","loss_notes","prop_related","same_objects"],["same_shapes","same_prop","found","want","hidden","owner","have","p","q","marks","kindkeep.relsig","RelshapeObjectRule","install_rel_objects","arg_holds","args_related","RelshapeObjectRule.holds"],["RelshapeObjectRule.loose","law_xm0555_01","RefsRule","install_rel_refs","_law_pool","_law_draw","_law_join","_law_twin","_law_near","_law_world","_law_cell","RefsRule.holds","d","n","how","other"],["w","args","own","_law_rows","_law_read","_law_face","_law_roads","_law_like","_law_bits","_law_many","_law_same","_law_table","_law_object","_law_thing","_law_type","_law_lay"],["_law_rel","_law_shut","law","x","y","alike"]]:List (List String)).getD (n/16) []).getD (n%16) "")
abbrev S(x t:Nat):Value:=.str (X x) t
noncomputable abbrev R(a:Nat):Value:=.ref a
noncomputable abbrev ty(n:String):Value:=.type n
noncomputable abbrev bi(n:String):Value:=.builtin n
noncomputable abbrev tp(l:List Value):Obj:={cls:=.type "tuple",data:=.seq ⟨l⟩ 0}
noncomputable abbrev nf(l:List Value):Obj:={cls:=.none,data:=.fields ⟨l⟩}
noncomputable abbrev fl(n:String)(l:List Value):Obj:={cls:=.type n,data:=.fields ⟨l⟩}
abbrev E(P:Params)(x t:Nat)(v:Value):DictEntry:=⟨PyData.keyHash P (X x),.str (X x) t,v⟩
noncomputable abbrev dc(es:List DictEntry)(n:Nat):Obj:={cls:=.type "dict",data:=.dict ⟨es⟩ n}
noncomputable abbrev dn(es:List DictEntry)(n:Nat):Obj:={cls:=.none,data:=.dict ⟨es⟩ n}
noncomputable abbrev fm(l:List (Option Value)):Obj:={cls:=.type "frame",slots:=⟨l⟩}
noncomputable abbrev pl(n:String):Obj:={cls:=.type n}
def st(i:Nat):Stmt:=pw.main.body.getD i (.Pass ⟨0,0,0,0⟩)
def ms(i j:Nat):Stmt:=match st i with
 |.ClassDef _ _ _ b .. =>b.getD j (.Pass ⟨0,0,0,0⟩)
 |s=>s
def fr(s:Stmt)(q:Nat):Obj:=match s with
 |.FunctionDef n a b _ _ _ c _ _ _=>{cls:=.none,data:=.func {name:=n,qualname:=X q,params:=a,body:=.stmts b,scope:=c,globals:=0,closure:=[],defaults:=.none,kwdefaults:=.none}}
 |_=>default
def fo(s:Stmt)(q:Nat)(d m c:Value):Obj:=match s with
 |.FunctionDef n a b _ _ _ f _ _ _=>{cls:=.type "function",data:=.func {name:=n,qualname:=X q,params:=a,body:=.stmts b,scope:=f,globals:=mainGlobals,closure:=[],defaults:=d,kwdefaults:=.none,pyModule:=m,code:=c,builtins:=builtinsNs}}
 |_=>default
def cl(n:Nat)(bs mro:List Value)(ns q:Nat)(subs:List Value)(sl:List (Option Value)):Obj:=
 {cls:=.type "type",data:=.cls {name:=X n,bases:=bs,mro:=mro,ns:=ns,qualname:=X q,subclasses:=subs},slots:=⟨sl⟩}
noncomputable def lf:Life:={}
def qZ:Env:={scope:=pw.main.scope,locals:=mainNs,globals:=mainNs,cells:=[],code:=.ref 13,frame:=some 14}
def jl:Code:=.body (behindTheImports pw) qZ
noncomputable def BM:List Frame:=[topFrame ⟨0,0,0,0⟩]
def sl(a n:Nat):List Stmt:=(pw.main.body.drop a).take n
def tk(l:List Nat):Nat->List Value:=@List.rec Nat (λ_=>Nat->List Value) (λ_=>[]) (λx _ q n=>S x n::q (n+1)) l
abbrev Ei(P:Params)(x:Nat)(k:Int)(t:Nat):DictEntry:=E P x (t+1) (I k t)
abbrev Er(P:Params)(x t a:Nat):DictEntry:=E P x t (R a)
def wY{a:Type}(f:Nat->Nat->Nat->List a)(l:List Nat):List Nat->List a:=@List.rec Nat (λ_=>List Nat->List a) (λ_=>[]) (λx _ k s=>@List.casesOn Nat (λ_=>List a) s (k [x]) λy r=>@List.casesOn Nat (λ_=>List a) r (k [x,y]) λz _=>f z y x++k []) l
def er(P:Params)(l:List Nat):List DictEntry:=wY (λx t a=>[Er P x t a]) l []
def ei(P:Params)(l:List Nat):List DictEntry:=wY (λx k t=>[Ei P x k t]) l []
def qR{a:Type}(l:List a):Nat->List a:=@List.rec a (λ_=>Nat->List a) (λ_=>[]) (λx _ k n=>@Nat.rec (λ_=>List a) [] (λn _=>x::k n) n) l
def cd(n q t l ac b u:Nat)(z:List Value):Obj:=fl "code" ([S n t,S q (t+1),S 1 (t+2),I l 0,I ac 0,I 0 0,I 0 0,I 3 0,R b,.bool true,I 181 0,R (b+1),.none]++z++[I (u-1:Nat) 0,I l 0,S 1 u])
def fX(s:Stmt)(n q t l ac b:Nat)(d m:Value)(ps:List Nat):List Obj:=tp []::nf []::@List.casesOn Nat (λ_=>List Obj) ps [fr s q,cd n q t l ac b (t+4) [.none,.none,R (b+2)],fo s q d m (R (b+3))] λ_ _=>[tp (tk ps (t+3)),tp [],fr s q,cd n q t l ac b (t+ps.length+4) [R (b+2),R (b+3),R (b+4)],fo s q d m (R (b+5))]
noncomputable def sz(r:Nat)(x:List Nat):Nat:=@List.casesOn Nat (λ_=>Nat) (x.drop r) 5 λ_ _=>7
noncomputable def at_(x:List Nat)(n:Nat):Nat:=(x.drop n).headD 0
def fs{a:Type}(g:Nat->Nat->Nat->List Nat->List a)(r:Nat)(l:List (List Nat)):Nat->Nat->Nat->List a:=@List.rec (List Nat) (λ_=>Nat->Nat->Nat->List a) (λ_ _ _=>[]) (λx _ k j t b=>g j t b x++k (j+1) (t+x.length-r+6) (b+sz r x)) l
def fT(j t b:Nat)(d m:Value)(l:List (List Nat)):List Obj:=fs (λj t b x=>fX (st j) (at_ x 0) (at_ x 0) t (at_ x 1) (at_ x 2) b d m (x.drop 3)) 3 l j t b
def O1:List Value:=[ty "object"]
def X1:List Value:=[ty "Exception",ty "BaseException",ty "object"]
noncomputable def on:String:="object.__new__"
noncomputable def xn:String:="Exception.__new__"
def gw(u s k:Nat):Obj:=fl "getset_descriptor" [S 36 (u+k),R (s+2),bi "ExceptionGroup.__weakref__",.none]
def bf(l:List Value):Obj:=fl "builtin_function_or_method" l
def cE(P:Params)(c n l T a:Nat)(m:Value)(bs mro:List Value)(w:Nat)(y:String)(h:List Value)(f:List Nat)(r:List Value)(d:List (List Nat))(t b s u:Nat):List Obj:=
 let i:=fs (λ_ t b x=>[Er P (at_ x 0) (t+x.length+1) (b+sz 4 x-1)]) 4 d 0 t b++[Er P 30 u s]
 let q:=E P 26 (T+7) m
 let p:=Ei P 28 l (T+10)
 [tp bs,bf [bi "type.__prepare__",ty "type"],dc (q::E P 27 (T+9) (S n (T+8))::p::i) (d.length+4),tp [],nf (fs (λ_ _ b x=>[I (at_ x 2) 0,I 4 0,R (b+sz 4 x-2)]) 4 d 0 t b),fl "code" [S n (T+2),S n (T+3),S 1 (T+4),I l 0,I 0 0,I 0 0,I 0 0,I 0 0,R (a+3),.bool false,I 181 0,R (a+4),.none,.none,.none,.none,I (T+5:Nat) 0,I l 0,S 1 (T+6)],fm [some (R (a+5)),some (R 3),some (R (a+2)),none,some m,none,some (R 0)]]
  ++(@List.casesOn Value (λ_=>List Obj) h [] (λ_ _=>[tp h])++(fs (λj t b x=>fX (ms c j) (at_ x 0) (at_ x 1) t (at_ x 2) (at_ x 3) b (@List.casesOn Value (λ_=>Value) h .none λ_ _=>R (a+7)) m (x.drop 4)) 4 d 0 t b++([tp (tk f (u-f.length)),dc (q::p::i++@Nat.casesOn (λ_=>List DictEntry) w [Er P 55 (u+2) (s+3),Er P 36 (u+4) (s+4),E P 7 (u+5) .none] λw=>@Nat.casesOn (λ_=>List DictEntry) w [E P 7 (u+1) .none] λ_=>[Er P 36 (u+2) (s+3),E P 7 (u+3) .none]) (@Nat.casesOn (λ_=>Nat) w 4 λw=>w+2),
  cl n (@List.casesOn Value (λ_=>List Value) bs O1 λ_ _=>bs) (R (s+2)::mro) (s+1) n r [@List.casesOn Value (λ_=>Option Value) bs none λ_ _=>some (R a),none,some (S n T),some (S n (T+8)),some (bi y),some (.bool true)]]
  ++(@Nat.casesOn (λ_=>List Obj) w [fl "getset_descriptor" [S 55 (u+1),R (s+2),bi "function.__dict__",bi "function.__dict__#set"],gw u s 3] (λw=>@Nat.casesOn (λ_=>List Obj) w [] λ_=>[gw u s 1])++[fl "super" [R (s+2),R (s+2),R (s+2)],bf [bi "object.__init_subclass__",R (s+2)]]))))
def cb(P:Params)(c n l T a:Nat)(m:Value)(bs mro:List Value)(w:Nat)(j:String)(f:List Value)(h:List Nat)(i:List Value)(d:List (List Nat)):List Obj:=
 cE P c n l T a m bs mro w j f h i d (T+12+f.length) (a+7+@List.casesOn Value (λ_=>Nat) f 0 λ_ _=>1) (d.foldl (λb x=>b+sz 4 x) (a+7+@List.casesOn Value (λ_=>Nat) f 0 λ_ _=>1)) (d.foldl (λt x=>t+x.length+2) (T+12+f.length)+h.length)
def M0:Value:=S 2 164
def M1:Value:=S 6 194
def M2:Value:=S 38 348
def M3:Value:=S 142 714
def M4:Value:=S 176 759
def M5:Value:=S 234 1054
def M6:Value:=S 365 1513
def M7:Value:=S 345 1543
def M8:Value:=S 394 1804
def M9:Value:=S 401 1864
def A0(P:Params):List Obj:=[boot_o_0 P,boot_o_1 P,boot_o_2 P,boot_o_3 P,boot_o_4 P,boot_o_5 P,boot_o_6 P,boot_o_7 P,boot_o_8 P,boot_o_9 P,boot_o_10 P]
def L1(P:Params):List Obj:=[tp [],nf [],fl "code" [S 0 182,S 0 183,S 1 184,I 1 0,I 0 0,I 0 0,I 0 0,I 0 0,R 11,.bool false,I 181 0,R 12,.none,.none,.none,.none,I 185 0,I 1 0,S 1 186],fm [some (R 13),some (R 3),some (R 3),none,some (S 2 164),none,some (R 0)]]
def A1(P:Params):List Obj:=A0 P++L1 P
def GD(P:Params):List DictEntry:=[E P 7 166 .none,E P 8 167 .none,E P 9 168 (bi "__main__.__loader__#opaque"),E P 10 169 .none]++(er P [11,170,6,12,171,4]++([E P 13 173 (S 1 172),E P 14 174 .none]++(er P [15,193,21]++(ei P [16,1,196,17,2,198,18,3,200,19,4,202,20,10,204,21,11,206,22,15,208]++(er P [23,240,39,24,269,60,39,296,80,40,347,120]++(ei P [41,1,350,42,2,352,43,3,354,56,4,356,57,5,358,58,6,360,59,7,362,60,8,364,61,9,366,62,10,368,63,11,370,64,12,372,65,13,374,66,14,376,67,15,378,68,16,380,69,17,382,70,18,384,71,19,386,72,0,388,73,1,390,74,2,392,75,3,394,76,4,396,77,5,398,78,6,400,79,7,402,80,8,404,81,9,406,82,10,408,83,11,410,84,13,412,85,14,414,86,15,416,87,1,418,88,2,420,89,4,422,90,8,424,91,16,426,92,32,428,93,1,430,94,2,432,95,3,434,96,4,436,97,400,438]++(er P [98,461,147,99,462,148,100,463,149,110,518,180,111,563,201,112,569,210,143,583,222,144,591,229,145,606,237,146,616,244,147,625,251,148,633,258,149,642,265,150,649,272,151,658,279,152,666,286,153,672,291,154,680,298,155,688,305,156,696,312,157,705,319,158,713,326]++(ei P [159,40,716]++(er P [160,718,327,161,728,334,177,734,339,178,740,344,179,752,351,180,758,356]++(ei P [181,200,761,182,40,763]++(er P [186,950,499,235,1002,541,236,1012,550,237,1021,557,238,1032,564,239,1040,571,240,1053,578]++(ei P [241,1,1056,242,2,1058,243,3,1060,244,4,1062,245,1,1064,246,2,1066,247,3,1068,248,4,1070,249,5,1072,259,6,1074,260,8,1076,261,10,1078,262,11,1080,263,12,1082,264,14,1084]++(er P [265,1086,579,266,1087,580,267,1088,581,268,1089,582,269,1090,584]++(ei P [270,60,1091,271,20000,1093]++(er P [272,1163,629,284,1256,692,285,1267,703,286,1276,710,287,1283,717,288,1291,724,289,1299,731,317,1310,738,318,1322,745,319,1331,752,276,1338,759,320,1347,766,321,1358,773,322,1368,780,323,1381,787,324,1390,794,325,1399,801,326,1406,808,327,1417,815,328,1427,822,329,1439,829,330,1447,836,331,1457,843,332,1469,850,333,1478,857,346,1490,864,347,1502,871,348,1512,878,349,1520,883,350,1530,890,351,1536,895,352,1542,900]++(ei P [353,24,1545]++(er P [354,1551,901,355,1558,908,356,1571,915,357,1581,922,358,1594,929,359,1608,936,360,1620,943,361,1627,950,362,1635,957,363,1648,964,364,1654,969,376,1664,976,377,1673,983,378,1685,990,379,1695,997,380,1701,1002,381,1712,1009,382,1725,1016,383,1736,1023,384,1749,1030,385,1760,1037,395,1796,1061,396,1803,1070,397,1815,1077,398,1829,1084,402,1856,1101,403,1863,1110,404,1891,1161,405,1900,1168,406,1906,1173,407,1912,1178,408,1922,1185,409,1928,1190,410,1941,1197,419,1947,1202,420,1954,1209,421,1960,1214,422,1966,1219,423,1975,1226,424,1982,1233,425,1988,1238,426,1994,1243,427,2000,1248,428,2006,1253,429,2012,1258,430,2018,1263,431,2024,1268,432,2032,1275,433,2039,1282,434,2045,1287])))))))))))))))))
def NF:List Value:=wY (λx y z=>[I x 0,I y 0,R z]) [1,0,20,12,0,27,17,0,48,22,0,68,27,0,88,89,0,155,115,0,190,133,0,209,138,0,221,140,0,228,142,0,236,148,0,243,152,0,250,159,0,257,168,0,264,173,0,271,177,0,278,181,0,285,186,0,290,203,0,297,205,0,304,207,0,311,209,0,318,212,0,325,219,0,333,234,0,338,245,0,343,258,0,350,268,0,355,275,0,362,337,0,509,354,0,549,360,0,556,365,0,563,373,0,570,375,0,577,410,0,590,426,0,639,462,0,702,465,0,709,470,0,716,476,0,723,480,0,730,485,0,737,503,0,744,528,0,751,534,0,758,536,0,765,539,0,772,545,0,779,550,0,786,566,0,793,583,0,800,590,0,807,592,0,814,606,0,821,613,0,828,622,0,835,632,0,842,640,0,849,654,0,856,660,0,863,673,0,870,682,0,877,688,0,882,692,0,889,700,0,894,705,0,899,713,0,907,715,0,914,723,0,921,730,0,928,742,0,935,752,0,942,764,0,949,766,0,956,768,0,963,779,0,968,788,0,975,794,0,982,805,0,989,813,0,996,819,0,1001,822,0,1008,829,0,1015,847,0,1022,855,0,1029,867,0,1036,873,0,1043,882,0,1069,885,0,1076,893,0,1083,905,0,1090,910,0,1109,914,0,1167,918,0,1172,931,0,1177,937,0,1184,943,0,1189,969,0,1196,986,0,1201,992,0,1208,994,0,1213,996,0,1218,1005,0,1225,1007,0,1232,1009,0,1237,1011,0,1242,1019,0,1247,1045,0,1252,1047,0,1257,1053,0,1262,1057,0,1267,1067,0,1274,1072,0,1281,1074,0,1286] []
def GL(P:Params)(x y z:List Value):List Obj:=fT 0 187 15 .none M0 [[15,1,1,25]]++(
 cb P 9 23 12 210 22 M1 [ty "Exception"] X1 2 xn [S 31 222] [35,33] x [[29,34,14,2,32,33]]++(
 cb P 10 24 17 241 43 M1 [R 39] (R 39::X1) 1 xn [I 2589 253,S 31 254] [35,33] [] [[29,37,19,3,32,35,33]]++(
 cb P 11 39 22 270 63 M1 [R 39] (R 39::X1) 1 xn [S 31 282] [35,33] [] [[29,44,24,2,32,33]]++(
 cb P 12 40 27 297 83 M1 [] O1 0 on [] [54] [] [[29,48,29,1,32],[45,51,32,3,32,49,50],[46,52,35,1,32],[47,53,38,1,32]]++(
 [tp [I 1 350,S 101 440],tp [I 1 350,S 102 441],tp [I 1 350,S 103 442],tp [I 1 350,S 104 443],tp [I 1 350,S 105 444],tp [I 1 350,S 106 445],tp [I 1 350,S 107 446],tp [I 1 350,S 35 447],tp [I 2 352,I 0 448,I 0 449],tp [I 2 352,I 1 450,I 0 451],tp [I 1 350,S 108 452],tp [],tp [],tp [],tp [],tp [],tp [I 8 364,R 136,R 137,R 138,R 139,R 140,I 0 453],tp [I 8 454,I 9 455],tp [I 6 360,R 142],tp [I 1 350,S 109 456],tp [I 2 352,I 0 457,I 1 458],tp [I 2 352,I 1 459,I 1 460],tp [R 125,R 126,R 127,R 128,R 129,R 130,R 131,R 132,R 133,R 134,R 135,R 141,R 143,R 144,R 145,R 146],tp [I 2 352,I 3 354,I 4 356,I 5 358],tp [I 2 352,I 3 354,I 4 356,I 5 358,I 8 364]]++(
 cb P 62 110 89 464 150 M2 [] O1 0 on [] [118,119,120,121,122,123,124,125,54,126] [] [[29,114,91,1,32,113],[113,116,105,2,32,115],[45,117,108,2,32,113,115]]++(
 cb P 63 111 115 519 185 M2 [] O1 0 on [] [131,50,132,133,134,127,135,136,128,137,129,138,139,140,141] [] [[29,130,117,4,32,127,128,129]]++(
 fT 64 564 206 .none M2 [[112,133,1]]++(
 [tp [],tp [],tp [],tp [],tp [R 211,R 212,R 213,R 214,I 0 570]]++(
 fT 65 571 216 (R 215) M2 [[143,138,7,162,163,164,165,166,167,168]]++(
 fT 66 584 223 .none M2 [[144,140,2,162,169]]++(
 [tp [I (-1) 593,I (-1) 595]]++(
 fT 67 596 231 (R 230) M2 [[145,142,4,162,129,170,171,172]]++(
 fT 68 607 238 .none M2 [[146,148,3,162,128,129,173],[147,152,2,162,115,113],[148,159,1,113,128],[149,168,2,162,115,113],[150,173,1,174],[151,177,3,162,174,115],[152,181,1,174,115],[153,186,2],[154,203,2,162,115],[155,205,2,162,115],[156,207,2,162,115],[157,209,2,162,115,113],[158,212,2,162,115]]++(
 [tp [I 1 350,I 2 352,I 3 354,I 4 356,I 5 358]]++(
 fT 84 719 328 .none M3 [[161,219,2,162,115,175,113],[177,234,3],[178,245,2],[179,258,2,183,115,184,175,113,185],[180,268,2]]++(
 cb P 92 186 275 765 357 M4 [] O1 0 on [] [230,231,232,233,162] y [[29,204,277,2,32,162],[187,205,284,2,32,115],[188,206,287,2,32,113],[189,208,290,3,32,113,207],[190,209,293,3,32,113,207],[170,210,296,2,32,115],[191,211,299,2,32,115],[192,213,302,3,32,212,115],[193,214,305,3,32,212,115],[194,218,308,4,32,215,216,217],[195,219,311,3,32,212,115],[196,220,314,3,32,212,115],[197,221,317,3,32,115,207],[198,223,320,3,32,212,222],[199,224,323,1,32],[200,225,326,3,32,115,129],[201,226,329,2,32,115],[202,228,332,2,32,227],[203,229,335,1,32]]++(
 cb P 93 235 337 951 504 M4 [R 499] (R 499::O1) 1 on [] [230,254,232,233,162] [] [[29,250,339,2,32,162],[170,251,346,2,32,115],[199,252,349,1,32],[191,253,352,2,32,115]]++(
 fT 94 1003 544 .none M4 [[236,354,2,162,115,113,170],[237,360,2,113,129,255],[238,365,3,183,115,129,113,255],[239,373,2,162,255],[240,375,3,183,127,256,257,258,50,115]]++(
 [tp [I 1 350,I 2 352,I 3 354,I 4 356,I 5 358],tp [I 11 370,I 12 372],tp [I 8 364,I 9 366],tp [I 10 368,I 14 376,I 15 378,I 16 380,I 17 382,I 18 384,I 19 386],tp [I 6 360,I 7 362],tp [I 6 360,I 7 362,I 10 368,I 14 376,I 15 378,I 16 380,I 17 382,I 18 384,I 19 386]]++(
 cb P 122 272 410 1095 585 M5 [] O1 0 on [] [] z [[273,278,412,4,32,277,212,115],[274,279,415,4,32,277,212,115],[169,280,418,4,32,277,212,115],[275,281,421,3,32,277,212],[276,283,424,4,32,277,282,129]]++(
 cb P 123 284 426 1164 634 M5 [] O1 0 on [] [305,50,230,183,306,307,308,296,309,310,311,312,313,314] [] [[29,297,428,3,32,183,296],[290,298,444,3,32,212,115],[291,299,447,2,32,49],[292,300,451,3,32,212,115],[293,301,454,1,32],[294,303,457,2,32,302],[295,304,460,3,32,212,115]]++(
 fT 124 1257 697 .none M5 [[285,462,4,277,35,212,115,315],[286,465,2,277,296,316],[287,470,1,277],[288,476,2,277,302],[289,480,2,183,115],[317,485,3,277,212,115,54,334],[318,503,3,277,212,115,185,302,335],[319,528,2,277,47,185],[276,534,1,277],[320,536,3,277,212,115],[321,539,5,277,212,115,336,337],[322,545,3,277,338,339,340],[323,550,3,277,212,115,334,54,341,342],[324,566,3,277,212,115],[325,583,2,277,115,282],[326,590,1,113],[327,592,3,277,212,115,341,342],[328,606,4,277,212,341,342],[329,613,3,277,212,115,54,341,342],[330,622,2,341,342],[331,632,3,277,212,115,343],[332,640,3,277,212,282,344,343,302],[333,654,2,277,344,185],[346,660,3,277,212,115,162,282,128],[347,673,3,277,212,115,54,341,342],[348,682,3,277,338,339,212]]++(
 fT 151 1515 879 .none M6 [[349,688,1],[350,692,2,183,212,128,113],[351,700,2],[352,705,3]]++(
 [tp [S 366 1547,S 367 1548,S 368 1549,S 369 1550]]++(
 fT 158 1552 902 .none M7 [[355,713,1,113],[356,715,4,310,370,127,35,371,372,373],[357,723,3,277,212,115,54],[358,730,4,277,212,115,374,162,341,342],[359,742,5,277,212,115,341,342,302,375,340],[360,752,4,277,212,115,374,54,335],[361,764,1,255],[362,766,2,277,212],[363,768,4,277,212,115,374,183,113,255],[364,779,3],[376,788,4,277,212,115,113],[377,794,3,277,212,255],[378,805,4,183,212,386,387,388,389],[379,813,4,277,212,386,387],[380,819,2],[381,822,4,277,212,386,255,113],[382,829,3,277,212,255,162,386,390,387],[383,847,3,277,212,115,341,342],[384,855,3,277,212,115,183,341,342,340],[385,867,3,277,391,392,162,393]]++(
 cb P 178 395 873 1761 1038 M7 [R 629] (R 629::O1) 1 on [] [] [] [[273,399,875,4,32,277,212,115],[274,400,880,4,32,277,212,115]]++(
 fT 179 1797 1064 .none M7 [[396,882,1,277]]++(
 fT 181 1806 1071 .none M8 [[397,885,4,277,293,212,115],[398,893,4,277,173,338,339,340,212,115,293]]++(
 cb P 183 402 905 1830 1085 M8 [R 629] (R 629::O1) 1 on [] [] [] [[273,411,907,4,32,277,212,115,54]]++(
 fT 184 1857 1104 .none M8 [[403,910,1,277]]++(
 [tp [],tp [I 1 1866,R 1111],tp [],tp [I 2 1867,R 1113],tp [],tp [I 4 1869,R 1115],tp [R 1116],tp [I 0 1868,R 1117],tp [],tp [I 3 1871,R 1119],tp [R 1120],tp [I 0 1870,R 1121],tp [],tp [I 128 1872,R 1123],tp [],tp [I 9 1873,R 1125],tp [],tp [I 1 1876,R 1127],tp [R 1128],tp [I 2 1875,R 1129],tp [R 1130],tp [I 0 1874,R 1131],tp [],tp [I 32 1877,R 1133],tp [],tp [I 3 1879,R 1135],tp [R 1136],tp [I 8 1878,R 1137],tp [],tp [I 0 1880,R 1139],tp [],tp [I 4 1881,R 1141],tp [],tp [I 64 1882,R 1143],tp [],tp [I 136 1883,R 1145],tp [],tp [I 10 1884,R 1147],tp [],tp [I 4 1886,R 1149],tp [R 1150],tp [I 1 1885,R 1151],tp [],tp [I 3 1890,R 1153],tp [R 1154],tp [I 0 1889,R 1155],tp [R 1156],tp [I 2 1888,R 1157],tp [R 1158],tp [I 0 1887,R 1159],tp [R 1112,R 1114,R 1118,R 1122,R 1124,R 1126,R 1132,R 1134,R 1138,R 1140,R 1142,R 1144,R 1146,R 1148,R 1152,R 1160]]++(
 fT 187 1892 1162 .none M9 [[405,914,2,412,413,50],[406,918,1],[407,931,1],[408,937,2,412,128,414,415],[409,943,1],[410,969,4,416,25,414,417,418,184,371],[419,986,2],[420,992,1,113],[421,994,1],[422,996,3],[423,1005,3,435,436,437],[424,1007,1,128],[425,1009,1],[426,1011,3],[427,1019,2],[428,1045,3],[429,1047,3],[430,1053,3],[431,1057,2],[432,1067,1,183,277],[433,1072,1,277],[434,1074,1]])))))))))))))))))))))))))))))))))
def G(P:Params)(k m:Nat)(q:Value)(x y z:List Value):List Obj:=[boot_o_0 P,boot_o_1 P,dn [E P 3 237 (I 39 0),E P 4 238 (I 1 0)] 2,dc (E P 5 165 q::qR (GD P) k) (k+1),boot_o_4 P,boot_o_5 P,boot_o_6 P,boot_o_7 P,boot_o_8 P,boot_o_9 P,boot_o_10 P,tp [],nf (qR NF m),fl "code" [S 0 182,S 0 183,S 1 184,I 1 0,I 0 0,I 0 0,I 0 0,I 0 0,R 11,.bool false,I 181 0,R 12,.none,.none,.none,.none,I 185 0,I 1 0,S 1 186],fm [some (R 13),some (R 3),some (R 3),none,some M0,none,some (R 0)]]++GL P x y z
def FO(P:Params):List Obj:=G P 208 348 M9 [R 60,R 80] [R 541] [R 1061,R 1101]
def hs(w:World)(os:OsState)(n t k m:Nat)(q:Value)(x y z:List Value):SharedT:=⟨lU 12 (qR (G w.params k m q x y z) n),n,lf,#[],boot_drawn,t,os⟩
abbrev HH:=World->OsState->SharedT
def H1:HH:=λw os=>⟨lU 12 (A1 w.params),15,lf,#[],boot_drawn,187,os⟩
def H2:HH:=λw os=>hs w os 63 270 18 9 M1 [R 60] [] []
def H3:HH:=λw os=>hs w os 125 356 23 15 M2 [R 60,R 80] [] []
def H4:HH:=λw os=>hs w os 150 464 68 15 M2 [R 60,R 80] [] []
def H5:HH:=λw os=>hs w os 211 570 71 24 M2 [R 60,R 80] [] []
def H6:HH:=λw os=>hs w os 335 729 90 75 M3 [R 60,R 80] [] []
def H7:HH:=λw os=>hs w os 357 765 96 87 M4 [R 60,R 80] [] []
def H8:HH:=λw os=>hs w os 504 951 97 90 M4 [R 60,R 80] [] []
def H9:HH:=λw os=>hs w os 579 1074 112 108 M5 [R 60,R 80] [R 541] []
def EE:HH:=λw os=>hs w os 634 1164 126 111 M5 [R 60,R 80] [R 541] []
def JE:HH:=λw os=>hs w os 732 1300 132 129 M5 [R 60,R 80] [R 541] []
def F0:HH:=λw os=>hs w os 858 1479 150 183 M5 [R 60,R 80] [R 541] []
def AE:HH:=λw os=>hs w os 970 1655 169 234 M7 [R 60,R 80] [R 541] []
def Dx:HH:=λw os=>hs w os 1038 1761 179 264 M7 [R 60,R 80] [R 541] []
def GK:HH:=λw os=>hs w os 1085 1830 183 276 M8 [R 60,R 80] [R 541] [R 1061]
def Bb:HH:=λw os=>hs w os 1198 1942 192 300 M9 [R 60,R 80] [R 541] [R 1061,R 1101]
def E8:HH:=λw os=>hs w os 1288 2046 208 348 M9 [R 60,R 80] [R 541] [R 1061,R 1101]
def SG(s:HH)(f a b:Nat)(p:Pos)(s':HH)(q:Pos):Prop:=∀w os,segRunT treeTable pw w 11 (some (.ref 6)) 1 f (s w os) (piecesOf (sl a b) qZ jl p BM)=some (.next,s' w os,jl,q)
theorem eI(h:∀w os,PySem.W.Fast.tw10110043849684766642 PySem.W.Fast.tw14364793385576792824 pw w 11 (some (.ref 6)) 1 f (s w os) ⟨(PySem.W.Fast.tw12563942051412417395 (sl a b) qZ).wrap doneF deadEnd id id,jl,p,BM⟩=some (.next,s' w os,jl,q)):SG s f a b p s' q:=by
 unfold SG;rewrite [PySem.W.Fast.te10110043849684766642,PySem.W.Fast.te14364793385576792824,show@piecesOf=λl env c p B=>⟨(execs l env).wrap doneF deadEnd id id,c,p,B⟩ from Y,PySem.W.Fast.te12563942051412417395];exact h
theorem ZU:SG H1 583 0 11 ⟨0,0,0,0⟩ H2 ⟨17,0,21,24⟩:=eI λw os=>by kernel_rfl
theorem Yp:SG H2 601 11 6 ⟨17,0,21,24⟩ H3 ⟨43,0,43,5⟩:=eI λw os=>by kernel_rfl
theorem Vw:SG H3 524 17 45 ⟨43,0,43,5⟩ H4 ⟨88,0,88,11⟩:=eI λw os=>by kernel_rfl
theorem O0:SG H4 561 62 3 ⟨88,0,88,11⟩ H5 ⟨133,0,137,57⟩:=eI λw os=>by kernel_rfl
theorem MX:SG H5 583 65 20 ⟨133,0,137,57⟩ H6 ⟨219,0,233,23⟩:=eI λw os=>by kernel_rfl
theorem Kn:SG H6 140 85 7 ⟨219,0,233,23⟩ H7 ⟨274,0,274,11⟩:=eI λw os=>by kernel_rfl
theorem YP:SG H7 812 92 1 ⟨274,0,274,11⟩ H8 ⟨275,0,336,17⟩:=eI λw os=>by kernel_rfl
theorem Kc:SG H8 596 93 16 ⟨275,0,336,17⟩ H9 ⟨396,0,396,11⟩:=eI λw os=>by kernel_rfl
theorem SN:SG H9 533 109 14 ⟨396,0,396,11⟩ EE ⟨410,0,425,17⟩:=eI λw os=>by kernel_rfl
theorem Nv:SG EE 584 123 6 ⟨410,0,425,17⟩ JE ⟨480,0,484,12⟩:=eI λw os=>by kernel_rfl
theorem Lw:SG JE 576 129 18 ⟨480,0,484,12⟩ F0 ⟨654,0,659,33⟩:=eI λw os=>by kernel_rfl
theorem RX:SG F0 573 147 21 ⟨654,0,659,33⟩ AE ⟨779,0,787,81⟩:=eI λw os=>by kernel_rfl
theorem ML:SG AE 325 168 10 ⟨779,0,787,81⟩ Dx ⟨867,0,872,93⟩:=eI λw os=>by kernel_rfl
theorem T':SG Dx 387 178 5 ⟨867,0,872,93⟩ GK ⟨893,0,904,15⟩:=eI λw os=>by kernel_rfl
theorem N_:SG GK 597 183 10 ⟨893,0,904,15⟩ Bb ⟨969,0,985,18⟩:=eI λw os=>by kernel_rfl
theorem Oa:SG Bb 435 193 16 ⟨969,0,985,18⟩ E8 ⟨1074,0,1112,15⟩:=eI λw os=>by kernel_rfl
end
section
set_option maxRecDepth 100000
theorem Br(l:List Obj):∀(b:Bool)(i:Nat),(alt l b)[i]?=l[2*i+(if b then 0 else 1)]?:=by
 induction l with
 |nil=>intro b i;simp[alt]
 |cons x l a=>
  intro b i;cases b with
  |true=>
   show(x::alt l false)[i]?=_;cases i with
   |zero=>simp
   |succ i=>simp only[List.getElem?_cons_succ,a,Bool.false_eq_true,if_false,if_true,Nat.add_zero];rw[show 2*(i+1)=(2*i+1)+1 by omega,List.getElem?_cons_succ]
  |false=>
   show(alt l true)[i]?=_;rw[a];simp
theorem KX(l:List Obj):(alt l true).length=(l.length+1)/2/\(alt l false).length=l.length/2:=by
 induction l with
 |nil=>simp[alt]
 |cons x l a=>
  refine⟨?_,?_⟩
  .show(x::alt l false).length=_;simp only[abt,a.2];omega
  .show(alt l true).length=_;simp only[abt,a.1]
theorem Qw{a m:Nat}(h:a+1<m*2):(a+1)/2<m/\a/2<m:=by lia
theorem par(j:Nat):∃k,j=2*k\/j=2*k+1:=⟨j/2,by lia⟩
theorem e1(k:Nat):(2*k+1)%2=1/\(2*k+1)/2=k:=by lia
theorem e2(k:Nat):¬(2*k+1+1)%2=1/\(2*k+1+1)/2-1=k:=by lia
theorem XJ(n:Nat):∀(l:List Obj)(i:Nat),l.length<2^n->(lU n l).get i=l[i]?:=by
 induction n with
 |zero=>
  intro l i h;cases l with
  |nil=>rfl
  |cons x l=>exact absurd h (ab0.mpr (abj 1 _))
 |succ n c=>
  intro l i h;cases l with
  |nil=>rfl
  |cons x l=>
   have a:=KX l;have b:=Qw (h:l.length+1<2^n*2);have t:=λj=>c (alt l true) j (a.1▸b.1);have f:=λj=>c (alt l false) j (a.2▸b.2);show(BT.node x (lU n (alt l true)) (lU n (alt l false))).get i=_;rw[BT.get_node];cases i with
   |zero=>rfl
   |succ j=>
    rw[aa_ (Nat.succ_ne_zero j)];obtain⟨k,q⟩:=par j;rcases q with q|q<;>subst q
    .rw[abn (e1 k).1,(e1 k).2,t,Br];rfl
    .rw[aa_ (e2 k).1,(e2 k).2,f,Br];rfl
theorem C5(n:Nat)(l:List Obj)(m:Nat)(life:Life)(h:l.length<2^n)(b:l.length=m):absHeap (lU n l) m life=⟨l.toArray,life⟩:=by
 subst b;unfold absHeap;congr 1;congr 1;apply List.ext_getElem?;intro i;unfold BT.list;rw[abm];by_cases a:i<l.length
 .rw[List.getElem?_range a,Option.map_some,XJ n l i h,ab4 a];rfl
 .rw[List.getElem?_eq_none (by rw[List.length_range];omega),List.getElem?_eq_none (by omega)];rfl
theorem fO(P:Params):(A1 P).length=15:=by kernel_rfl
theorem Bt(P:Params):(FO P).length=1288:=by kernel_rfl
theorem Oh(P:Params):qR (FO P) 1288=FO P:=by kernel_rfl
theorem Ph(w:World)(os:OsState):topGo treeTable pw w 11 (some (.ref 6)) 12 ⟨boot_heap w.params,#[],boot_drawn,boot_toks,os⟩ (topStub pw)=some (⟨⟨(A1 w.params).toArray,lf⟩,#[],boot_drawn,187,os⟩,⟨denote treeTable jl,jl,⟨0,0,0,0⟩,BM⟩):=by
 rewrite [PySem.W.Fast.te15667345088766844465,PySem.W.Fast.te14364793385576792824,PySem.W.Fast.te11892475500146522536];kernel_rfl
theorem NW(w:World)(os:OsState):segRun treeTable pw w 11 (some (.ref 6)) 1 1 ⟨⟨(A1 w.params).toArray,lf⟩,#[],boot_drawn,187,os⟩ (blockOf (behindTheImports pw) qZ jl ⟨0,0,0,0⟩ BM)=some (.next,⟨⟨(A1 w.params).toArray,lf⟩,#[],boot_drawn,187,os⟩,jl,⟨0,0,0,0⟩):=by
 rewrite [PySem.W.Fast.te14374325043358763698,PySem.W.Fast.te14364793385576792824];kernel_rfl
theorem YI:behindTheImports pw=(sl 0 11)++((sl 11 6)++((sl 17 45)++((sl 62 3)++((sl 65 20)++((sl 85 7)++((sl 92 1)++((sl 93 16)++((sl 109 14)++((sl 123 6)++((sl 129 18)++((sl 147 21)++((sl 168 10)++((sl 178 5)++((sl 183 10)++((sl 193 16)++[]))))))))))))))):=by kernel_rfl
theorem SI(w:World)(os:OsState)(s:Shared):topRun treeTable pw w 11 (some (.ref 6)) 2 s (restOf [] qZ jl ⟨1074,0,1112,15⟩ BM)=some s:=by
 rewrite [PySem.W.Fast.te14082659384304107361,PySem.W.Fast.te14364793385576792824];kernel_rfl
theorem runM(w:World)(os:OsState):topRun treeTable pw w 11 (some (.ref 6)) (12+(1+(583+(601+(524+(561+(583+(140+(812+(596+(533+(584+(576+(573+(325+(387+(597+(435+2)))))))))))))))))) ⟨boot_heap w.params,#[],boot_drawn,boot_toks,os⟩ (topStub pw)=some ⟨⟨(FO w.params).toArray,lf⟩,#[],boot_drawn,2046,os⟩:=by
 refine go_top (Ph w os) ?_;refine piece_block (NW w os) ?_;rw[YI];have e1:(⟨⟨(A1 w.params).toArray,lf⟩,#[],boot_drawn,187,os⟩:Shared)=SharedT.abs (H1 w os):=by
  unfold SharedT.abs H1;rw[C5 12 _ _ _ (by rw[fO];decide) (fO _)]
 have e2:SharedT.abs (E8 w os)=(⟨⟨(FO w.params).toArray,lf⟩,#[],boot_drawn,2046,os⟩:Shared):=by
  show(⟨absHeap (lU 12 (qR (FO w.params) 1288)) 1288 lf,_,_,_,_⟩:Shared)=_;rw[Oh,C5 12 _ _ _ (by rw[Bt];decide) (Bt _)];rfl
 rw[e1];refine piece_app (segRun_of (ZU w os)) ?_;refine piece_app (segRun_of (Yp w os)) ?_;refine piece_app (segRun_of (Vw w os)) ?_;refine piece_app (segRun_of (O0 w os)) ?_;refine piece_app (segRun_of (MX w os)) ?_;refine piece_app (segRun_of (Kn w os)) ?_;refine piece_app (segRun_of (YP w os)) ?_;refine piece_app (segRun_of (Kc w os)) ?_;refine piece_app (segRun_of (SN w os)) ?_;refine piece_app (segRun_of (Nv w os)) ?_;refine piece_app (segRun_of (Lw w os)) ?_;refine piece_app (segRun_of (RX w os)) ?_;refine piece_app (segRun_of (ML w os)) ?_;refine piece_app (segRun_of (T' w os)) ?_;refine piece_app (segRun_of (N_ w os)) ?_;refine piece_app (segRun_of (Oa w os)) ?_;rw[e2];exact SI w os _
theorem U1(w:World):((boot_heap w.params).isNs mainGlobals&&(#[]:Array GenState).size==0,(boot_heap w.params).objs.size,(boot_heap w.params).nsMap mainGlobals "__annotations__")=(true,11,some (.ref 6)):=by kernel_rfl
def qM:Program:={pw with main:={pw.main with body:=pw.main.body.drop 208}}
def lr:List Str:=pw.boundNames.filter λn=>n !=("law":Str)
theorem Ts:∀w:World,(fencedOpening treeTable pw w 20000).map (λs=>(s.heap,s.gens,s.drawn,s.toks))=some (boot_heap w.params,#[],boot_drawn,boot_toks):=
 boot_open (by kernel_rfl) (by decide) (λs=>by kernel_rfl)
def HF(P:Params):Heap:=⟨(FO P).toArray,lf⟩
end
section
set_option maxRecDepth 100000
theorem l0:importedModules pw.main.body=[]:=by kernel_rfl
theorem l1(w:World):staticsOk [] (boot_heap w.params) (HF w.params)=true:=by kernel_rfl
theorem l4(w:World):laidKept (boot_heap w.params) (HF w.params)=true:=by kernel_rfl
theorem l5(w:World)(os:OsState):openSeen qM lr [] (λ_=>true) true ⟨HF w.params,#[],boot_drawn,2046,os⟩=openGood qM lr:=by
 rewrite [PySem.W.Fast.te4187177175401517315];kernel_rfl
theorem l2(w:World):namesBound pw (HF w.params)=true:=by kernel_rfl
end
section
set_option maxRecDepth 100000
abbrev dE:OpenLaw:=PySem.Challenge.rw_xm0555_01
theorem Px:LeftO pw qM lr (λ_=>true) (λs=>s.heap) (λw=>HF w.params) 20000:=
 LeftO.of_pieces (H₀:=boot_heap) (H₁:=HF) Ts U1 (λw os=>runM w os) (by decide) (λw=>by
  funext os;rw[l0,l1,l2,l4,l5];rfl)
def D7:Option (DefRec×List (Str×Expr)):=defOf qM dE.name
theorem Tq:D7.isSome=true:=by kernel_rfl
def fP:DefRec:=(D7.get Tq).1
theorem Xl:defOf qM dE.row.name=some (fP,[]):=by kernel_rfl
theorem Lu:dE.row.prog.theDef dE.row.name=some (fP.params,fP.body,fP.scope):=by kernel_rfl
theorem Tc:kwWritten? fP.params.kwonlyargs fP.params.kw_defaults=some []:=by kernel_rfl
theorem L7:chainsOk qM=true:=by kernel_rfl
theorem Ov:opensWell pw=true:=by kernel_rfl
theorem Kz:(frees dE.row.toRowW&&dE.row.within.isEmpty)=true:=by kernel_rfl
theorem S6:pw.tablesWhole=true:=by
 unfold Program.tablesWhole TablesWhole.wProgram TablesWhole.wParse;rewrite [PySem.W.Fast.te6116379765354995101];kernel_rfl
theorem Lg:dE.row.prog.bare:=⟨Y,Y,Y,Y,Y,S6⟩
theorem KU:dE.row.promised:=by w_witness2
theorem Me(a:dE.row.wellSaid=true)(call:WalkX qM lr (λ_ _=>True) (λs=>s.heap) (λw=>HF w.params) dE.row.toRowW fP [] (λf vs=>PySem.call f vs)):dE.row.Holds:=
 holds_openX (r:=dE.row) Px (λ_ _=>trivial) (λ_ _ _ h _=>h) Xl Lu Tc (λ_ _=>recFacts_nil Y) Y a (by rw[show dE.row.prog=pw from Y,L7,Ov,Kz];rfl) Lg KU call
end
end Mine.Internal.H
namespace Mine.Internal
section
open PySem.Sem (wp)
theorem xO{M:Model}{a:Ctx}{p:Pos}{t:Sem Fin}{fs:List Frame}{s s':Shared}{e:End}(h:Runs M a p t fs s e s'):s.heap.objs.size<=s'.heap.objs.size:=by
 induction h<;>first|exact aaX _|assumption|exact aaS ‹_› ‹_›|exact aaS (aa7 (Heap.size_update ..).symm) ‹_›|exact aaS (aaS (ab7 _) (aa7 (ab1 ..).symm)) ‹_›|(trace_state;simp only[Shared.setGen,ab1,Heap.size_update] at*;first|assumption|lia)
theorem NU{M:Model}{a:Ctx}{p:Pos}{s s':Shared}{r:Result}(h:Returns M a p s r s'):s.heap.objs.size<=s'.heap.objs.size:=xO h
theorem SQ{M:Model}{a:Ctx}{p:Pos}{g:Nat}{r:Resume}{s s':Shared}{res:GenResult}(h:Wakes M a p g r s res s'):s.heap.objs.size<=s'.heap.objs.size:=by
 unfold Wakes at h;generalize s.gens[g]?=o at h;cases o with
 |none=>exact h.elim
 |some o=>cases o with
  |fresh c=>cases r with
   |send v=>cases v with
    |none=>exact h.elim λe h=>h.elim λs₁ h=>h.2.2.2▸(xO h.1:(s.setGen g .running).heap.objs.size<=s₁.heap.objs.size)
    |_=>exact h.2▸aaX _
   |throw x=>exact h.2▸aaX _
  |suspended=>exact h.elim λe h=>h.elim λs₁ h=>h.2.2.2▸(xO h.1:(s.setGen g .running).heap.objs.size<=s₁.heap.objs.size)
  |running=>exact h.2▸aaX _
  |finished=>exact h.2▸aaX _
theorem SR{j:Type}(M:Model)(l:Ctx)(n:Nat)(t:Sem j):∀(Q:j->Pos->Shared->Prop)(E:Value->Pos->Shared->Prop)(p:Pos)(s:Shared),n<=s.heap.objs.size->wp M l t Q E p s->
  wp M l t (λa i s'=>n<=s'.heap.objs.size/\Q a i s') (λe i s'=>n<=s'.heap.objs.size/\E e i s') p s:=by
 induction t with
 |pure a=>intro Q E p s b h;exact⟨b,h⟩
 |raise e=>intro Q E p s b h;exact⟨b,h⟩
 |unsupported _=>intro Q E p s _ h;exact h
 |finish _=>intro Q E p s _ h;exact h
 |rule _ k d=>intro Q E p s b h;exact d () Q E p s b h
 |«at» i k d=>intro Q E p s b h;exact d () Q E i s b h
 |load a _ k d=>intro Q E p s b h;obtain⟨o,x,h⟩:=h;exact⟨o,x,d o Q E p s b h⟩
 |update a _ f k d=>intro Q E p s b h;exact⟨h.1,d () Q E p _ (by show n<=(Heap.update _ _ _).objs.size;rw[Heap.size_update];exact b) h.2⟩
 |loadIfAlive a k d=>intro Q E p s b h;exact d _ Q E p s b h
 |point _ k d=>intro Q E p s b h;exact d () Q E p s b h
 |register _ _=>intro Q E p s _ h;exact h
 |alloc o k d=>intro Q E p s b h;exact d _ Q E p _ (by show n<=(Heap.push _ _).objs.size;rw[ab1];exact Nat.le_succ_of_le b) h
 |fresh k d=>intro Q E p s b h;exact d _ Q E p _ b h
 |ask k d=>intro Q E p s b h;exact d _ Q E p s b h
 |choose src m k d=>intro Q E p s b h;exact⟨h.1,d _ Q E p _ b h.2⟩
 |os q _ k d=>intro Q E p s b h;exact d _ Q E p _ b h
 |call c y _ _ k d=>intro Q E p s b h;obtain⟨r,s',w,h⟩:=h;exact⟨r,s',w,d r Q E p s' (aaS b (NU w)) h⟩
 |handled own k d=>intro Q E p s b h;exact d _ Q E p s b h
 |genState g k d=>intro Q E p s b h;obtain⟨st,hs,h⟩:=h;exact⟨st,hs,d _ Q E p s b h⟩
 |newGen c k d=>intro Q E p s b h;exact d _ Q E p _ b h
 |resume g r _ k d=>intro Q E p s b h;obtain⟨res,s',u,h⟩:=h;exact⟨res,s',u,d res Q E p s' (aaS b (SQ u)) h⟩
 |yield _ _ _ _=>intro Q E p s _ h;exact h
 |stack k d=>intro Q E p s b h;exact d _ Q E p s b h
 |fork _ _=>intro Q E p s _ h;exact h
 |thread k d=>intro Q E p s b h;exact d _ Q E p s b h
 |await _ _ _ _ _=>intro Q E p s _ h;exact h
theorem nu{c:Type}{M:Model}{A:Around}{s:Shared}{t:Sem c}{Q:c->Shared->Prop}{E:Value->Shared->Prop}(h:wpAny M A t Q E s):
  wpAny M A t (λa s'=>s.heap.objs.size<=s'.heap.objs.size/\Q a s') (λe s'=>s.heap.objs.size<=s'.heap.objs.size/\E e s') s:=
 λd p b=>SR M d _ t _ _ p s (aaX _) (h d p b)
end
abbrev V:=Nat
noncomputable def names:List Str:=(["ANY","ArgHost","DEFERRED_ROWS","Decl","EMPTY","ERR","FALSE_T","FIRST_ROWS","FRESH_F","FRESH_T","HostFault","LIST_ROWS","LITERAL_ROWS","MARKED_ROWS","MAX_OPEN","MAX_ROAD","MAX_UNION","MOST_LOOKS","MOST_PLAIN","MOST_ROUNDS","MOST_SHAPES","NEVER","NULLT","NUMBER","Notes","PLAIN_ROWS","P_GETONLY","P_OPT","P_PRIVATE","P_PROTECTED","P_READONLY","RULE_CALLS","RULE_DEFERRED","RULE_INDEX","RULE_LIST","RULE_MEET","RULE_OBJECT","RULE_REFS","RULE_SIG","R_COMPARE","R_IDENT","R_SUBTYPE","RefsRule","Rel","RelshapeObjectRule","SHAPED_ROWS","STRING","TRUE_T","TooDeep","TypeTable","UNDEF","UNKNOWN","U_VAR","VALUE_ROWS","Y_ENUM","Y_INTER","Y_NUM","Y_OBJ","Y_PARAM","Y_REF","Y_SIG","Y_STR","Y_TPL","Y_UNION","__init__","_law_bits","_law_cell","_law_draw","_law_face","_law_join","_law_lay","_law_like","_law_many","_law_near","_law_object","_law_pool","_law_read","_law_rel","_law_roads","_law_rows","_law_same","_law_shut","_law_table","_law_thing","_law_twin","_law_type","_law_world","a","abstract","add_undef","alike","all_related","answer","append","arg","arg_shape","args","ask","ask_kinds","asked","assumed","at","b","back","bases","bits","body","body_put","bound","bounds","busy","by_rule","c","calls","clean","close_trail","count","ctors","cut_back","d","decl","decls","deep","default","defaults","did","did_of","each_in","extends_class","file","first","force","form","found","fresh","func_type","get","given","got","holds","host","how","i","index","install_rel_objects","install_rel_refs","instances","into","is_fresh","is_literal","is_readonly","isinstance","join_bools","k","kept","key","kind","kinds","known","lap","last","law","lax","lay_again","left","len","looks","mapping","mark","marks","members","missing","mode","more","most_deep","most_rounds","n","name","names","new_decl","new_param","nid","nindex","note","notes","number","nums","obj_type","objects_related","one","onto","opened","origins","other","out","own","owner","p","pair","pairs","params","part","parts","parts_of","pid","place","places","plain_body","plain_shape","pop","prop","props","put","putting","q","range","read_type","regular_one","regular_twin","rel","relbase_kept","renamed","rest","rises","road","row","rows","rule","rule_for","rules","s","same_kind","same_objects","same_prop","same_shapes","script","second","self","settled","shape","shape_related","shaping","side","simple_related","sindex","some","some_part","sorted","sorted_props","spot","ss","static","stays_beside","step","str","structured","t","tab","telling","tells","thing","things","third","todo","told","too_deep","top","top_of","trail","ts","tuple","turn","twin","two","union","units","variances","w","want","ways","weak","whole_of_row","wide","x","y"]:List String).map Str.ofString
def nm(n:V):Str:=(names[n]?).getD ⟨(List.replicate (n+60) 120).toArray⟩
def y3(l:List Str):Bool:=l.rec true λx l r=>!l.contains x&&r
theorem names_nodup:y3 names=true:=by kernel_rfl
theorem ZP:names.all (λs=>decide (s.cps.size<60))=true:=by kernel_rfl
theorem YS{l:List Str}:y3 l=true->∀{i j:Nat}{s:Str},l[i]?=some s->l[j]?=some s->i=j:=by
 induction l with
 |nil=>exactλ_ _ _ _ h=>absurd (abk h) abo
 |cons x l b=>
  intro e i j s h a;have e:=Bool.and_eq_true_iff.mp (show(!l.contains x&&y3 l)=true from e);have e1:x∉l:=by simpa using e.1
  have no:∀{i:Nat},l[i]?=some x->False:=λh=>e1 (abk h);induction i using Nat.casesOn with
  |zero=>
   induction j using Nat.casesOn with
   |zero=>rfl
   |succ j=>exact(no (i:=j) (a.trans (aaU some (aa0 h).symm))).elim
  |succ i=>
   induction j using Nat.casesOn with
   |zero=>exact(no (i:=i) (h.trans (aaU some (aa0 a).symm))).elim
   |succ j=>exact aaU Nat.succ (b e.2 h a)
theorem pH{a b:V}(h:nm a=nm b):a=b:=by
 have short:∀{n:Nat}{s:Str},names[n]?=some s->s.cps.size<60:=λe=>abl (abd.mp ZP _ (abk e));have pad:∀n:Nat,(Str.mk (List.replicate (n+60) 120).toArray).cps.size=n+60:=λn=>List.size_toArray.trans List.length_replicate;have out:∀{n:V}{s:Str},names[n]?=some s->nm n=s:=λe=>by unfold nm;rw[e];rfl
 have f:∀{n:V},names[n]?=none->nm n=⟨(List.replicate (n+60) 120).toArray⟩:=λe=>by unfold nm;rw[e];rfl
 have no:∀{a b:V}{s:Str},nm a=nm b->names[a]?=some s->names[b]?=none->False:=λ{a b s}h d c=>ab0.mpr (abj 60 b) (pad b▸((out d).symm.trans (h.trans (f c))▸short d));cases d:names[a]? with
 |some s=>
  cases c:names[b]? with
  |some t=>exact YS names_nodup d (c.trans (aaU some ((out c).symm.trans (h.symm.trans (out d)))))
  |none=>exact(no h d c).elim
 |none=>
  cases c:names[b]? with
  |some t=>exact(no h.symm c d).elim
  |none=>exact Nat.add_right_cancel ((pad a).symm.trans ((aaU (λs:Str=>s.cps.size) ((f d).symm.trans (h.trans (f c)))).trans (pad b)))
end Mine.Internal
section
set_option tactic.hygienic false
open Mine.Internal
local macro_rules (kind:=Lean.Parser.Tactic.obtain)
 |s=>return mO s
local macro_rules (kind:=Lean.Parser.Tactic.rcases)
 |s=>(mU s).elim Lean.Macro.throwUnsupported pure
local macro_rules (kind:=Lean.Parser.Tactic.cases)
 |s=>if s[1][0][1].isIdent then return mB s else Lean.Macro.throwUnsupported
local macro_rules (kind:=Lean.Parser.Term.nomatch)
 |s=>if s[1].getNumArgs=1&&s[1][0].isIdent then return mY [mW s[1][0]] else Lean.Macro.throwUnsupported
local macro_rules (kind:=Lean.Parser.Term.nofun)
 |s=>if s.isMissing then return s else return mY ([["zx"],["zx","zy"],["zx","zy","zz"]].map λl=>mT "intro" [mL (l.map mI)]::mW (mI (l.getLastD "")))
local macro_rules (kind:=Lean.Parser.Tactic.omega)
 |s=>if s.isMissing then return s else return mT "lia" [mN "Tactic.optConfig" [mL []]]
local macro_rules (kind:=Lean.Parser.Term.tuple)
 |s=>if s[1].getNumArgs=0 then return mY [[mT "decide" [mN "Tactic.optConfig" [mL []]]]] else Lean.Macro.throwUnsupported
local macro_rules (kind:=Lean.Parser.Term.subst)
 |s=>if s[1].getAtomVal=="!"||s[0][1].isIdent||(s.find? (·.getKind== `Lean.Parser.Term.syntheticHole)).isSome then Lean.Macro.throwUnsupported else
  let n a h e:=mN "Term.subst" [h,.atom .none a,mL e]
  let e:=match s[2].getSepArgs.toList with
   |[e]=>e
   |e::l=>n "" e (mJ l)
   |_=>s
  let r h:=[mT "apply" [mN "Term.app" [mI "mSub",mL [h]]],mT "exact" [e]]
  return mN "Term.byTactic" [mI "",mS [mF [r s[0],r (mN "Term.app" [mI "Eq.symm",mL [s[0]]]),[mT "exact" [n "!" s[0] [e]]]]]]
namespace Mine.Internal
set_option genInjectivity true in
inductive AV where
 |none|bool(b:Bool)|int(i:Int)|str(s:Str)|tup(l:List AV)|loc(n:Nat)|raw(v:Value)
instance:Inhabited AV:=⟨.none⟩
theorem AV.ind{P:AV->Prop}{R:List AV->Prop}(a:P .none)(b:∀b,P (.bool b))(c:∀i,P (.int i))(d:∀s,P (.str s))(e:∀l,R l->P (.tup l))(f:∀n,P (.loc n))(g:∀v,P (.raw v))(n:R [])(k:∀x l,P x->R l->R (x::l)):(∀x,P x)/\∀l,R l:=
 ⟨AV.rec a b c d e f g n k,AV.rec_1 a b c d e f g n k⟩
noncomputable def AV.isTup:AV->Bool
 |.tup _=>true
 |_=>false
def AV.beq:AV->AV->Bool:=@AV.rec (λJ=>AV->Bool) (λJ=>List AV->Bool) (λy=>match y with|.none=>true|_=>false) (λb y=>match y with|.bool c=>b==c|_=>false) (λb y=>match y with|.int c=>decide (b=c)|_=>false) (λb y=>match y with|.str c=>decide (b=c)|_=>false) (λJ p y=>match y with|.tup c=>p c|_=>false) (λb y=>match y with|.loc c=>Nat.beq b c|_=>false) (λb y=>match y with|.raw c=>decide (b=c)|_=>false) (λl=>l.isEmpty) (λJ J p q l=>match l with|y::r=>p y&&q r|[]=>false)
def AV.BY:List AV->List AV->Bool:=@AV.rec_1 (λJ=>AV->Bool) (λJ=>List AV->Bool) (λy=>match y with|.none=>true|_=>false) (λb y=>match y with|.bool c=>b==c|_=>false) (λb y=>match y with|.int c=>decide (b=c)|_=>false) (λb y=>match y with|.str c=>decide (b=c)|_=>false) (λJ p y=>match y with|.tup c=>p c|_=>false) (λb y=>match y with|.loc c=>Nat.beq b c|_=>false) (λb y=>match y with|.raw c=>decide (b=c)|_=>false) (λl=>l.isEmpty) (λJ J p q l=>match l with|y::r=>p y&&q r|[]=>false)
theorem AV.SK:(∀x y,AV.beq x y=true->x=y)/\∀x y,AV.BY x y=true->x=y:=AV.ind
 (λy h=>by cases y<;>first|rfl|exact absurd h aaY) (λb y h=>by cases y<;>first|exact aaU AV.bool (abc.mp h)|exact absurd h aaY) (λb y h=>by cases y<;>first|exact aaU AV.int (abl h)|exact absurd h aaY) λb y h=>by cases y<;>first|exact aaU AV.str (abl h)|exact absurd h aaY
 (λl i y h=>by cases y<;>first|exact aaU AV.tup (i _ h)|exact absurd h aaY) (λb y h=>by cases y<;>first|exact aaU AV.loc (Nat.eq_of_beq_eq_true h)|exact absurd h aaY) λb y h=>by cases y<;>first|exact aaU AV.raw (abl h)|exact absurd h aaY
 (λy h=>(abD.mp h).symm) λx l i j y h=>by
  cases y with
  |nil=>cases h
  |cons y r=>have:=Bool.and_eq_true_iff.mp h;rw[i y this.1,j r this.2]
theorem AV.Kl:(∀x,AV.beq x x=true)/\∀x,AV.BY x x=true:=AV.ind Y (beq_self_eq_true) (λJ=>aba Y) (λJ=>aba Y) (λJ h=>h) (Nat.beq_refl) (λJ=>aba Y) Y λJ J i j=>Bool.and_eq_true_iff.mpr ⟨i,j⟩
instance aav:DecidableEq AV:=λa b=>decidable_of_iff (AV.beq a b=true) ⟨AV.SK.1 a b,λe=>e▸AV.Kl.1 a⟩
def AV.depth:AV->Nat:=@AV.rec (λJ=>Nat) (λJ=>Nat) 0 (λJ=>0) (λJ=>0) (λJ=>0) (λJ n=>n+1) (λJ=>0) (λJ=>0) 0 (λJ J m n=>max m n)
def AV.du:List AV->Nat:=@AV.rec_1 (λJ=>Nat) (λJ=>Nat) 0 (λJ=>0) (λJ=>0) (λJ=>0) (λJ n=>n+1) (λJ=>0) (λJ=>0) 0 (λJ J m n=>max m n)
def AV.key:AV->Bool:=@AV.rec (λJ=>Bool) (λJ=>Bool) false (λJ=>false) (λJ=>true) (λx=>PyData.strOk x) (λJ n=>n) (λJ=>false) (λJ=>false) true (λJ J m n=>m&&n)
def AV.keys:List AV->Bool:=@AV.rec_1 (λJ=>Bool) (λJ=>Bool) false (λJ=>false) (λJ=>true) (λx=>PyData.strOk x) (λJ n=>n) (λJ=>false) (λJ=>false) true (λJ J m n=>m&&n)
noncomputable abbrev fg(vs:Array Value)(n:Nat):Obj:={cls:=.type "tuple",data:=.seq vs n}
def RV(h:Heap)(β:List Addr):AV->Value->Prop:=@AV.rec (λJ=>Value->Prop) (λJ=>List Value->Prop) (λv=>v=.none) (λb v=>v=.bool b) (λi v=>∃t,v=.int i t) (λx v=>∃t,v=.str x t) (λJ p v=>∃a vs n,v=.ref a/\h.get? a=some (fg vs n)/\p vs.toList) (λn v=>∃a,β[n]?=some a/\v=.ref a) (λx v=>v=x) (λvs=>vs=[]) (λJ J p q vs=>∃v r,vs=v::r/\p v/\q r)
def ak(h:Heap)(β:List Addr):List AV->List Value->Prop:=@AV.rec_1 (λJ=>Value->Prop) (λJ=>List Value->Prop) (λv=>v=.none) (λb v=>v=.bool b) (λi v=>∃t,v=.int i t) (λx v=>∃t,v=.str x t) (λJ p v=>∃a vs n,v=.ref a/\h.get? a=some (fg vs n)/\p vs.toList) (λn v=>∃a,β[n]?=some a/\v=.ref a) (λx v=>v=x) (λvs=>vs=[]) (λJ J p q vs=>∃v r,vs=v::r/\p v/\q r)
def fc(h a:Heap):Prop:=∀b vs n,h.get? b=some (fg vs n)->a.get? b=some (fg vs n)
section
variable{h h':Heap}{β ah γ:List Addr}
theorem D6(k:fc h h')(e:∀(n:Nat)(a),β[n]?=some a->ah[n]?=some a):(∀x v,RV h β x v->RV h' ah x v)/\∀l vs,ak h β l vs->ak h' ah l vs:=
 AV.ind (λJ r=>r) (λJ J r=>r) (λJ J r=>r) (λJ J r=>r) (λl i v r=>r.imp λa r=>r.imp λvs r=>r.imp λn r=>r.imp id λr=>r.imp (k a vs n) (i _)) (λn v r=>r.imp λa r=>r.imp (e n a) id) (λJ J r=>r) (λJ r=>r) λx l i j J r=>r.imp λv r=>r.imp λu r=>r.imp id λr=>r.imp (i v) (j u)
theorem RV.mono(k:fc h h')(e:∀(n:Nat)(a),β[n]?=some a->ah[n]?=some a):∀x v,RV h β x v->RV h' ah x v:=(D6 k e).1
theorem ak.mono(k:fc h h')(e:∀(n:Nat)(a),β[n]?=some a->ah[n]?=some a):∀l vs,ak h β l vs->ak h' ah l vs:=(D6 k e).2
theorem af(h:(a&&b)=true):a=true/\b=true:=Bool.and_eq_true_iff.mp h
def AV.data:AV->Bool:=@AV.rec (λJ=>Bool) (λJ=>Bool) true (λJ=>true) (λJ=>true) (λx=>PyData.strOk x) (λJ n=>n) (λJ=>false) (λJ=>false) true (λJ J m n=>m&&n)
def AV.e_:List AV->Bool:=@AV.rec_1 (λJ=>Bool) (λJ=>Bool) true (λJ=>true) (λJ=>true) (λx=>PyData.strOk x) (λJ n=>n) (λJ=>false) (λJ=>false) true (λJ J m n=>m&&n)
noncomputable def jI:AV->Nat
 |.none=>0
 |.bool _=>1
 |.int _=>2
 |.str _=>3
 |.tup _=>4
 |_=>5
noncomputable def ot:Value->Nat
 |.none=>0
 |.bool _=>1
 |.int _ _=>2
 |.str _ _=>3
 |_=>4
theorem Cd(d:x.data=true)(r:RV h β x v):jI x=ot v:=by
 cases x with
 |none=>exact aaU ot (r).symm
 |bool=>exact aaU ot (show v=_ from r).symm
 |int=>obtain⟨_,r⟩:=r;exact aaU ot r.symm
 |str=>obtain⟨_,r⟩:=r;exact aaU ot r.symm
 |tup=>obtain⟨_,_,_,r,_⟩:=r;exact aaU ot r.symm
 |_=>exact absurd d aaY
theorem qw{m n:Nat}{P:Prop}(e:m=n)(h:Nat.beq m n=false):P:=absurd e (Nat.ne_of_beq_eq_false h)
theorem Y0{y}(t:0=jI y):y=.none:=by cases y<;>first|rfl|exact qw t Y
theorem VJ{y}(t:1=jI y):∃b,y=.bool b:=by cases y<;>first|exact⟨_,Y⟩|exact qw t Y
theorem Z_{y}(t:2=jI y):∃b,y=.int b:=by cases y<;>first|exact⟨_,Y⟩|exact qw t Y
theorem Oy{y:AV}(t:3=jI y):∃b,y=.str b:=by cases y<;>first|exact⟨_,Y⟩|exact qw t Y
theorem Wu{y}(t:4=jI y):∃b,y=.tup b:=by cases y<;>first|exact⟨_,Y⟩|exact qw t Y
theorem DO:(∀x y v,x.data=true->y.data=true->RV h β x v->RV h γ y v->x=y)/\∀x y vs,AV.e_ x=true->AV.e_ y=true->ak h β x vs->ak h γ y vs->x=y:=by
 have tg:∀{x y v},x.data=true->y.data=true->RV h β x v->RV h γ y v->jI x=jI y:=λd f r s=>(Cd d r).trans (Cd f s).symm;refine AV.ind (λy v d f e r=>(Y0 (tg d f e r)).symm) (λb y v d f e r=>?_) (λb y v d f e r=>?_) (λb y v d f e r=>?_) (λl i y v d f e r=>?_) (λJ J J d=>absurd d aaY) (λJ J J d=>absurd d aaY) (λy vs J J e r=>?_) λx l i j y vs d f e r=>?_
 .obtain⟨c,rfl⟩:=VJ (tg d f e r);exact aaU AV.bool (Value.bool.inj ((e).symm.trans r))
 .obtain⟨c,rfl⟩:=Z_ (tg d f e r);obtain⟨_,e⟩:=e;obtain⟨_,r⟩:=r;exact aaU AV.int (Value.int.inj (e.symm.trans r)).1
 .obtain⟨c,rfl⟩:=Oy (tg d f e r);obtain⟨_,e⟩:=e;obtain⟨_,r⟩:=r;exact aaU AV.str (Value.str.inj (e.symm.trans r)).1
 .obtain⟨c,rfl⟩:=Wu (tg d f e r);obtain⟨a,vs,n,e,o,l1⟩:=e;obtain⟨b,us,m,r,o',l2⟩:=r;rw[e] at r;rw[←Value.ref.inj r,o] at o';exact aaU AV.tup (i _ _ d f l1 (((Data.seq.inj (aaU Obj.data (aa0 o'))).1)▸l2))
 .cases y with
  |nil=>rfl
  |cons=>obtain⟨_,_,p,_⟩:=r;exact absurd (p.symm.trans e) (List.cons_ne_nil _ _)
 .obtain⟨_,_,e,e1,e2⟩:=e;cases y with
  |nil=>exact absurd (e.symm.trans r) (List.cons_ne_nil _ _)
  |cons=>
   obtain⟨_,_,p,r1,q⟩:=r;obtain⟨u,t⟩:=List.cons.inj (e.symm.trans p);exact congr (aaU List.cons (i _ _ (af d).1 (af f).1 e1 (u▸r1))) (j _ _ (af d).2 (af f).2 e2 (t▸q))
theorem RV.det(x y v):x.data=true->y.data=true->RV h β x v->RV h γ y v->x=y:=DO.1 x y v
theorem A_:(∀x:AV,x.key=true->x.data=true)/\∀l,AV.keys l=true->AV.e_ l=true:=AV.ind (λJ=>Y) (λJ J=>Y) (λJ J=>Y) (λJ k=>k) (λJ i=>i) (λJ k=>nomatch k) (λJ k=>nomatch k) (λJ=>Y) λJ J i j k=>Bool.and_eq_true_iff.mpr ⟨i (af k).1,j (af k).2⟩
theorem jm(x:AV):x.key=true->x.data=true:=A_.1 x
theorem RV.inj(x y v)(kx:x.key=true)(a:y.key=true):RV h β x v->RV h γ y v->x=y:=DO.1 x y v (jm x kx) (jm y a)
theorem Wt:(∀x v,x.key=true->RV h β x v->RV h γ x v)/\∀l vs,AV.keys l=true->ak h β l vs->ak h γ l vs:=
 AV.ind (λJ J r=>r) (λJ J J r=>r) (λJ J J r=>r) (λJ J J r=>r) (λl i v d r=>r.imp λa r=>r.imp λvs r=>r.imp λn r=>r.imp id λr=>r.imp id (i _ d)) (nofun) (λJ J J r=>r) (λJ J r=>r) λx l i j J d r=>r.imp λv r=>r.imp λu r=>r.imp id λr=>r.imp (i v (af d).1) (j u (af d).2)
theorem RV.IG(x v):x.key=true->RV h β x v->RV h γ x v:=Wt.1 x v
theorem ak.length(l):∀vs,ak h β l vs->vs.length=l.length:=by
 induction l with
 |nil=>exactλJ e=>aaU List.length (e)
 |cons x l a=>
  intro _ e;obtain⟨v,r,e,_,b⟩:=e;exact e▸aaU _ (a r b)
theorem ak.get(l):∀(vs)(i:Nat)(x),ak h β l vs->l[i]?=some x->∃v,vs[i]?=some v/\RV h β x v:=by
 induction l with
 |nil=>exactλJ J J J e=>absurd e.symm (aa8 _)
 |cons y l a=>
  intro vs i x e g;obtain⟨v,r,e,b,c⟩:=e;subst e;cases i with
  |zero=>exact⟨v,Y,aa0 g▸b⟩
  |succ i=>exact a r i x c g
theorem ak.append(l m):∀vs us,ak h β l vs->ak h β m us->ak h β (l++m) (vs++us):=by
 induction l with
 |nil=>exactλvs us e r=>(e)▸r
 |cons x l a=>
  intro vs us e g;obtain⟨v,r,e,b,c⟩:=e;exact⟨v,r++us,e▸Y,b,a r us c g⟩
end
def uQ(w:World):AV->Int:=@AV.rec (λJ=>Int) (λJ=>List Int) 0 (λJ=>0) (λi=>hashInt i) (λx=>hashStr w x) (λJ n=>reduceHash (Builtin.Tuple.tupleHashOf n)) (λJ=>0) (λJ=>0) [] (λJ J m n=>m::n)
def qa(w:World):List AV->List Int:=@AV.rec_1 (λJ=>Int) (λJ=>List Int) 0 (λJ=>0) (λi=>hashInt i) (λx=>hashStr w x) (λJ n=>reduceHash (Builtin.Tuple.tupleHashOf n)) (λJ=>0) (λJ=>0) [] (λJ J m n=>m::n)
def vG:AV->Nat:=@AV.rec (λJ=>Nat) (λJ=>Nat) 1 (λJ=>1) (λJ=>1) (λJ=>1) (λJ n=>n+1) (λJ=>1) (λJ=>1) 0 (λJ J m n=>m+n)
def X7:List AV->Nat:=@AV.rec_1 (λJ=>Nat) (λJ=>Nat) 1 (λJ=>1) (λJ=>1) (λJ=>1) (λJ n=>n+1) (λJ=>1) (λJ=>1) 0 (λJ J m n=>m+n)
section
variable{prog:Program}{w:World}
theorem BL(m:x∈l):x.depth<=AV.du l:=by
 induction m with
 |head=>exact Nat.le_max_left ..
 |tail _ _ a=>exact aaS a (Nat.le_max_right ..)
theorem JT(m:x∈l):AV.keys l=true->x.key=true:=by
 induction m with
 |head=>exactλk=>(af k).1
 |tail _ _ a=>exactλk=>a (af k).2
theorem tQ(m:x∈l):AV.e_ l=true->x.data=true:=by
 induction m with
 |head=>exactλk=>(af k).1
 |tail _ _ a=>exactλk=>a (af k).2
def yI(prog:Program)(w:World)(x:AV):Prop:=∀(A)(E s v Q),A.units+x.depth<cLine->x.key=true->RV s.heap [] x v->
  Q (uQ w x) {s with toks:=s.toks+vG x}->wpAny (model prog w) A (pyHash v) Q E s
def Cn(prog:Program)(w:World)(l:List AV):Prop:=∀(A)(E:Value->Shared->Prop)(f:Value->Array Int->Sem (ForInStep (Array Int)))(Q:Array Int->Shared->Prop),(∀x b,f x b=(do pure (.yield (b.push (←pyHash x)))))->∀s vs b,
  A.units+AV.du l<cLine->AV.keys l=true->ak s.heap [] l vs->Q ⟨b.toList++qa w l⟩ {s with toks:=s.toks+X7 l}->wpAny (model prog w) A (forIn vs b f) Q E s
theorem X0(i:Cn prog w l):yI prog w (.tup l):=by
 intro A E s v Q d m r h;obtain⟨a,items,n,rfl,f,j⟩:=r;have c:s.TypeIs (.ref a) "tuple":=⟨_,f,Y⟩;refine aaV (wpAny_cRoomFor_or (.inr (aaZ (aaW ..) d)) ?_);refine aaV (wpAny_specialOf c F.slot_tuple_hash.lookup ?_);refine aaV (wpAny_specialOf c F.slot_tuple_hash.lookup ?_);refine aaV (wpAny_callSpecialIfBoundUnlessNone?_slot c F.slot_tuple_hash (wpAny_call_entry F.slot_tuple_hash c F.entry_tuple_hash ?_ (F.args_tuple_hash_1 _)));show wpAny _ _ (Builtin.Tuple.tupleItemsOf _>>=_) _ _ s;refine aaV (wpAny_tupleItemsOf f Y ?_);refine aaV ?_;rw[←Array.forIn_toList];refine i _ _ _ _ (λx b=>Y) s items.toList _ (by rw[abu,abE 1];exact d) m j ?_
 show wpAny _ _ (retInt (Builtin.Tuple.tupleHashOf (qa w l))) ..;have h:Q (reduceHash (Builtin.Tuple.tupleHashOf (qa w l))) {s with toks:=s.toks+_}:=h;refine wpAny_ret_mkInt ?_;show wpAny _ _ (if _=true then _ else _) Q E _;unfold reduceHash at h;generalize(decide (-2^63<=Builtin.Tuple.tupleHashOf (qa w l))&&decide (Builtin.Tuple.tupleHashOf (qa w l)<2^63))=b at h⊢;cases b with
 |true=>exact abh h
 |false=>exact aaV (wpAny_rule (abh h))
theorem Sk:(∀x,yI prog w x)/\∀l,Cn prog w l:=by
 refine AV.ind (λJ J J J J J k=>absurd k aaY) (λJ J J J J J J k=>absurd k aaY) (λi A E s v Q J J e h=>?_) (λi A E s v Q J J e h=>?_) (λl=>X0) (λJ J J J J J J k=>absurd k aaY) (λJ J J J J J J k=>absurd k aaY) (λA E f Q a s vs b J J e h=>?_) λx l i j A E f Q a s vs b c d e h=>?_
 .obtain⟨t,e⟩:=e;exact e▸wpAny_pyHash_int h
 .obtain⟨t,e⟩:=e;exact e▸wpAny_pyHash_str h
 .cases e
  have h:Q ⟨b.toList++[]⟩ s:=h;rw[abO] at h;exact abh h
 .obtain⟨v,r,e,m,p⟩:=e;subst e;rw[List.forIn_cons,a];refine aaV (aaV (i A E s v _ (aaZ (aa3 (Nat.le_max_left ..) _) c) (af d).1 m (abh ?_)));refine j A E f Q a {s with toks:=s.toks+vG x} r _ (aaZ (aa3 (Nat.le_max_right ..) _) c) (af d).2 p ?_;rw[Array.toList_push,List.append_assoc,abu];exact h
theorem WC(x):yI prog w x:=Sk.1 x
end
def toPy:AV->PyData:=@AV.rec (λJ=>PyData) (λJ=>List PyData) .none (λb=>.bool b) (λi=>.int i) (λx=>.str x) (λJ p=>.tuple p) (λJ=>.none) (λJ=>.none) [] (λJ J p q=>p::q)
def fB:List AV->List PyData:=@AV.rec_1 (λJ=>PyData) (λJ=>List PyData) .none (λb=>.bool b) (λi=>.int i) (λx=>.str x) (λJ p=>.tuple p) (λJ=>.none) (λJ=>.none) [] (λJ J p q=>p::q)
theorem ji:(∀x v,x.data=true->RV h β x v->∃as,Reads h v (toPy x) as)/\∀l vs,AV.e_ l=true->ak h β l vs->∃as,ReadsAll h vs (fB l) as:=by
 refine AV.ind (λv d r=>?_) (λb v d r=>?_) (λi v d r=>?_) (λi v d r=>?_) (λl i v d r=>?_) (nofun) (nofun) (λvs J r=>?_) λx l i j vs d r=>?_
 .exact(r)▸⟨_,.none⟩
 .exact(r)▸⟨_,.bool b⟩
 .obtain⟨t,r⟩:=r;exact r▸⟨_,.int i t⟩
 .obtain⟨t,r⟩:=r;exact r▸⟨_,.str i t⟩
 .obtain⟨a,vs,n,e,s,m⟩:=r;obtain⟨as,q⟩:=i _ d m;exact e▸⟨as,.tuple s Y Y q⟩
 .exact(r)▸⟨_,.nil⟩
 .obtain⟨v,r,e,c,f⟩:=r;obtain⟨as,p⟩:=i v (af d).1 c;obtain⟨bs,q⟩:=j r (af d).2 f;exact e▸⟨_,.cons p q⟩
theorem iF:(∀x,x.data=true->(toPy x).canLay0=true)/\∀l,AV.e_ l=true->PyData.canLayAll0 (fB l)=true:=
 AV.ind (λJ=>Y) (λJ J=>Y) (λJ J=>Y) (λJ d=>d) (λJ i=>i) (nofun) (nofun) (λJ=>Y) λJ J i j d=>Bool.and_eq_true_iff.mpr ⟨i (af d).1,j (af d).2⟩
theorem Zg:(∀x,(toPy x).depth=x.depth)/\∀l,PyData.depthAll (fB l)=AV.du l:=
 AV.ind Y (λJ=>Y) (λJ=>Y) (λJ=>Y) (λJ=>aaU _) (λJ=>Y) (λJ=>Y) Y λJ J i=>congr (aaU max i)
def e7(x y:AV):Bool:=PyData.eqv (toPy x) (toPy y)
theorem kU{p q}[Decidable p][Decidable q](h:p↔q):decide p=decide q:=ab8.mpr h
theorem NC:(∀x y,x.key=true->y.key=true->PyData.eqv (toPy x) (toPy y)=decide (x=y))/\∀x y,AV.keys x=true->AV.keys y=true->PyData.eqvAll (fB x) (fB y)=decide (x=y):=by
 refine AV.ind (nofun) (nofun) (λi y J k=>?_) (λi y J k=>?_) (λl a y kx k=>?_) (nofun) (nofun) (λy J k=>?_) λx l i j y kx k=>?_
 .cases y with
  |int j=>exact kU ⟨aaU AV.int,AV.int.inj⟩
  |str j=>exact(abf nofun).symm
  |tup j=>exact(abf nofun).symm
  |_=>exact absurd k aaY
 .cases y with
  |int j=>exact(abf nofun).symm
  |str j=>exact(abP.mpr (abc.trans ((⟨aaU AV.str,AV.str.inj⟩:i=j↔_).trans decide_eq_true_iff.symm)))
  |tup j=>exact(abf nofun).symm
  |_=>exact absurd k aaY
 .cases y with
  |int j=>exact(abf nofun).symm
  |str j=>exact(abf nofun).symm
  |tup j=>exact(a j kx k).trans (kU ⟨aaU AV.tup,AV.tup.inj⟩)
  |_=>exact absurd k aaY
 .cases y with
  |nil=>assumption
  |cons=>exact(abf nofun).symm
 .cases y with
  |nil=>exact(abf nofun).symm
  |cons y m=>
   show(PyData.eqv (toPy x) (toPy y)&&PyData.eqvAll (fB l) (fB m))=_;rw[i y (af kx).1 (af k).1,j m (af kx).2 (af k).2,←Bool.decide_and];exact kU ⟨λe=>congr (aaU List.cons e.1) e.2,List.cons.inj⟩
theorem uX(kx:x.key=true)(a:y.key=true):e7 x y=decide (x=y):=NC.1 x y kx a
section
variable{prog:Program}{w:World}{A:Around}{E:Value->Shared->Prop}{s:Shared}{β:List Addr}
theorem qQ(a:n+x.depth<cLine):n+min (toPy x).depth (toPy y).depth<cLine:=by
 rw[Zg.1];exact aaZ (aa3 (Nat.min_le_left ..) _) a
theorem P5(b:x.data=true)(a:y.data=true)(d:RV s.heap β x v)(c:RV s.heap β y u)(f:A.units+x.depth<cLine)
  (h:Q (e7 x y) s):wpAny (model prog w) A (eqBool v u) Q E s:=by
 obtain⟨as,p⟩:=ji.1 x v b d
 obtain⟨bs,q⟩:=ji.1 y u a c
 exact SeqAt.eqAt_reads _ _ A s v u as bs p q (iF.1 x b) (iF.1 y a) (qQ f) prog w E Q h
theorem S3(b:x.data=true)(a:y.data=true)(d:RV s.heap β x v)(c:RV s.heap β y u)(f:A.units+x.depth<cLine)
  (h:Q (.bool (!e7 x y)) s):wpAny (model prog w) A (compareOp .NotEq v u) Q E s:=by
 obtain⟨as,p⟩:=ji.1 x v b d
 obtain⟨bs,q⟩:=ji.1 y u a c
 exact SeqAt.compareNe_reads p q (iF.1 x b) (iF.1 y a) (qQ f) h
end
section
variable{prog:Program}{w:World}
def tP(prog:Program)(w:World)(n:Nat)(x:AV):Prop:=x.depth<=n->x.key=true->∀(A)(E s v Q),RV s.heap [] x v->Q true s->wpAny (model prog w) A (eqIsQuiet n v) Q E s
theorem Qh(p:∀x,tP prog w n x)(l):tP prog w (n+1) (.tup l):=by
 intro d k A E s v Q r h;obtain⟨a,vs,m,e,f,u⟩:=r;subst e;have j:s.TypeIs (.ref a) "tuple":=⟨_,f,Y⟩;unfold eqIsQuiet;refine aaV (wpAny_specialOf j F.slot_tuple_eq.lookup ?_);refine aaV (wpAny_isInstance j isSubtype_tuple_tuple ?_);refine aaV (wpAny_seqItems f Y ?_);refine aaV ?_;rw[←Array.forIn_toList];refine wpAny_forIn_list _ (λrest r s'=>r.1=none/\s'=s/\∃l',(∀x∈l',x∈l)/\ak s.heap [] l' rest) _ (λv rest r s' c=>?_) (λr s' c=>?_) _ _ ⟨Y,Y,l,λJ h=>h,u⟩
 .obtain⟨H,e,l',hs,b⟩:=c;subst e;cases l' with
  |nil=>cases List.cons_ne_nil _ _ b
  |cons x l'=>
   obtain⟨z,D,e,t,b⟩:=b;obtain⟨e1,e2⟩:=List.cons.inj e;have i:=hs x (.head _);exact aaV (p x (aaS (BL i) (Nat.le_of_succ_le_succ d)) (JT i k) A E s' v _ (e1▸t) (abh ⟨Y,Y,l',λy q=>hs y (.tail _ q),e2▸b⟩))
 .obtain⟨r1,B⟩:=r;obtain⟨rfl,rfl,_⟩:=c;exact abh h
theorem Cv(t:x.isTup=false):tP prog w n x:=by
 intro d k A E s v Q r h;have b:carriedByValue v=true:=by
  cases x with
  |int=>obtain⟨t,e⟩:=r;exact e▸Y
  |str=>obtain⟨t,e⟩:=r;exact e▸Y
  |tup=>exact absurd t.symm aaY
  |_=>cases aaY k
 exact(eqIsQuiet_byValue n b)▸abh h
theorem Py(n):∀x,tP prog w n x:=by
 induction n with
 |zero=>
  intro x;cases x with
  |tup l=>exactλd=>absurd d (Nat.not_succ_le_zero _)
  |_=>exact Cv Y
 |succ n a=>
  intro x;cases x with
  |tup l=>exact Qh a l
  |_=>exact Cv Y
def nh(x:AV):Bool:=x.key&&decide (x.depth<=8)
theorem Rt(f:h.get? d=some o)(i:o.data=.dict es l)(hs:Heap.SameBut d h j)(b:h.get? a=some x)(c:x.data=.seq vs n):j.get? a=some x:=by
 refine(hs.2 a λe=>?_).trans b;rw[e,f] at b;rw[←aa0 b,i] at c;cases c
theorem k8(h:nh k=true):k.depth<=8:=abl (af h).2
def jj(prog w):HeapKind prog w AV where
 is h k a:=nh k=true/\RV h [] k (.ref a)
 hash:=uQ w
 draws:=vG
 room A:=A.units+20<cLine
 inj:=λc f=>RV.inj _ _ _ (af c.1).1 (af f.1).1 c.2 f.2
 keeps:=λx j l hs=>⟨x.1,RV.mono (λb vs n e=>Rt j l hs e Y) (λJ J e=>e) _ _ x.2⟩
 pyHash:=λi d h=>WC _ _ _ _ _ _ (aaZ (aa3 (aaS (k8 d.1) ()) _) i) (af d.1).1 d.2 h
 eqBool:=λi c f h=>P5 (jm _ (af c.1).1) (jm _ (af f.1).1) c.2 f.2 (aaZ (aa3 (aaS (k8 c.1) ()) _) i) (by rw[uX (af c.1).1 (af f.1).1];exact h)
 quiet:=λd h=>Py 8 _ (k8 d.1) (af d.1).1 _ _ _ _ _ d.2 h
end
inductive KS where
 |int|str|tup
def KS.ok(s:KS)(x:AV):Bool:=match s with
 |.int=>match x with
  |.int _=>true
  |_=>false
 |.str=>match x with
  |.str _=>true
  |_=>false
 |.tup=>match x with
  |.tup l=>nh (.tup l)
  |_=>false
noncomputable abbrev cZ(vs:Array Value)(n:Nat):Obj:={cls:=.type "list",data:=.seq vs n}
set_option genInjectivity true in
inductive AO where
 |list(l:List AV)
 |dict(ks:KS)(es:List (AV×AV))
 |inst(C:Addr)(fs:List (V×AV))
 |dX(o:Obj)(l:List AV)
instance:Inhabited AO:=⟨.list []⟩
section
variable(w:World)(h:Heap)(β:List Addr)
structure EC(ks:KS)(p:AV×AV)(e:DictEntry):Prop where
 ok:ks.ok p.1=true
 key:RV h β p.1 e.key
 val:RV h β p.2 e.val
 hash:e.hash=uQ w p.1
def fK(ks:KS)(l:List (AV×AV)):List DictEntry->Prop:=List.rec (λes=>es=[]) (λp J r es=>∃e t,es=e::t/\EC w h β ks p e/\r t) l
def cx(l:List (V×AV)):List DictEntry->Prop:=List.rec (λes=>es=[]) (λp J r es=>∃e t u,es=e::t/\e.key=.str (nm p.1) u/\RV h β p.2 e.val/\r t) l
def RO(o:AO)(a d:Addr):Prop:=match o with
 |.list l=>d=a/\∃vs n,h.get? a=some (cZ vs n)/\ak h β l vs.toList
 |.dict ks es=>d=a/\(∃o arr n,h.get? a=some o/\o.ExactDict/\o.data=.dict arr n/\fK w h β ks es arr.toList)/\(es.map (·.1)).Nodup
 |.dX o l=>d=a/\h.get? a=some o/\o.cls=.type "list"/\∃vs m,o.data=.seq vs m/\ak h β l vs.toList
 |.inst C fs=>a≠d/\h.get? a=some (instObj C d)/\(∃arr n,h.get? d=some (dictOf arr n)/\cx h β fs arr)/\(fs.map (·.1)).Nodup
end
section
variable{w:World}{h h':Heap}{β ah:List Addr}
theorem fK.e{ks p l es}{M:List DictEntry->Prop}(x:fK w h β ks (p::l) es)(k:∀e t,EC w h β ks p e->fK w h β ks l t->M (e::t)):M es:=x.elim λe x=>x.elim λt x=>x.1▸k e t x.2.1 x.2.2
theorem cx.e{p l es}{M:List DictEntry->Prop}(x:cx h β (p::l) es)(k:∀e t u,e.key=.str (nm p.1) u->RV h β p.2 e.val->cx h β l t->M (e::t)):M es:=x.elim λe x=>x.elim λt x=>x.elim λu x=>x.1▸k e t u x.2.1 x.2.2.1 x.2.2.2
theorem EC.mono(k:fc h h')(e:∀(n:Nat)(a),β[n]?=some a->ah[n]?=some a)(x:EC w h β ks p d):EC w h' ah ks p d:=⟨x.ok,RV.mono k e _ _ x.key,RV.mono k e _ _ x.val,x.hash⟩
theorem fK.mono(k:fc h h')(e:∀(n:Nat)(a),β[n]?=some a->ah[n]?=some a)(ks l):∀es,fK w h β ks l es->fK w h' ah ks l es:=by
 induction l with
 |nil=>exactλJ r=>r
 |cons p l b=>exactλes r=>r.imp λd r=>r.imp λt r=>r.imp id λr=>r.imp (EC.mono k e) (b t)
theorem cx.mono(k:fc h h')(e:∀(n:Nat)(a),β[n]?=some a->ah[n]?=some a)(l):∀es,cx h β l es->cx h' ah l es:=by
 induction l with
 |nil=>exactλJ r=>r
 |cons p l b=>exactλes r=>r.imp λd r=>r.imp λt r=>r.imp λu r=>r.imp id λr=>r.imp id λr=>r.imp (RV.mono k e _ _) (b t)
theorem RO.mono(k:fc h h')(e:∀(n:Nat)(a),β[n]?=some a->ah[n]?=some a)(r:RO w h β ao a d)(b:∀o,h.get? a=some o->h'.get? a=some o)(c:∀o,h.get? d=some o->h'.get? d=some o):RO w h' ah ao a d:=by
 cases ao with
 |list l=>exact r.imp id λr=>r.imp λvs r=>r.imp λn r=>r.imp (b _) (ak.mono k e l _)
 |dict ks es=>exact r.imp id λr=>r.imp (λr=>r.imp λo r=>r.imp λarr r=>r.imp λn r=>r.imp (b o) λr=>r.imp id λr=>r.imp id (fK.mono k e ks es _)) id
 |inst C fs=>exact r.imp id λr=>r.imp (b _) λr=>r.imp (λr=>r.imp λarr r=>r.imp λn r=>r.imp (c _) (cx.mono k e fs _)) id
 |dX o l=>exact r.imp id λr=>r.imp (b o) λr=>r.imp id λr=>r.imp λvs r=>r.imp λm r=>r.imp id (ak.mono k e l _)
end
structure Inv(w)(h₀ h:Heap)(β δ:List Addr)(σ:List AO):Prop where
 keep:∀b o,h₀.get? b=some o->h.get? b=some o
 g_:β.length=σ.length
 kq:δ.length=σ.length
 obj:∀(n:Nat)ao,σ[n]?=some ao->∃a d,β[n]?=some a/\δ[n]?=some d/\RO w h β ao a d
 new:∀a∈β++δ,h₀.objs.size<=a/\h.objs.size>a
 sep:∀(n m:Nat)(a),(β[n]?=some a\/δ[n]?=some a)->(β[m]?=some a\/δ[m]?=some a)->n=m
 size:h₀.objs.size<=h.objs.size
structure Step(Z:Addr->Prop)(h:Heap)(β δ:List Addr)(h':Heap)(ah ax:List Addr):Prop where
 size:h.objs.size<=h'.objs.size
 keep:∀b o,h.get? b=some o->b∉β++δ->¬Z b->h'.get? b=some o
 tup:fc h h'
 pre:∀(n:Nat)(a),β[n]?=some a->ah[n]?=some a
 fresh:∀a,a∈ah++ax->a∈β++δ\/h.objs.size<=a
theorem kX{h:Heap}{b o}{P:Prop}(e:h.get? b=some o)(l:h.objs.size<=b):P:=absurd (ab2 e) (ab0.mpr l)
theorem sr{l:List Addr}{n:Nat}{a}(e:l[n]?=some a):a∈l:=abk e
theorem dv{b:Type}{l:List b}{n a}(e:l[n]?=some a):n<l.length:=(abg.mp e).1
theorem i_{b:Type}{l m:List b}{n:Nat}{a}(e:l[n]?=some a):(l++m)[n]?=some a:=by
 rw[List.getElem?_append_left (dv e)];exact e
theorem zk(e:(l++[x])[n]?=some a):l[n]?=some a\/(n=l.length/\a=x):=by
 by_cases q:n<l.length
 .rw[List.getElem?_append_left q] at e;exact .inl e
 .rw[List.getElem?_append_right (Nat.le_of_not_lt q)] at e;cases z:n-l.length with
  |zero=>
   rw[z] at e;exact .inr ⟨Nat.le_antisymm (Nat.le_of_sub_eq_zero z) (Nat.le_of_not_lt q),(aa0 e).symm⟩
  |succ m=>rw[z] at e;exact absurd e.symm (aa8 _)
theorem vi{β b}{a d x:Addr}(m:x∈(β++[a])++(b++[d])):x∈β++b\/x=a\/x=d:=by
 rcases abq.mp m with m|m<;>rcases abq.mp m with m|m
 .exact .inl (abe _ m)
 .exact .inr (.inl (aaT.mp m))
 .exact .inl (abi _ m)
 .exact .inr (.inr (aaT.mp m))
theorem rK{β a:List Addr}{n:Nat}{x}(e:β[n]?=some x\/a[n]?=some x):x∈β++a:=e.elim (λe=>abe _ (sr e)) λe=>abi _ (sr e)
section
variable{Z Z':Addr->Prop}{h h' vy f7:Heap}{β δ ah ax I9 AX:List Addr}
theorem Step.refl:Step Z h β δ h β δ:=⟨aaX _,λJ J e J J=>e,λJ J J e=>e,λJ J e=>e,λJ=>.inl⟩
theorem Step.trans(x:Step Z h β δ h' ah ax)(y:Step Z h' ah ax vy I9 AX):Step Z h β δ vy I9 AX where
 size:=aaS x.size y.size
 keep b o e m z:=y.keep b o (x.keep b o e m z) (λq=>(x.fresh b q).elim m (kX e)) z
 tup b vs n e:=y.tup b vs n (x.tup b vs n e)
 pre n a e:=y.pre n a (x.pre n a e)
 fresh a m:=(y.fresh a m).elim (x.fresh a) λl=>.inr (aaS x.size l)
theorem Step.weak(x:Step Z h β δ h' ah ax)(k:∀b,Z b->Z' b\/h.objs.size<=b):Step Z' h β δ h' ah ax:=
 ⟨x.size,λb o e m z=>x.keep b o e m λq=>(k b q).elim z (kX e),x.tup,x.pre,x.fresh⟩
theorem Step.from(x:Step Z h β δ h' ah ax)(hs:f7.objs.size<=h.objs.size)(k:∀b o,f7.get? b=some o->h.get? b=some o)(z:∀b,Z b->Z' b\/f7.objs.size<=b):Step Z' f7 β δ h' ah ax:=
 ⟨aaS hs x.size,λb o e m q=>x.keep b o (k b o e) m λl=>(z b l).elim q (kX e),λb vs n e=>x.tup b vs n (k b _ e),x.pre,λa m=>(x.fresh a m).imp id (aaS hs)⟩
theorem Step.keeps(hs:h.objs.size<=h'.objs.size)(k:∀b o,h.get? b=some o->h'.get? b=some o):Step Z h β δ h' β δ:=⟨hs,λb o e J J=>k b o e,λb J J=>k b _,λJ J e=>e,λJ=>.inl⟩
theorem jH:h.objs.size<=(h.push o).objs.size:=ab1 .. ▸ab7 _
theorem Step.push(o):Step Z h β δ (h.push o) β δ:=Step.keeps jH λJ J=>Heap.get?_push_of_some _
theorem Step.snoc{a d:Addr}(hs:h.objs.size<=h'.objs.size)(k:∀b o,h.get? b=some o->h'.get? b=some o)(f:h.objs.size<=a)(c:h.objs.size<=d):Step Z h β δ h' (β++[a]) (δ++[d]):=
 ⟨hs,λb o e J J=>k b o e,λb J J=>k b _,λn a=>i_,λx m=>(vi m).imp id λe=>e.elim (λe=>e▸f) λe=>e▸c⟩
end
section
variable{w:World}{h₀ h h':Heap}{β δ:List Addr}{σ:List AO}
theorem qL{o o':Obj}{a b}{P:Prop}(e:some o=some o')(h:o.cls=.type a)(q:o'.cls=.type b)(n:a≠b):P:=absurd (Value.type.inj (h.symm.trans ((aaU Obj.cls (aa0 e)).trans q))) n
theorem Ig{ao a d}(r:RO w h β ao a d):∀o,(h.get? a=some o\/h.get? d=some o)->o.cls≠.type "tuple":=by
 intro o b q;cases ao with
 |list l=>
  obtain⟨e,vs,n,c,_⟩:=r;rw[e,or_self,c] at b;exact qL b Y q ()
 |dict ks es=>
  obtain⟨e,⟨o',arr,n,c,f,_⟩,_⟩:=r;rw[e,or_self,c] at b;exact qL b f.1 q ()
 |inst C fs=>
  obtain⟨c,f,⟨arr,n,i,m⟩,j⟩:=r;exact b.elim (λb=>Value.noConfusion ((aaU Obj.cls (aa0 (f▸b))).trans q)) λb=>qL (i▸b) Y q ()
 |dX o' l=>
  obtain⟨e,c,f,_⟩:=r;rw[e,or_self,c] at b;exact qL b f q ()
theorem Inv.G1(I:Inv w h₀ h β δ σ)(f:b∈β++δ)(m:h.get? b=some o):o.cls≠.type "tuple":=by
 rcases abq.mp f with f|f
 .obtain⟨n,c,e⟩:=List.mem_iff_getElem.mp f;obtain⟨a,d,l,j,i⟩:=I.obj n _ (ab4 (I.g_▸c));rw[ab4 c,e] at l;exact Ig i o (.inl (aa0 l▸m))
 .obtain⟨n,c,e⟩:=List.mem_iff_getElem.mp f;obtain⟨a,d,l,j,i⟩:=I.obj n _ (ab4 (I.kq▸c));rw[ab4 c,e] at j;exact Ig i o (.inr (aa0 j▸m))
theorem Inv.lay(I:Inv w h₀ h β δ σ){Z:Addr->Prop}(hs:h.objs.size<=h'.objs.size)(k:∀b o,h.get? b=some o->¬Z b->h'.get? b=some o)(tk:fc h h')(hz:∀b,Z b->h₀.objs.size<=b/\b∉β++δ):Inv w h₀ h' β δ σ where
 keep b o e:=k b o (I.keep b o e) λz=>kX e (hz b z).1
 g_:=I.g_
 kq:=I.kq
 obj n ao e:=(I.obj n ao e).imp λa r=>r.imp λd r=>⟨r.1,r.2.1,r.2.2.mono tk (λJ J e=>e) (λo e=>k a o e λz=>(hz a z).2 (abe _ (sr r.1))) λo e=>k d o e λz=>(hz d z).2 (abi _ (sr r.2.1))⟩
 new a m:=⟨(I.new a m).1,abb (I.new a m).2 hs⟩
 sep:=I.sep
 size:=aaS I.size hs
theorem Inv.ext(I:Inv w h₀ h β δ σ){Z:Addr->Prop}(hs:h.objs.size<=h'.objs.size)(k:∀b o,h.get? b=some o->¬Z b->h'.get? b=some o)(hz:∀b,Z b->h₀.objs.size<=b/\b∉β++δ/\∀o vs n,h.get? b=some o->o.data≠.seq vs n):Inv w h₀ h' β δ σ:=
 I.lay hs k (λb vs n e=>k b _ e λz=>(hz b z).2.2 _ vs n e Y) λb z=>⟨(hz b z).1,(hz b z).2.1⟩
theorem Inv.keeps(I:Inv w h₀ h β δ σ)(hs:h.objs.size<=h'.objs.size)(k:∀b o,h.get? b=some o->h'.get? b=some o):Inv w h₀ h' β δ σ:=I.ext (Z:=λJ=>False) hs (λb o e J=>k b o e) λJ z=>z.elim
theorem Inv.push(I:Inv w h₀ h β δ σ)(o):Inv w h₀ (h.push o) β δ σ:=I.keeps jH λJ J=>Heap.get?_push_of_some _
theorem Inv.more(I:Inv w h₀ h β δ σ){a d ao}(na:a∉β++δ)(nd:d∉β++δ)(ha:h₀.objs.size<=a/\h.objs.size>a)(hd:h₀.objs.size<=d/\h.objs.size>d)(r:RO w h (β++[a]) ao a d):Inv w h₀ h (β++[a]) (δ++[d]) (σ++[ao]) where
 keep:=I.keep
 g_:=by rw[aa4,aa4,I.g_];rfl
 kq:=by rw[aa4,aa4,I.kq];rfl
 obj n x e:=by
  rcases zk e with e|⟨e1,e2⟩
  .exact(I.obj n x e).imp λa' r=>r.imp λd' r=>⟨i_ r.1,i_ r.2.1,r.2.2.mono (λb J J e=>e) (λJ J=>i_) (λo e=>e) λo e=>e⟩
  .exact⟨a,d,by rw[e1,←I.g_];exact List.getElem?_concat_length ..,by rw[e1,←I.kq];exact List.getElem?_concat_length ..,e2▸r⟩
 new x m:=(vi m).elim (I.new x) λe=>e.elim (λe=>e▸ha) λe=>e▸hd
 sep n m x p q:=by
  have key:∀{n},((β++[a])[n]?=some x\/(δ++[d])[n]?=some x)->(β[n]?=some x\/δ[n]?=some x)\/(n=σ.length/\x∉β++δ):=λe=>by
   rcases e with e|e
   .rcases zk e with e|⟨e1,e2⟩
    .exact .inl (.inl e)
    .exact .inr ⟨e1.trans I.g_,e2▸na⟩
   .rcases zk e with e|⟨e1,e2⟩
    .exact .inl (.inr e)
    .exact .inr ⟨e1.trans I.kq,e2▸nd⟩
  rcases key p with p|p<;>rcases key q with q|q
  .exact I.sep n m x p q
  .exact absurd (rK p) q.2
  .exact absurd (rK q) p.2
  .exact p.1.trans q.1.symm
 size:=I.size
theorem Inv.snoc(I:Inv w h₀ h β δ σ)(hs:h.objs.size<=h'.objs.size)(k:∀b o,h.get? b=some o->h'.get? b=some o)
  (f:h.objs.size<=a/\h'.objs.size>a)(c:h.objs.size<=d/\h'.objs.size>d)(r:RO w h' (β++[a]) ao a d):Inv w h₀ h' (β++[a]) (δ++[d]) (σ++[ao]):=
 (I.keeps hs k).more (λm=>absurd (I.new a m).2 (ab0.mpr f.1)) (λm=>absurd (I.new d m).2 (ab0.mpr c.1)) ⟨aaS I.size f.1,f.2⟩ ⟨aaS I.size c.1,c.2⟩ r
theorem Inv.set(I:Inv w h₀ h β δ σ){n a d b ao}(f:β[n]?=some a)(p:δ[n]?=some d)(u:b=a\/b=d)(hs:Heap.SameBut b h h')(r:RO w h' β ao a d):Inv w h₀ h' β δ (σ.set n ao):=by
 have l:=u.imp (λe:b=a=>e▸f) λe:b=d=>e▸p;have j:=rK l;have other:∀{m x},m≠n->_->x≠b:=λi s e=>i (I.sep _ n b (e▸s) l);have tk:fc h h':=λc J J e=>(hs.2 c λz=>I.G1 (z▸j) e Y).trans e;refine⟨λc o e=>(hs.2 c λz=>kX e (z▸(I.new b j).1)).trans (I.keep c o e),List.length_set▸I.g_,List.length_set▸I.kq,λm x e=>?_,λx m=>⟨(I.new x m).1,hs.1▸(I.new x m).2⟩,I.sep,hs.1▸I.size⟩;by_cases q:n=m
 .have t:=I.g_▸dv f;rw[List.getElem?_set,abn q,abn t] at e;exact⟨a,d,q▸f,q▸p,aa0 e▸r⟩
 .rw[List.getElem?_set_ne q] at e;exact(I.obj m x e).imp λA r=>r.imp λy r=>⟨r.1,r.2.1,r.2.2.mono tk (λJ J e=>e) (λo e=>(hs.2 A (other (Ne.symm q) (.inl r.1))).trans e) λo e=>(hs.2 y (other (Ne.symm q) (.inr r.2.1))).trans e⟩
theorem Inv.LC(I:Inv w h₀ h β δ σ)(a:b∈β++δ)(hs:Heap.SameBut b h h'):Step Z h β δ h' β δ where
 size:=aa7 hs.1.symm
 keep c o e n _:=(hs.2 c λz=>n (z▸a)).trans e
 tup c _ _ e:=(hs.2 c λz=>I.G1 (z▸a) e Y).trans e
 pre _ _ e:=e
 fresh _ m:=.inl m
end
noncomputable def GT:List (V×AV):=[
 (0,.int 0),
 (1,.raw (.ref 541)),
 (2,.tup [.int 10,.int 14,.int 15,.int 16,.int 17,.int 18,.int 19]),
 (3,.raw (.ref 201)),
 (4,.int 11),
 (5,.int 13),
 (6,.int 8),
 (7,.tup [.tup [.int 1,.str "any"],.tup [.int 1,.str "unknown"],.tup [.int 1,.str "never"],.tup [.int 1,.str "void"],.tup [.int 1,.str "undefined"],.tup [.int 1,.str "null"],.tup [.int 1,.str "string"],.tup [.int 1,.str "number"],.tup [.int 2,.int 0,.int 0],.tup [.int 2,.int 1,.int 0],.tup [.int 1,.str "object"],.tup [.int 8,.tup [],.tup [],.tup [],.tup [],.tup [],.int 0],.tup [.int 6,.tup [.int 8,.int 9]],.tup [.int 1,.str "error"],.tup [.int 2,.int 0,.int 1],.tup [.int 2,.int 1,.int 1]]),
 (8,.int 14),
 (9,.int 15),
 (10,.raw (.ref 80)),
 (11,.tup [.int 11,.int 12]),
 (12,.tup [.int 2,.int 3,.int 4,.int 5]),
 (13,.tup [.int 2,.int 3,.int 4,.int 5,.int 8]),
 (14,.int 60),
 (15,.int 24),
 (16,.int 400),
 (17,.int 20000),
 (18,.int 40),
 (19,.int 200),
 (20,.int 40),
 (21,.int 2),
 (22,.int 5),
 (23,.int 7),
 (24,.raw (.ref 120)),
 (25,.tup [.int 1,.int 2,.int 3,.int 4,.int 5]),
 (26,.int 32),
 (27,.int 1),
 (28,.int 8),
 (29,.int 16),
 (30,.int 2),
 (31,.int 8),
 (32,.int 2),
 (33,.int 10),
 (34,.int 4),
 (35,.int 1),
 (36,.int 5),
 (37,.int 11),
 (38,.int 3),
 (39,.int 2),
 (40,.int 3),
 (41,.int 4),
 (42,.raw (.ref 1101)),
 (43,.raw (.ref 692)),
 (44,.raw (.ref 1061)),
 (45,.tup [.int 8,.int 9]),
 (46,.int 6),
 (47,.int 9),
 (48,.raw (.ref 60)),
 (49,.raw (.ref 180)),
 (50,.int 4),
 (51,.int 1),
 (52,.int 15),
 (53,.tup [.int 1,.int 2,.int 3,.int 4,.int 5]),
 (54,.int 5),
 (55,.int 7),
 (56,.int 4),
 (57,.int 8),
 (58,.int 10),
 (59,.int 9),
 (60,.int 13),
 (61,.int 3),
 (62,.int 18),
 (63,.int 6),
 (65,.raw (.ref 1233)),
 (66,.raw (.ref 1197)),
 (67,.raw (.ref 1168)),
 (68,.raw (.ref 1214)),
 (69,.raw (.ref 1173)),
 (70,.raw (.ref 1268)),
 (71,.raw (.ref 1226)),
 (72,.raw (.ref 1238)),
 (73,.raw (.ref 1185)),
 (74,.raw (.ref 1253)),
 (75,.tup [.tup [.int 1,.tup []],.tup [.int 2,.tup []],.tup [.int 0,.tup [.tup [.int 4,.tup []]]],.tup [.int 0,.tup [.tup [.int 3,.tup []]]],.tup [.int 128,.tup []],.tup [.int 9,.tup []],.tup [.int 0,.tup [.tup [.int 2,.tup [.tup [.int 1,.tup []]]]]],.tup [.int 32,.tup []],.tup [.int 8,.tup [.tup [.int 3,.tup []]]],.tup [.int 0,.tup []],.tup [.int 4,.tup []],.tup [.int 64,.tup []],.tup [.int 136,.tup []],.tup [.int 10,.tup []],.tup [.int 1,.tup [.tup [.int 4,.tup []]]],.tup [.int 0,.tup [.tup [.int 2,.tup [.tup [.int 0,.tup [.tup [.int 3,.tup []]]]]]]]]),
 (76,.raw (.ref 1209)),
 (77,.raw (.ref 1275)),
 (78,.raw (.ref 1219)),
 (79,.raw (.ref 1202)),
 (80,.raw (.ref 1243)),
 (81,.raw (.ref 1282)),
 (82,.raw (.ref 1248)),
 (83,.raw (.ref 1258)),
 (84,.raw (.ref 1178)),
 (85,.raw (.ref 1263)),
 (86,.raw (.ref 1190)),
 (89,.raw (.ref 298)),
 (91,.raw (.ref 780)),
 (95,.raw (.ref 351)),
 (98,.raw (.ref 738)),
 (107,.raw (.ref 339)),
 (111,.raw (.ref 703)),
 (115,.raw (.ref 752)),
 (118,.raw (.ref 724)),
 (126,.raw (.ref 908)),
 (127,.raw (.ref 878)),
 (135,.raw (.ref 229)),
 (144,.raw (.ref 1070)),
 (145,.raw (.ref 1110)),
 (148,.raw (.ref 319)),
 (149,.raw (.ref 305)),
 (150,.raw (.ref 950)),
 (152,.raw (.ref 272)),
 (163,.raw (.ref 857)),
 (179,.raw (.ref 244)),
 (180,.raw (.ref 237)),
 (187,.raw (.ref 222)),
 (188,.raw (.ref 929)),
 (191,.raw (.ref 943)),
 (203,.raw (.ref 251)),
 (207,.raw (.ref 344)),
 (208,.raw (.ref 334)),
 (216,.raw (.ref 571)),
 (217,.raw (.ref 326)),
 (218,.raw (.ref 265)),
 (220,.raw (.ref 745)),
 (223,.raw (.ref 915)),
 (228,.raw (.ref 836)),
 (231,.raw (.ref 871)),
 (232,.raw (.ref 1023)),
 (233,.raw (.ref 1037)),
 (234,.raw (.ref 1030)),
 (238,.raw (.ref 731)),
 (240,.raw (.ref 964)),
 (243,.raw (.ref 787)),
 (246,.raw (.ref 850)),
 (248,.raw (.ref 210)),
 (252,.raw (.ref 279)),
 (255,.raw (.ref 829)),
 (259,.raw (.ref 759)),
 (265,.raw (.ref 922)),
 (267,.raw (.ref 286)),
 (274,.raw (.ref 291)),
 (281,.raw (.ref 258))]
noncomputable def CT:List (Addr×List V×List (V×Addr)):=[
 (120,[226],[(64,96),(114,117),(212,103)]),
 (180,[226,143,121,109,124,178,192,221,241,213],[(64,163),(212,177),(225,170)]),
 (201,[125,156,177,200,106,104,251,128,88,170,276,110,101,129,181],[(64,198)]),
 (541,[257,122,175,174,146],[(64,517),(108,524),(131,377),(239,538)]),
 (692,[140,172,229,100,158,268,224,122,166,184,258,272,171,101],[(64,647),(97,654),(103,682),(168,675),(183,661)]),
 (1061,[],[(139,1051),(259,626)]),
 (1101,[],[(139,1098),(259,626)])]
noncomputable def FT:List Addr:=[96,103,117,120,163,170,177,180,198,201,210,222,229,237,244,251,258,265,272,279,286,291,298,305,319,326,334,339,344,351,377,517,524,538,541,571,626,647,654,661,675,682,692,703,724,731,738,745,752,759,780,787,829,836,850,857,871,878,908,915,922,929,943,950,964,1023,1030,1037,1051,1061,1070,1098,1101,1110,1168,1173,1178,1185,1190,1197,1202,1209,1214,1219,1226,1233,1238,1243,1248,1253,1258,1263,1268,1275,1282]
section
abbrev Sg:=List AO
abbrev Loc:=List (V×AV)
abbrev Do(a:Type):=(a->Sg->Prop)->Sg->Prop
abbrev Ok{a}(m:Do a)(σ:Sg)(Q:a->Sg->Prop):Prop:=m Q σ
section
variable{h:Heap}{β:List Addr}{r:Value}{M:Value->Prop}
theorem vr(z:RV h β .none r)(k:M .none):M r:=(z)▸k
theorem yP(z:RV h β (.bool b) r)(k:M (.bool b)):M r:=(z)▸k
theorem eL(z:RV h β (.int i) r)(k:∀t,M (.int i t)):M r:=z.elim λt z=>z▸k t
theorem nZ(z:RV h β (.str i) r)(k:∀t,M (.str i t)):M r:=z.elim λt z=>z▸k t
theorem cI(z:RV h β (.loc n) r)(k:∀a,β[n]?=some a->M (.ref a)):M r:=z.elim λa z=>z.2▸k a z.1
theorem fA(z:RV h β (.tup l) r)(k:∀a vs n,h.get? a=some (fg vs n)->ak h β l vs.toList->M (.ref a)):M r:=z.elim λa z=>z.elim λvs z=>z.elim λn z=>z.1▸k a vs n z.2.1 z.2.2
end
abbrev Kd:=Str->Option NameKind
def yJ(K:Frag)(C:Addr)(fs:List V)(ms:List (V×Addr)):Bool:=
 findIn K (.ref C) "__getattribute__"==some (some (.builtin "object.__getattribute__"))&&findIn K (.ref C) "__getattr__"==some none&&
 findIn K (.ref C) "__setattr__"==some (some (.builtin "object.__setattr__"))&&plainOver K C&&(clsIn K C).any (·.hasDict)&&
 fs.all (λa=>findIn K (.ref C) (nm a)==some none)&&
 ms.all (λp=>findIn K (.ref C) (nm p.1)==some (some (.ref p.2))&&typeIn K (.ref p.2)==some (.type "function"))&&
 makesIn K C
noncomputable def OT:List Addr:=[1061,1101]
structure Gl where
 prog:Program
 w:World
 bF:Shared
 K:Frag
 mg:Str->Option Value
 mb:Str->Option Value
 X:K.In bF.heap
 G:bF.heap.Ns mainGlobals mg
 B:bF.heap.Ns builtinsNs mb
 bi:∀x:Str,x≠"__name__"->mb x=bootBuiltins x
 lim:bF.heap.NoLimit
 gt:∀x v,GT.lookup x=some v->∃r,mg (nm x)=some r/\RV bF.heap [] v r
 ct:∀C p,CT.lookup C=some p->yJ K C p.1 p.2=true
 ft:∀f∈FT,keepIn K (.ref f)=true
 oi:∀C∈OT,findIn K (.ref C) "__init__"=some (some (.builtin "object.__init__"))
 miss:∀x∈[215,165,247,270],mg (nm x)=none
structure At(g:Gl)(β δ:List Addr)(σ:Sg)(s):Prop where
 same:∃h tk,s={g.bF with heap:=h,toks:=tk}
 inv:Inv g.w g.bF.heap s.heap β δ σ
structure Cb(base h:Heap)(β δ:List Addr)(L:Loc)(env:Env)(y c o):Prop where
 look:env.cells.lookup y=some c
 cell:h.IsCell c o
 num:c∉β++δ
 low:base.objs.size<=c
 loc:c≠env.locals
 val:∀x v,nm x=y->L.lookup x=some v->∃r,o=some r/\RV h β v r
structure Frame(base h β δ)(L:Loc)(env:Env):Prop where
 kind:env.scope.kind=.function
 glob:env.globals=mainGlobals
 blt:env.builtins=builtinsNs
 ns:∃m,h.Ns env.locals m/\∀x v,L.lookup x=some v->env.kindOf (nm x)=some .local->∃r,m (nm x)=some r/\RV h β v r
 cell:∀y,(env.kindOf y=some .cell\/env.kindOf y=some .free)->∃c o,Cb base h β δ L env y c o
 apart:∀y y' c,env.cells.lookup y=some c->env.cells.lookup y'=some c->y=y'
 rG:env.locals∉β++δ
 low:base.objs.size<=env.locals
abbrev bB:Addr->Prop:=λJ=>False
abbrev qd:Value->Shared->Prop:=λJ J=>False
structure dI(A:Around)(n):Prop where
 hd:A.handled=none
 dp:A.depth+n<recursionLimit
 un:A.units+12*n+60<=cLine
section
variable{g:Gl}{A:Around}{env:Env}{L L':Loc}{β δ ah ax:List Addr}{σ aj:Sg}{s s':Shared}{base h h':Heap}{n:Nat}
theorem Frame.to(F:Frame base h β δ L env)(hL:∀x v,L'.lookup x=some v->L.lookup x=some v)(tk:fc h h')(pre:∀(n:Nat)(a),β[n]?=some a->ah[n]?=some a)
  (kl:∀o,h.get? env.locals=some o->h'.get? env.locals=some o)(kc:∀y c o,(env.kindOf y=some .cell\/env.kindOf y=some .free)->env.cells.lookup y=some c->h.get? c=some o->h'.get? c=some o)(nn:∀b,b∉β++δ->h.objs.size>b->b∉ah++ax):Frame base h' ah ax L' env where
 kind:=F.kind
 glob:=F.glob
 blt:=F.blt
 ns:=F.ns.imp λm r=>r.imp (λr=>r.imp λo r=>r.imp λes r=>r.imp λep r=>r.imp (kl o) id) λr x v e k=>(r x v (hL x v e) k).imp λu q=>q.imp id (RV.mono tk pre _ _)
 cell y k:=(F.cell y k).imp λc r=>r.imp λo r=>⟨r.look,r.cell.imp λob q=>q.imp (kc y c ob k r.look) id,r.cell.elim λob q=>nn c r.num (ab2 q.1),r.low,r.loc,λx v e e'=>(r.val x v e (hL x v e')).imp λu q=>q.imp id (RV.mono tk pre _ _)⟩
 apart:=F.apart
 rG:=F.ns.elim λm r=>r.1.elim λo r=>r.elim λes r=>r.elim λep r=>nn _ F.rG (ab2 r.1)
 low:=F.low
theorem Frame.step(F:Frame base h β δ L env)(S:Step bB h β δ h' ah ax):Frame base h' ah ax L env:=
 F.to (λJ J e=>e) S.tup S.pre (λo e=>S.keep _ _ e F.rG id) (λy c o k q e=>(F.cell y k).elim λd r=>r.elim λo' r=>S.keep _ _ e (aa0 (r.look.symm.trans q)▸r.num) id) λb a l m=>(S.fresh b m).elim a λl'=>absurd l (ab0.mpr l')
theorem Frame.weak(F:Frame base h β δ L env)(k:∀x v,L'.lookup x=some v->L.lookup x=some v):Frame base h β δ L' env:=
 F.to k (λJ J J e=>e) (λJ J e=>e) (λJ e=>e) (λJ J J J J e=>e) λJ a J=>a
def Own(env:Env):Addr->Prop:=λb=>b=env.locals\/∃y,(env.kindOf y=some .cell\/env.kindOf y=some .free)/\env.cells.lookup y=some b
structure Lay(D)(h h':Heap):Prop where
 keep:∀b o,b≠D->h.get? b=some o->h'.get? b=some o
 size:h.objs.size<=h'.objs.size
 tup:fc h h'
theorem Lay.but(k:∀b o,b≠I->h.get? b=some o->h'.get? b=some o)(hz:h.objs.size<=h'.objs.size)(f:∀a vs n,h.get? I=some a->a.data≠.seq vs n):Lay I h h':=⟨k,hz,λb vs n e=>k b _ (λq=>f _ vs n (q▸e) Y) e⟩
theorem Frame.lay(F:Frame base h β δ L env)(x:Lay I h h')(a:¬Own env I):Frame base h' β δ L env:=
 F.to (λJ J e=>e) x.tup (λJ J e=>e) (λo=>x.keep _ o λq=>a (.inl q.symm)) (λy c o k e=>x.keep c o λq=>a (.inr ⟨y,k,q▸e⟩)) λJ b J=>b
theorem At.toks(a:At g β δ σ s)(t):At g β δ σ {s with toks:=t}:=by
 obtain⟨h,tk,e⟩:=a.same;exact⟨⟨h,t,by rw[e]⟩,a.inv⟩
theorem At.heap(a:At g β δ σ s)(i:Inv g.w g.bF.heap h' ah ax aj):At g ah ax aj {s with heap:=h'}:=by
 obtain⟨h,tk,e⟩:=a.same;exact⟨⟨h',tk,by rw[e]⟩,i⟩
theorem At.lay(a:At g β δ σ s)(x:Lay D s.heap h')(d:D∉β++δ)(c:g.bF.heap.objs.size<=D):At g β δ σ {s with heap:=h'}:=
 a.heap (a.inv.lay x.size (λb o e z=>x.keep b o z e) x.tup λb z=>z▸⟨c,d⟩)
theorem Step.lay(S:Step Z a d c h β δ)(x:Lay I h h')(f:a.objs.size<=I):Step Z a d c h' β δ:=
 ⟨aaS S.size x.size,λb o e m z=>x.keep b o (λq=>kX e (q▸f)) (S.keep b o e m z),λb vs n e=>x.tup b vs n (S.tup b vs n e),S.pre,S.fresh⟩
theorem At.keep(a:At g β δ σ s):∀b o,g.bF.heap.get? b=some o->s.heap.get? b=some o:=a.inv.keep
theorem At.X(a:At g β δ σ s):g.K.In s.heap:=g.X.keeps a.keep
theorem At.lim(a:At g β δ σ s):s.heap.NoLimit:=g.lim.keeps a.keep
theorem wW(a:At g β δ σ s):s.heap.objs.size∉β++δ:=λm=>absurd (a.inv.new _ m).2 (Nat.lt_irrefl _)
theorem RV.step(x:RV h β v r)(S:Step Z h β δ h' ah ax):RV h' ah v r:=RV.mono S.tup S.pre _ _ x
theorem ak.step(x:ak h β v r)(S:Step Z h β δ h' ah ax):ak h' ah v r:=ak.mono S.tup S.pre _ _ x
theorem At.list(a:At g β δ σ s){k:Nat}{l}(e:σ[k]?=some (.list l)){x}(c:β[k]?=some x):∃vs n,s.heap.get? x=some (cZ vs n)/\ak s.heap β l vs.toList:=by
 obtain⟨b,d,f,j,i,r⟩:=a.inv.obj k _ e;exact aa0 (f.symm.trans c)▸r
theorem eD(e:h.get? x=some (cZ vs n)):h.IsList x vs:=⟨_,e,Y,n,Y⟩
end
namespace W
abbrev Do(a:Type):=(a->Sg->Prop)->Sg->Prop
abbrev aR:=Nat->Addr->List AV->Do AV
abbrev PX:=AV->Sg->Prop
namespace Do
def ret{b}(a:b):Do b:=λQ σ=>Q a σ
def no{a}:Do a:=λJ J=>False
def of{b}(x:Option b):Do b:=λQ σ=>match x with
 |none=>False
 |some a=>Q a σ
def eF{b}(x:Option b):Do b:=λQ σ=>match x with
 |none=>False
 |some a=>Q a σ
end Do
open Do
@[irreducible] def pr{a}(m:Mine.Internal.Do a):Do a:=λQ σ=>Ok m σ Q
@[irreducible] def hp{a}(n:Nat)(f:AO->Do a):Do a:=λQ σ=>match σ[n]? with
 |some o=>f o Q σ
 |none=>False
section
variable{α β:Type}{σ:Sg}{R:α->Sg->Prop}
theorem yb(h:of x R σ):∃a,x=some a/\R a σ:=by
 cases x with
 |none=>exact h.elim
 |some a=>exact⟨a,Y,h⟩
theorem gh(h:eF x R σ):∃a,x=some a/\R a σ:=yb h
theorem a5(h:x=some a)(q:R a σ):eF x R σ:=h▸q
theorem aa(h:x=some a)(q:R a σ):of x R σ:=h▸q
theorem bR(h:Ok m σ R):pr m R σ:=by unfold pr;exact h
theorem f_(h:pr m R σ):Ok m σ R:=by unfold pr at h;exact h
theorem ae(h:σ[n]?=some o)(q:f o R σ):hp n f R σ:=by unfold hp;exact h▸q
theorem ej(h:hp n f R σ):∃o,σ[n]?=some o/\f o R σ:=by
 unfold hp at h;cases e:σ[n]? with
 |none=>rw[e] at h;exact h.elim
 |some o=>rw[e] at h;exact⟨o,Y,h⟩
end
theorem MR(h:σ[n]?=some o):hp n f R σ↔f o R σ:=by unfold hp;rw[h]
theorem LZ(h:x=some a):eF x R σ↔R a σ:=h▸Iff.rfl
abbrev wp{a}(g:Gl)(A:Around)(t:Sem a)(P:a->Shared->Prop)(s:Shared):Prop:=wpAny (model g.prog g.w) A t P qd s
inductive PV(g)(s:Shared)(β δ)(Q:AV->Sg->Prop)(r s'):Prop
 |mk (v aj ah ax) (a:At g ah ax aj s') (S:Step bB s.heap β δ s'.heap ah ax) (z:RV s'.heap ah v r) (q:Q v aj)
inductive TV(g)(s:Shared)(β δ)(Q:Bool->Sg->Prop)(b s'):Prop
 |mk (aj ah ax) (a:At g ah ax aj s') (S:Step bB s.heap β δ s'.heap ah ax) (q:Q b aj)
inductive PU(g)(s:Shared)(β δ)(Q:Sg->Prop)(s'):Prop
 |mk (aj ah ax) (a:At g ah ax aj s') (S:Step bB s.heap β δ s'.heap ah ax) (q:Q aj)
def CM(P:Value->Shared->Prop)(r:Result)(s:Shared):Prop:=match r with
 |.ok (.ret v)=>P v s
 |_=>False
def qx(g:Gl)(n:Nat)(c:aR):Prop:=∀k f vs Q σ,c k f vs Q σ->k<n/\∀A,dI A (n-k)->∀β a s b,At g β a σ s->ak s.heap β vs b->codeAny (model g.prog g.w) A (.call (.ref f) ⟨b,[]⟩) (CM (PV g s β a Q)) s
structure Run(g)(n Φ A env)(L β δ σ s):Prop where
 iX:qx g n Φ
 room:dI A n
 at_:At g β δ σ s
 fr:Frame g.bF.heap s.heap β δ L env
section
variable{g:Gl}{n:Nat}{Φ:aR}{A:Around}{env:Env}{L:Loc}{β δ ah ax:List Addr}{σ aj:Sg}{s s' kR:Shared}{Q:PX}
theorem wm(h:wp g A t P s)(k:∀r s',P r s'->a r s'):wp g A t a s:=wpAny_mono h k λJ J f=>f
theorem Run.next(R:Run g n Φ A env L β δ σ s)(a:At g ah ax aj s')(S:Step bB s.heap β δ s'.heap ah ax):Run g n Φ A env L ah ax aj s':=⟨R.iX,R.room,a,R.fr.step S⟩
theorem PV.intro(a:At g β δ σ s)(x:RV s.heap β v r)(q:Q v σ):PV g s β δ Q r s:=⟨v,σ,β,δ,a,.refl,x,q⟩
theorem PV.tok(a:At g β δ σ s)(t)(x:RV s.heap β v r)(q:Q v σ):PV g s β δ Q r {s with toks:=t}:=⟨v,σ,β,δ,a.toks t,.refl,x,q⟩
theorem PV.after(S:Step bB s.heap β δ s'.heap ah ax)(p:PV g s' ah ax Q r kR):PV g s β δ Q r kR:=by
 obtain⟨v,σ,b,d,a,c,x,q⟩:=p;exact⟨v,σ,b,d,a,S.trans c,x,q⟩
theorem TV.after{b Q}(S:Step bB s.heap β δ s'.heap ah ax)(p:TV g s' ah ax Q b kR):TV g s β δ Q b kR:=by
 obtain⟨σ,c,d,a,f,q⟩:=p;exact⟨σ,c,d,a,S.trans f,q⟩
end
noncomputable def Nh(v:AV):Option Bool:=match v with
 |.str x=>bif Nat.blt x.length (2^62) then some (x.length !=0) else none
 |_=>none
def rB(l:List AV):Do Bool:=match l with
  |[]=>ret false
  |_=>λQ σ=>l.length<2^62/\Q true σ
def V0(o:AO):Do Bool:=match o with
 |.list l=>rB l
 |_=>no
def eG(v:AV):Do Bool:=match v with
 |.bool b=>ret b
 |.int i=>λQ σ=>match decide (i=0) with
  |true=>Q false σ
  |false=>Q true σ
 |.tup l=>rB l
 |.loc n=>hp n V0
 |.none=>ret false
 |v=>eF (Nh v)
section
variable{g:Gl}{n:Nat}{Φ:aR}{A:Around}{env:Env}{L:Loc}{β δ ah ax:List Addr}{σ aj:Sg}{s s':Shared}
def Tk(Q:Bool->Sg->Prop)(σ:Sg)(s:Shared)(b:Bool)(s':Shared):Prop:=Q b σ/\∃t,s'={s with toks:=t}
theorem lZ(q:Q b σ):Tk Q σ s b s:=⟨q,_,Y⟩
theorem EX{vs:Array Value}{l h}(r:ak h β l vs.toList):(!vs.isEmpty)=!l.isEmpty:=by
 rw[←Array.isEmpty_toList];cases l with
 |nil=>rw[r];rfl
 |cons x l=>
  obtain⟨_,_,e,_⟩:=r;rw[e];rfl
theorem Cc{vs:Array Value}{l h n}(r:ak h β l vs.toList)(a:l.length<n):vs.size<n:=by
 have hz:=ak.length _ _ r;rw[Array.length_toList] at hz;exact hz▸a
theorem Jh(h:rB l Q σ):l.length<2^62/\Q (!l.isEmpty) σ:=by
 cases l with
 |nil=>exact⟨(),h⟩
 |cons x l=>exact h
theorem pB(h:n<2^62):(n:Int)<2^63:=by lia
theorem sU{v r Q}(a:At g β δ σ s)(x:RV s.heap β v r)(h:eG v Q σ):wp g A (truthy r) (Tk Q σ s) s:=by
 cases v with
 |none=>apply vr x;exact abh (lZ h)
 |bool c=>apply yP x;exact wpAny_truthy_bool (lZ h)
 |int i=>
  apply eL x;intro t;refine PySem.P.truthy_int (lZ ?_);by_cases e:i=0
  .subst e;exact h
  .rw[bne_iff_ne.mpr e];unfold eG at h;dsimp only at h;rw[abf e] at h;exact h
 |str y=>
  apply nZ x;intro t;obtain⟨b,e,q⟩:=gh h;have e:(bif Nat.blt y.length _ then some _ else none)=some b:=e;cases c:Nat.blt y.length _ with
  |false=>rw[c] at e;exact absurd e.symm (aa8 _)
  |true=>
   rw[c] at e;refine PySem.P.truthy_str (Int.not_le.mpr (pB (Nat.blt_eq.mp c))) (lZ ?_);rw[←aa0 e] at q;cases z:y.length with
   |zero=>rw[z] at q;exact q
   |succ m=>rw[z] at q;exact q
 |tup l=>
  apply fA x;intro t vs m u f;obtain⟨d,q⟩:=Jh h;exact ktl_truthy u (Int.not_le.mpr (pB (Cc f d))) (lZ ((EX f).symm▸q))
 |loc k=>
  apply cI x;intro t p;obtain⟨o,e,h⟩:=ej h;cases o with
  |list l=>
   obtain⟨d,q⟩:=Jh h;obtain⟨vs,m,w,j⟩:=a.list e p;exact wpAny_truthy_list (eD w) (pB (Cc j d)) (lZ ((EX j).symm▸q))
  |_=>exact h.elim
 |raw _=>exact False.elim h
end
end W
end
theorem cu{c}[Decidable c]{f:c->Bool}(h:(if h:c then f h else false)=true):∃x,f x=true:=by
 by_cases x:c
 .rw[dif_pos x] at h;exact⟨x,h⟩
 .rw[dif_neg x] at h;exact absurd h aaY
theorem cy{c}[Decidable c]{f:c->Bool}(h:(if h:c then f h else false)=true):c:=(cu h).elim λx J=>x
noncomputable def wB(e:Expr)(p:BoolOp->List Expr->Bool):Bool:=if h:e.ctorIdx=0 then Expr.BoolOp.elim (motive_1:=λJ=>Bool) e h (λb a J=>p b a) else false
theorem Fo{e p}{M:Expr->Prop}(h:wB e p=true)(k:∀b a c,p b a=true->M (.BoolOp b a c)):M e:=(cu h).elim (Expr.BoolOp.elim (motive_1:=λe=>∀x,Expr.BoolOp.elim e x _=true->M e) e (cy h) λb a c J=>k b a c)
noncomputable def zT(e:Expr)(p:Expr->Operator->Expr->Bool):Bool:=if h:e.ctorIdx=2 then Expr.BinOp.elim (motive_1:=λJ=>Bool) e h (λc b a J=>p c b a) else false
theorem GQ{e p}{M:Expr->Prop}(h:zT e p=true)(k:∀c b a d,p c b a=true->M (.BinOp c b a d)):M e:=(cu h).elim (Expr.BinOp.elim (motive_1:=λe=>∀x,Expr.BinOp.elim e x _=true->M e) e (cy h) λc b a d J=>k c b a d)
noncomputable def pI(e:Expr)(p:UnaryOp->Expr->Bool):Bool:=if h:e.ctorIdx=3 then Expr.UnaryOp.elim (motive_1:=λJ=>Bool) e h (λb a J=>p b a) else false
theorem uo{e p}{M:Expr->Prop}(h:pI e p=true)(k:∀b a c,p b a=true->M (.UnaryOp b a c)):M e:=(cu h).elim (Expr.UnaryOp.elim (motive_1:=λe=>∀x,Expr.UnaryOp.elim e x _=true->M e) e (cy h) λb a c J=>k b a c)
noncomputable def xS(e:Expr)(p:Expr->Expr->Expr->Bool):Bool:=if h:e.ctorIdx=5 then Expr.IfExp.elim (motive_1:=λJ=>Bool) e h (λc b a J=>p c b a) else false
theorem JJ{e p}{M:Expr->Prop}(h:xS e p=true)(k:∀c b a d,p c b a=true->M (.IfExp c b a d)):M e:=(cu h).elim (Expr.IfExp.elim (motive_1:=λe=>∀x,Expr.IfExp.elim e x _=true->M e) e (cy h) λc b a d J=>k c b a d)
noncomputable def su(e:Expr)(p:List (Option Expr)->List Expr->Bool):Bool:=if h:e.ctorIdx=6 then Expr.Dict.elim (motive_1:=λJ=>Bool) e h (λb a J=>p b a) else false
theorem yy{e p}{M:Expr->Prop}(h:su e p=true)(k:∀b a c,p b a=true->M (.Dict b a c)):M e:=(cu h).elim (Expr.Dict.elim (motive_1:=λe=>∀x,Expr.Dict.elim e x _=true->M e) e (cy h) λb a c J=>k b a c)
noncomputable def wk(e:Expr)(p:Expr->List Comprehension->Scope->Bool):Bool:=if h:e.ctorIdx=8 then Expr.ListComp.elim (motive_1:=λJ=>Bool) e h (λc b a J=>p c b a) else false
theorem wV{e p}{M:Expr->Prop}(h:wk e p=true)(k:∀c b a d,p c b a=true->M (.ListComp c b a d)):M e:=(cu h).elim (Expr.ListComp.elim (motive_1:=λe=>∀x,Expr.ListComp.elim e x _=true->M e) e (cy h) λc b a d J=>k c b a d)
noncomputable def De(e:Expr)(p:Expr->List CmpOp->List Expr->Bool):Bool:=if h:e.ctorIdx=15 then Expr.Compare.elim (motive_1:=λJ=>Bool) e h (λc b a J=>p c b a) else false
theorem Kj{e p}{M:Expr->Prop}(h:De e p=true)(k:∀c b a d,p c b a=true->M (.Compare c b a d)):M e:=(cu h).elim (Expr.Compare.elim (motive_1:=λe=>∀x,Expr.Compare.elim e x _=true->M e) e (cy h) λc b a d J=>k c b a d)
noncomputable def oI(e:Expr)(p:Expr->List Expr->List Keyword->Pos->Bool):Bool:=if h:e.ctorIdx=16 then Expr.Call.elim e h (λd c b a=>p d c b a) else false
theorem oQ{e p}{M:Expr->Prop}(h:oI e p=true)(k:∀d c b a,p d c b a=true->M (.Call d c b a)):M e:=(cu h).elim (Expr.Call.elim (motive_1:=λe=>∀x,Expr.Call.elim e x (p)=true->M e) e (cy h) λd c b a J=>k d c b a)
noncomputable def j6(e:Expr)(p:Const->Bool):Bool:=if h:e.ctorIdx=19 then Expr.Constant.elim (motive_1:=λJ=>Bool) e h (λa J J=>p a) else false
theorem yj{e p}{M:Expr->Prop}(h:j6 e p=true)(k:∀a c b,p a=true->M (.Constant a c b)):M e:=(cu h).elim (Expr.Constant.elim (motive_1:=λe=>∀x,Expr.Constant.elim e x _=true->M e) e (cy h) λa c b J=>k a c b)
noncomputable def oq(e:Expr)(p:Expr->Str->Pos->Bool):Bool:=if h:e.ctorIdx=20 then Expr.Attribute.elim e h (λc b a=>p c b a) else false
theorem qO{e p}{M:Expr->Prop}(h:oq e p=true)(k:∀c b a,p c b a=true->M (.Attribute c b a)):M e:=(cu h).elim (Expr.Attribute.elim (motive_1:=λe=>∀x,Expr.Attribute.elim e x (p)=true->M e) e (cy h) λc b a J=>k c b a)
noncomputable def kH(e:Expr)(p:Expr->Expr->Bool):Bool:=if h:e.ctorIdx=21 then Expr.Subscript.elim (motive_1:=λJ=>Bool) e h (λb a J=>p b a) else false
theorem nB{e p}{M:Expr->Prop}(h:kH e p=true)(k:∀b a c,p b a=true->M (.Subscript b a c)):M e:=(cu h).elim (Expr.Subscript.elim (motive_1:=λe=>∀x,Expr.Subscript.elim e x _=true->M e) e (cy h) λb a c J=>k b a c)
noncomputable def asName(e:Expr)(p:Str->Bool):Bool:=if h:e.ctorIdx=23 then Expr.Name.elim (motive_1:=λJ=>Bool) e h (λa J=>p a) else false
theorem oP{e p}{M:Expr->Prop}(h:asName e p=true)(k:∀a b,p a=true->M (.Name a b)):M e:=(cu h).elim (Expr.Name.elim (motive_1:=λe=>∀x,Expr.Name.elim e x _=true->M e) e (cy h) λa b J=>k a b)
noncomputable def Hp(e:Expr)(p:List Expr->Bool):Bool:=if h:e.ctorIdx=24 then Expr.List.elim (motive_1:=λJ=>Bool) e h (λa J=>p a) else false
theorem By{e p}{M:Expr->Prop}(h:Hp e p=true)(k:∀a b,p a=true->M (.List a b)):M e:=(cu h).elim (Expr.List.elim (motive_1:=λe=>∀x,Expr.List.elim e x _=true->M e) e (cy h) λa b J=>k a b)
noncomputable def pj(e:Expr)(p:List Expr->Bool):Bool:=if h:e.ctorIdx=25 then Expr.Tuple.elim (motive_1:=λJ=>Bool) e h (λa J J=>p a) else false
theorem m3{e p}{M:Expr->Prop}(h:pj e p=true)(k:∀a c b,p a=true->M (.Tuple a c b)):M e:=(cu h).elim (Expr.Tuple.elim (motive_1:=λe=>∀x,Expr.Tuple.elim e x _=true->M e) e (cy h) λa c b J=>k a c b)
noncomputable def v9(e:Expr)(p:Option Expr->Option Expr->Option Expr->Bool):Bool:=if h:e.ctorIdx=26 then Expr.Slice.elim (motive_1:=λJ=>Bool) e h (λc b a J=>p c b a) else false
theorem CP{e p}{M:Expr->Prop}(h:v9 e p=true)(k:∀c b a d,p c b a=true->M (.Slice c b a d)):M e:=(cu h).elim (Expr.Slice.elim (motive_1:=λe=>∀x,Expr.Slice.elim e x _=true->M e) e (cy h) λc b a d J=>k c b a d)
noncomputable def Fp(e:Stmt)(p:Option Expr->Bool):Bool:=if h:e.ctorIdx=3 then Stmt.Return.elim (motive_2:=λJ=>Bool) e h (λa J=>p a) else false
theorem YV{e p}{M:Stmt->Prop}(h:Fp e p=true)(k:∀a b,p a=true->M (.Return a b)):M e:=(cu h).elim (Stmt.Return.elim (motive_2:=λe=>∀x,Stmt.Return.elim e x _=true->M e) e (cy h) λa b J=>k a b)
noncomputable def yz(e:Stmt)(p:List Expr->Bool):Bool:=if h:e.ctorIdx=4 then Stmt.Delete.elim (motive_2:=λJ=>Bool) e h (λa J=>p a) else false
theorem Jc{e p}{M:Stmt->Prop}(h:yz e p=true)(k:∀a b,p a=true->M (.Delete a b)):M e:=(cu h).elim (Stmt.Delete.elim (motive_2:=λe=>∀x,Stmt.Delete.elim e x _=true->M e) e (cy h) λa b J=>k a b)
noncomputable def ny(e:Stmt)(p:List Expr->Expr->Bool):Bool:=if h:e.ctorIdx=5 then Stmt.Assign.elim (motive_2:=λJ=>Bool) e h (λb a J=>p b a) else false
theorem qy{e p}{M:Stmt->Prop}(h:ny e p=true)(k:∀b a c,p b a=true->M (.Assign b a c)):M e:=(cu h).elim (Stmt.Assign.elim (motive_2:=λe=>∀x,Stmt.Assign.elim e x _=true->M e) e (cy h) λb a c J=>k b a c)
noncomputable def yQ(e:Stmt)(p:Expr->Operator->Expr->Bool):Bool:=if h:e.ctorIdx=7 then Stmt.AugAssign.elim (motive_2:=λJ=>Bool) e h (λc b a J=>p c b a) else false
theorem Ft{e p}{M:Stmt->Prop}(h:yQ e p=true)(k:∀c b a d,p c b a=true->M (.AugAssign c b a d)):M e:=(cu h).elim (Stmt.AugAssign.elim (motive_2:=λe=>∀x,Stmt.AugAssign.elim e x _=true->M e) e (cy h) λc b a d J=>k c b a d)
noncomputable def Io(e:Stmt)(p:Expr->Expr->List Stmt->List Stmt->Bool):Bool:=if h:e.ctorIdx=9 then Stmt.For.elim (motive_2:=λJ=>Bool) e h (λd c b a J=>p d c b a) else false
theorem N4{e p}{M:Stmt->Prop}(h:Io e p=true)(k:∀d c b a f,p d c b a=true->M (.For d c b a f)):M e:=(cu h).elim (Stmt.For.elim (motive_2:=λe=>∀x,Stmt.For.elim e x _=true->M e) e (cy h) λd c b a f J=>k d c b a f)
noncomputable def HB(e:Stmt)(p:Expr->List Stmt->List Stmt->Bool):Bool:=if h:e.ctorIdx=11 then Stmt.While.elim (motive_2:=λJ=>Bool) e h (λc b a J=>p c b a) else false
theorem J5{e p}{M:Stmt->Prop}(h:HB e p=true)(k:∀c b a d,p c b a=true->M (.While c b a d)):M e:=(cu h).elim (Stmt.While.elim (motive_2:=λe=>∀x,Stmt.While.elim e x _=true->M e) e (cy h) λc b a d J=>k c b a d)
noncomputable def DB(e:Stmt)(p:Expr->List Stmt->List Stmt->Bool):Bool:=if h:e.ctorIdx=12 then Stmt.If.elim (motive_2:=λJ=>Bool) e h (λc b a J=>p c b a) else false
theorem U9{e p}{M:Stmt->Prop}(h:DB e p=true)(k:∀c b a d,p c b a=true->M (.If c b a d)):M e:=(cu h).elim (Stmt.If.elim (motive_2:=λe=>∀x,Stmt.If.elim e x _=true->M e) e (cy h) λc b a d J=>k c b a d)
noncomputable def Ci(e:Stmt)(p:Expr->Bool):Bool:=if h:e.ctorIdx=24 then Stmt.Expr.elim (motive_2:=λJ=>Bool) e h (λa J=>p a) else false
theorem Kh{e p}{M:Stmt->Prop}(h:Ci e p=true)(k:∀a b,p a=true->M (.Expr a b)):M e:=(cu h).elim (Stmt.Expr.elim (motive_2:=λe=>∀x,Stmt.Expr.elim e x _=true->M e) e (cy h) λa b J=>k a b)
noncomputable def one{a:Type}(l:List a)(p:a->Bool):Bool:=match l with|[x]=>p x|_=>false
theorem fu{a p l}{M:List a->Prop}(h:one l p=true)(k:∀x,p x=true->M [x]):M l:=by
 cases l with
 |nil=>exact absurd h aaY
 |cons x r=>
  cases r with
  |nil=>exact k x h
  |cons=>exact absurd h aaY
noncomputable def j7(n:Nat)(e:Expr):Bool:=!Nat.beq e.ctorIdx n
section
namespace W
open Do
def bY(den:aR->Loc->Do AV)(a:Kd->Expr->Bool):Prop:=∀{g n c A env L β b σ s Q e},Run g n c A env L β b σ s->a env.kindOf e=true->den c L Q σ->wp g A (eval e env) (PV g s β b Q) s
def i9(den:aR->Loc->Do AV)(a:Kd->Expr->Bool):Prop:=∀{g n c A env L β b σ s Q T e},Run g n c A env L β b σ s->a env.kindOf e=true->den c L Q σ->(∀v σ,Q v σ->eG v T σ)->wp g A (isTrue e env (eval e env)) (TV g s β b T) s
structure X where
 den:aR->Loc->Do AV
 aN:Kd->Expr->Bool
 val:bY den aN
 yK:i9 den aN
def Pl(e:Expr):Prop:=∀env whole,isTrue e env whole=(do let v ←whole;standAt e.pos;holding [v] (truthy v))
section
variable{g:Gl}{n:Nat}{Φ:aR}{A:Around}{env:Env}{L:Loc}{β δ ah ax:List Addr}{σ aj:Sg}{s s':Shared}{Q:PX}
theorem i9.Ue(f:bY den c)(pl:∀{K e},c K e=true->Pl e):i9 den c:=λR d i h=>by
 rw[pl d]
 refine aaV (wm (f R d i) λr s' p=>?_)
 obtain⟨v,aj,ah,ax,a,S,x,q⟩:=p
 refine aaV (abL (abQ (wm (sU a x (h _ _ q)) λb j q=>?_)))
 obtain⟨q,t,e⟩:=q
 exact e▸⟨_,_,_,a.toks t,S,q⟩
noncomputable def X.by{den:aR->Loc->Do AV}{a:Kd->Expr->Bool}(b:bY den a)(pl:∀{K e},a K e=true->Pl e):X:=⟨den,a,b,i9.Ue b pl⟩
theorem cD{x:X}{e P}(R:Run g n Φ A env L β δ σ s)(c:x.aN env.kindOf e=true)(b:x.den Φ L Q σ)
  (k:∀{v r aj s' ah ax},Run g n Φ A env L ah ax aj s'->Step bB s.heap β δ s'.heap ah ax->RV s'.heap ah v r->Q v aj->P r s'):wp g A (eval e env) P s:=
 wm (x.val R c b) λr s' p=>by
  obtain⟨v,aj,ah,ax,a,S,z,q⟩:=p;exact k (R.next a S) S z q
theorem uY{x y:X}{e i}{P:Value->Value->Shared->Prop}{Q:AV->PX}(R:Run g n Φ A env L β δ σ s)(m:x.aN env.kindOf e=true)(l:y.aN env.kindOf i=true)(p:x.den Φ L (λa=>y.den Φ L (Q a)) σ)
  (k:∀{a b r t aj s' ah ax},Run g n Φ A env L ah ax aj s'->Step bB s.heap β δ s'.heap ah ax->RV s'.heap ah a r->RV s'.heap ah b t->Q a b aj->P r t s'):wp g A (eval e env) (λr s'=>wp g A (eval i env) (P r) s') s:=
 cD R m p λh d j q=>cD h l q λf c=>k f (d.trans c) (j.step c)
theorem kC{x:X}{e P T}(R:Run g n Φ A env L β δ σ s)(f:x.aN env.kindOf e=true)(d:x.den Φ L Q σ)(c:∀v σ,Q v σ->eG v T σ)
  (k:∀b{aj s' ah ax},Run g n Φ A env L ah ax aj s'->Step bB s.heap β δ s'.heap ah ax->T b aj->P b s'):wp g A (isTrue e env (eval e env)) P s:=
 wm (x.yK R f d c) λr s' p=>by
  obtain⟨aj,ah,ax,a,S,q⟩:=p;exact k _ (R.next a S) S q
theorem Run.toks(R:Run g n Φ A env L β δ σ s)(t):Run g n Φ A env L β δ σ {s with toks:=t}:=⟨R.iX,R.room,R.at_.toks t,R.fr⟩
theorem I4(h:rB l F σ):∃b,F b σ/\∀T,rB l T σ↔T b σ:=by
 cases l with
 |nil=>exact⟨_,h,λJ=>.rfl⟩
 |cons=>exact⟨_,h.2,λJ=>and_iff_right h.1⟩
theorem Ga(h:eG v F σ):∃b,F b σ/\∀T,eG v T σ↔T b σ:=by
 cases v with
 |none=>exact⟨_,h,λJ=>.rfl⟩
 |bool=>exact⟨_,h,λJ=>.rfl⟩
 |int i=>
  unfold eG at h⊢;dsimp only at h⊢;cases e:decide (i=0)<;>rw[e] at h<;>exact⟨_,h,λJ=>.rfl⟩
 |tup l=>exact I4 h
 |loc k=>
  obtain⟨o,e,h⟩:=ej h;cases o with
  |list l=>exact(I4 h).imp λb q=>⟨q.1,λT=>(MR e).trans (q.2 T)⟩
  |_=>exact h.elim
 |str y=>
  obtain⟨b,e,q⟩:=gh h;exact⟨b,q,λT=>LZ e⟩
 |raw _=>exact False.elim h
theorem LK(h:eG v F σ)(k:∀b,F b σ->T b σ):eG v T σ:=(Ga h).elim λb q=>(q.2 T).mpr (k b q.1)
end
def Yl(Q:PX)(b:Bool):Sg->Prop:=Q (.bool !b)
def kN(Q:PX)(v:AV):Sg->Prop:=eG v (Yl Q)
def Q6(x y:X)(a:aR)(L:Loc)(Q:PX)(b:Bool)(σ:Sg):Prop:=match b with|true=>x.den a L Q σ|false=>y.den a L Q σ
def kI(x y:X)(a:aR)(L:Loc)(Q:PX)(v:AV):Sg->Prop:=eG v (Q6 x y a L Q)
def Y8(f:AV->AV->Do AV)(a:AV)(Q:PX)(b:AV):Sg->Prop:=f a b Q
def k2(f:AV->AV->Do AV)(y:X)(b:aR)(L:Loc)(Q:PX)(a:AV):Sg->Prop:=y.den b L (Y8 f a Q)
def Dz(s:Bool)(k:Do AV)(Q:PX)(v:AV)(b:Bool)(σ:Sg):Prop:=match s with
 |true=>(match b with|true=>Q v σ|false=>k Q σ)
 |false=>(match b with|true=>k Q σ|false=>Q v σ)
def ZA(s:Bool)(k:Do AV)(Q:PX)(b:Bool)(σ:Sg):Prop:=match s with
 |true=>(match b with|true=>Q (.bool true) σ|false=>k Q σ)
 |false=>(match b with|true=>k Q σ|false=>Q (.bool false) σ)
def kB(s:Bool)(k:Do AV)(Q:PX)(v:AV):Sg->Prop:=match v with
 |.bool b=>ZA s k Q b
 |v=>eG v (Dz s k Q v)
theorem JL(h:kB s k Q v σ):eG v (Dz s k Q v) σ:=by
 cases v with
 |bool b=>cases s<;>cases b<;>exact h
 |_=>exact h
def kZ(s:Bool)(a:aR)(L:Loc):List X->Do AV
 |[]=>no
 |x::r=>match r with
  |[]=>x.den a L
  |_=>λQ=>x.den a L (kB s (kZ s a L r) Q)
noncomputable def jz(K:Kd):List X->List Expr->Bool
 |[],es=>es.isEmpty
 |x::r,es=>match es with
  |[]=>false
  |e::es=>x.aN K e&&jz K r es
theorem uW{f}{x y:X}{c L Q σ}(h:x.den c L (k2 f y c L Q) σ):x.den c L (λa=>y.den c L λb=>f a b Q) σ:=h
theorem u9(k:∀{g A env s t pos}{P:Value->Shared->Prop},(∀r t,(∀h β,RV h β v r)->P r {s with toks:=t})->wp g A (eval (.Constant c t pos) env) P s):bY (λJ J=>ret v) (λJ e=>j6 e λd=>d==c):=λR f b=>by
 apply yj f;exactλd t pos a=>abc.mp a▸k λr t x=>.tok R.at_ t (x ..) b
theorem uT(h:(j6 e λd=>d==c)=true):Pl e:=yj h λJ J J J J J=>Y
namespace X
theorem VS:bY (λJ J=>no) (λJ J=>true):=λJ J h=>h.elim
theorem Mm:i9 (λJ J=>no) (λJ J=>true):=λJ J h=>h.elim
noncomputable def gV:X:=⟨λJ J=>no,λJ J=>true,VS,Mm⟩
theorem QF:bY (λJ J=>ret .none) (λJ e=>j6 e λd=>d==.none):=u9 (v:=.none) λk=>wpAny_Constant_none (k _ _ λJ J=>Y)
def none:X:=.by @QF uT
theorem Ux(i):bY (λJ J=>ret (.int i)) (λJ e=>j6 e λd=>d==.int i):=u9 (v:=.int i) λk=>wpAny_Constant_int (k _ _ λJ J=>⟨_,Y⟩)
def int(i:Int):X:=.by (@Ux i) uT
theorem WA(i):bY (λJ J=>ret (.str i)) (λJ e=>j6 e λd=>d==.str i):=u9 (v:=.str i) λk=>wpAny_Constant_str (k _ _ λJ J=>⟨_,Y⟩)
def str(i:Str):X:=.by (@WA i) uT
theorem XT(i):bY (λJ J=>ret (.bool i)) (λJ e=>j6 e λd=>d==.bool i):=u9 (v:=.bool i) λk=>wpAny_Constant_bool (k _ _ λJ J=>Y)
def bool(i:Bool):X:=.by (@XT i) uT
end X
section
variable{g:Gl}{n:Nat}{Φ:aR}{A:Around}{env:Env}{L:Loc}{β δ ah ax:List Addr}{σ aj:Sg}{s s':Shared}
def jE(K:Kd)(x:V):Bool:=K (nm x)==some .local||K (nm x)==some .cell
def El(K:Kd)(x:V):Bool:=jE K x||K (nm x)==some .free&&!(nm x==("__classdict__"))
theorem kQ(h:(a||b)=true):a=true\/b=true:=Bool.or_eq_true_iff.mp h
theorem Jk(R:Run g n Φ A env L β δ σ s)(a:El env.kindOf x=true)(b:L.lookup x=some v)(k:∀r,RV s.heap β v r->P r s):wp g A (loadName env (nm x)) P s:=by
 rcases kQ a with a|a
 .rcases kQ a with a|a<;>have a:=abc.mp a
  .obtain⟨m,f,h⟩:=R.fr.ns;obtain⟨r,j,i⟩:=h x v b a;exact wpAny_loadName_local R.fr.kind a f j (k r i)
  .obtain⟨c,o,C⟩:=R.fr.cell _ (.inl a);obtain⟨r,e,d⟩:=C.val x v Y b;exact wpAny_loadName_cell R.fr.kind a C.look (e▸C.cell) (k r d)
 .obtain⟨a,l⟩:=af a;have a:=abc.mp a;obtain⟨c,o,C⟩:=R.fr.cell _ (.inr a);obtain⟨r,e,d⟩:=C.val x v Y b;exact wpAny_loadName_free R.fr.kind a C.look (e▸C.cell) (k r d) ((Bool.not_eq_true' _).mp l)
end
theorem gJ(h:(!b)=true):b=false:=(Bool.not_eq_true' _).mp h
namespace X
theorem S4(x):bY (λJ L=>of (L.lookup x)) (λK e=>asName e λc=>c==nm x&&El K x&&!(nm x==("__debug__":Str))):=λR f d=>by
  apply oP f;intro c pos a
  obtain⟨a,h⟩:=af a
  obtain⟨a,b⟩:=af a
  obtain⟨v,e,q⟩:=yb d
  exact(abc.mp a)▸wpAny_Name (Jk R b e λr z=>.intro R.at_ z q) (gJ h)
theorem GB{p e}(h:asName e p=true):Pl e:=oP h λJ J J J J=>Y
def v(x:V):X:=.by (@S4 x) GB
theorem QN(x:X):bY (λd L Q=>x.den d L (kN Q)) (λK e=>pI e λop y=>op==.Not&&x.aN K y):=λR h f=>by
  apply uo h;intro op y pos a
  rw[abc.mp (af a).1]
  refine wpAny_UnaryOp (cD R (af a).2 f λc S z q=>not_value (wm (sU c.at_ z q) λb i p=>?_))
  obtain⟨q,t,e⟩:=p
  exact e▸(PV.tok (v:=.bool !b) c.at_ t Y q).after S
theorem UC(x:X):i9 (λa L Q=>x.den a L (kN Q)) (λK e=>pI e λop y=>op==.Not&&x.aN K y):=λ{g n a A env L β l σ s Q T e}R f d i=>by
  apply uo f;intro op y pos c
  exact(abc.mp (af c).1)▸wpAny_isTrue_Not (kC (T:=λb=>T !b) R (af c).2 d (λv σ h=>LK h λb=>i _ _) λJ=>λj S q=>⟨_,_,_,j.at_,S,q⟩)
def not_(x:X):X:=⟨_,_,@QN x,@UC x⟩
theorem ite_val(c x y:X):bY (λf L Q=>c.den f L (kI x y f L Q)) (λK e=>xS e λt a b=>c.aN K t&&(x.aN K a&&y.aN K b)):=λR l j=>by
 apply JJ l;exactλt a b pos d=>wpAny_IfExp (kC R (af d).1 j (λJ J h=>h) λb=>λi S q=>by
  cases b
  .exact wm (y.val i (af (af d).2).2 q) λJ J p=>.after S p
  .exact wm (x.val i (af (af d).2).1 q) λJ J p=>.after S p)
theorem OC(c x y:X):i9 (λf L Q=>c.den f L (kI x y f L Q)) (λK e=>xS e λt a b=>c.aN K t&&(x.aN K a&&y.aN K b)):=λR m l i=>by
  apply JJ m;intro t a b pos d
  refine aaV (kC R (af d).1 l (λJ J h=>h) λb=>λj S q=>?_)
  cases b
  .exact wm (y.yK j (af (af d).2).2 q i) λJ J p=>.after S p
  .exact wm (x.yK j (af (af d).2).1 q i) λJ J p=>.after S p
def ite(c x y:X):X:=⟨_,_,@ite_val c x y,@OC c x y⟩
end X
end W
end
section
namespace W
open Do
noncomputable def kK:Bool->BoolOp
 |true=>.Or
 |false=>.And
section
variable{g:Gl}{n:Nat}{Φ:aR}{A:Around}{env:Env}{L:Loc}{β δ ah ax:List Addr}{σ aj:Sg}{s s':Shared}{Q:PX}
def BV(stop:Bool)(l:List X):Prop:=∀{g n Φ A env L β δ σ s Q pos es},Run g n Φ A env L β δ σ s->jz env.kindOf l es=true->kZ stop Φ L l Q σ->wp g A (boolOp pos (kK stop) (evalEach es env)) (PV g s β δ Q) s
theorem all_cons{K x l es}{M:List Expr->Prop}(h:jz K (x::l) es=true)(k:∀e r,x.aN K e=true->jz K l r=true->M (e::r)):M es:=by
 cases es with
 |nil=>exact absurd h aaY
 |cons e r=>exact k e r (af h).1 (af h).2
theorem SJ{K x l es}{P:Prop}(h:jz K (x::l) es=true)(k:∀e r,es=e::r->jz K (x::l) (e::r)=true->P):P:=by
 cases es with
 |nil=>exact absurd h aaY
 |cons e r=>exact k e r Y h
theorem QP{stop x}:BV stop [x]:=λR b a=>by
 apply all_cons b;intro e r d c
 exact(abD.mp c)▸x.val R d a
theorem W6{stop x y l}(j:BV stop (y::l)):BV stop (x::y::l):=λ{g n Φ A env L β δ σ s Q pos es}R u m=>by
 apply all_cons u;intro e r w h
 apply SJ h;rintro D r rfl h
 refine aaV (cD R w m λ{v B}_ s₁ _ _ d f z q=>aaV (abL (aaV (abQ (wm (sU d.at_ z (JL q)) λb i p=>?_)))))
 obtain⟨q,t,rfl⟩:=p
 have c:=Run.toks d t
 have a:Step bB s.heap β δ ({s₁ with toks:=t}).heap _ _:=f
 have more:kZ stop Φ L _ Q _->wp g A (boolOp pos ..) (PV g s β δ Q) {s₁ with toks:=t}:=λq=>wm (j c h q) λJ J=>.after a
 have done:Q v _->wp g A _ (PV g s β δ Q) {s₁ with toks:=t}:=λq=>abh (.after a (.intro c.at_ z q))
 cases stop<;>cases b
 .exact done q
 .exact more q
 .exact more q
 .exact done q
theorem Kt(stop l):BV stop l:=by
 induction l with
 |nil=>exactλJ J h=>h.elim
 |cons x l a=>
  cases l with
  |nil=>exact QP
  |cons=>exact W6 a
def BT(stop:Bool)(l:List X):Prop:=∀{g n Φ A env L β δ σ s Q T es},Run g n Φ A env L β δ σ s->jz env.kindOf l es=true->kZ stop Φ L l Q σ->(∀v σ,Q v σ->eG v T σ)->wp g A (allTrue (kK stop) es env) (TV g s β δ T) s
theorem CL(h:wp g A (isTrue e env (eval e env)) (λb s'=>(b=stop->P b s')/\(b=!stop->wp g A (allTrue (kK stop) r env) P s')) s):wp g A (allTrue (kK stop) (e::r) env) P s:=by
 cases stop
 .refine wpAny_allTrue_And_cons (wm h λb s' p=>?_);cases b
  .exact p.1 Y
  .exact p.2 Y
 .refine wpAny_allTrue_Or_cons (wm h λb s' p=>?_);cases b
  .exact p.2 Y
  .exact p.1 Y
theorem T5(h:P (!stop) s):wp g A (allTrue (kK stop) [] env) P s:=by
 cases stop
 .exact wpAny_allTrue_And_nil h
 .exact wpAny_allTrue_Or_nil h
theorem VD{stop x}:BT stop [x]:=λR d c f=>by
 apply all_cons d;intro e r i h
 exact(abD.mp h)▸CL (kC R i c f λb=>λa S q=>⟨λJ=>⟨_,_,_,a.at_,S,q⟩,λe=>T5 (e▸⟨_,_,_,a.at_,S,q⟩)⟩)
theorem Pp{stop x y l}(d:BT stop (y::l)):BT stop (x::y::l):=λ{g n Φ A env L β δ σ s Q T es}R i f a=>by
 apply all_cons i;intro e r m j
 refine CL (kC (T:=λb σ=>(b=stop->T b σ)/\(b=!stop->kZ stop Φ L _ Q σ)) R m f (λv σ h=>?_) λb=>λc S q=>⟨λe=>⟨_,_,_,c.at_,S,q.1 e⟩,λe=>wm (d c j (q.2 e) a) λJ J=>.after S⟩)
 obtain⟨b,q,k⟩:=Ga (JL h)
 refine(k _).mpr ⟨λe=>(k T).mp (a v σ ?_),λe=>?_⟩
 .subst e;cases b<;>exact q
 .cases stop<;>subst e<;>exact q
end
end W
end
section
namespace W
open Do
def gy(op:Operator)(f:AV->AV->Do AV):Prop:=∀{g n A β c σ s Q x y a b},At g β c σ s->dI A n->f x y Q σ->RV s.heap β x a->RV s.heap β y b->wp g A (binaryOp op a b) (PV g s β c Q) s
def fp(op:CmpOp)(f:AV->AV->Do AV):Prop:=∀{g n A β c σ s Q x y a b},At g β c σ s->dI A n->f x y Q σ->RV s.heap β x a->RV s.heap β y b->wp g A (compareOp op a b) (PV g s β c Q) s
def jZ(op:Operator)(f:AV->AV->Do AV):Prop:=∀{g n A β c σ s Q x y a b},At g β c σ s->dI A n->f x y Q σ->RV s.heap β x a->RV s.heap β y b->wp g A (inplaceOp op a b) (PV g s β c Q) s
def rp(op:UnaryOp)(f:AV->Option AV):Prop:=∀{g n A β b σ s Q x v a},At g β b σ s->dI A n->f x=some v->Q v σ->RV s.heap β x a->wp g A (unaryOp op a) (PV g s β b Q) s
def S9(f:AV->Option AV)(Q:PX)(a:AV):Sg->Prop:=eF (f a) Q
namespace X
theorem XY(stop l):bY (λb L=>kZ stop b L l) (λK e=>wB e λop es=>op==kK stop&&jz K l es):=λR d c=>by
 apply Fo d;intro op es pos a
 exact(abc.mp (af a).1)▸Kt stop l R (af a).2 c
theorem Oj(stop l):BT stop l:=by
 induction l with
 |nil=>exactλJ J h=>h.elim
 |cons x l a=>
  cases l with
  |nil=>exact VD
  |cons=>exact Pp a
theorem OL(stop l):i9 (λb L=>kZ stop b L l) (λK e=>wB e λop es=>op==kK stop&&jz K l es):=λR d c f=>by
 apply Fo d;intro op es pos a
 exact(abc.mp (af a).1)▸Oj stop l R (af a).2 c f
def boolop(stop:Bool)(l:List X):X:=⟨_,_,@XY stop l,@OL stop l⟩
abbrev and_(l:List X):X:=.boolop false l
abbrev b4(l:List X):X:=.boolop true l
theorem YB{op f}(ok:gy op f)(x y:X):bY (λd L Q=>x.den d L (k2 f y d L Q)) (λK e=>zT e λl o r=>o==op&&(x.aN K l&&y.aN K r)):=λR m j=>by
 apply GQ m;intro l o r pos c
 rw[abc.mp (af c).1]
 exact wpAny_BinOp (uY R (af (af c).2).1 (af (af c).2).2 (uW j) λa b i h q=>wm (ok a.at_ a.room q i h) λJ J=>.after b)
theorem TR{p e}(h:zT e p=true):Pl e:=GQ h λJ J J J J J J=>Y
def bin{op}(f)(ok:gy op f)(x y:X):X:=.by (@YB op f @ok x y) TR
def wG(op:CmpOp)(x y:X)(K:Kd)(e:Expr):Bool:=De e λl os a=>one os λo=>one a λr=>o==op&&(!behindInMarks o r&&(x.aN K l&&y.aN K r))
theorem ER{op x y K e}{M:Expr->Prop}(h:wG op x y K e=true)(k:∀l r pos,behindInMarks op r=false->x.aN K l=true->y.aN K r=true->M (.Compare l [op] [r] pos)):M e:=by
 apply Kj h;intro l os b pos a;apply fu a;intro o a;apply fu a;intro r a;have e:=abc.mp (af a).1;subst e;exact k l r pos (gJ (af (af a).2).1) (af (af (af a).2).2).1 (af (af (af a).2).2).2
theorem YR{op f}(ok:fp op f)(x y):bY (λc L Q=>x.den c L (k2 f y c L Q)) (wG op x y):=λR j i=>by
 apply ER j;intro l r pos s p m
 exact wpAny_Compare1 (uY R p m (uW i) λa b h d q=>wm (ok a.at_ a.room q h d) λJ J=>.after b) s
theorem Se{op f}(ok:fp op f)(x y):i9 (λh L Q=>x.den h L (k2 f y h L Q)) (wG op x y):=λR u s w=>by
 apply ER u;intro l r pos D B A
 refine wpAny_isTrue_Compare1 (uY R B A (uW s) λc d m j q=>wm (ok c.at_ c.room q m j) λU i p=>?_) D
 obtain⟨v,H,N,M,a,S,z,q⟩:=p
 refine wm (sU a z (w _ _ q)) λb T q=>?_
 obtain⟨q,t,e⟩:=q
 exact e▸⟨_,_,_,a.toks t,d.trans S,q⟩
def cmp{op}(f)(ok:fp op f)(x y:X):X:=⟨_,_,@YR op f @ok x y,@Se op f @ok x y⟩
theorem WW{op f}(ok:rp op f)(x:X):bY (λc L Q=>x.den c L (S9 f Q)) (λK e=>pI e λo y=>o==op&&x.aN K y):=λR h d=>by
 apply uo h;intro o y pos a
 rw[abc.mp (af a).1]
 refine wpAny_UnaryOp (cD R (af a).2 d λb S z q=>?_)
 obtain⟨v,e,q⟩:=gh q
 exact wm (ok b.at_ b.room e q z) λJ J=>.after S
theorem LB{op}(b:op≠.Not){p:Expr->Bool}{e}(h:(pI e λo y=>o==op&&p y)=true):Pl e:=by
 apply uo h;intro o y pos a;rw[abc.mp (af a).1];cases op with
 |Not=>exact absurd Y b
 |_=>exactλJ J=>Y
def un{op}(f)(ok:rp op f)(a:op≠.Not)(x:X):X:=.by (@WW op f @ok x) (LB a)
end X
def b_(f:Int->Int->Option AV)(x y:AV):Do AV:=match x with
 |.int a=>match y with
  |.int b=>eF (f a b)
  |_=>no
 |_=>no
def Fx(v:AV)(r:Value):Prop:=∀h β,RV h β v r
def Pt(P:Value->Shared->Prop)(s:Shared)(v:AV):Prop:=∀r t,Fx v r->P r {s with toks:=t}
section
variable{f:Int->Int->Option AV}{g:Gl}{β δ:List Addr}{σ:Sg}{s:Shared}{Q:PX}{x y:AV}{a b:Value}{M:Value->Value->Prop}
theorem zb(A:At g β δ σ s)(h:b_ f x y Q σ)(d:RV s.heap β x a)(c:RV s.heap β y b)(k:∀i j u w v,f i j=some v->Pt (PV g s β δ Q) s v->M (.int i u) (.int j w)):M a b:=by
 cases x with
 |int i=>
  cases y with
  |int j=>
   obtain⟨v,e,q⟩:=gh h;apply eL d;intro u;apply eL c;intro w;exact k i j u w v e λr t x=>.tok A t (x ..) q
  |_=>exact h.elim
 |_=>exact h.elim
end
theorem ke{op f}(k:∀{g A s P i j u w v},f i j=some v->Pt P s v->wp g A (binaryOp op (.int i u) (.int j w)) P s):gy op (b_ f):=λa J h c b=>by apply zb a h c b;exactλJ J J J J e q=>k e q
theorem C2{op f}(k:∀{g A s P i j u w v},f i j=some v->Pt P s v->wp g A (inplaceOp op (.int i u) (.int j w)) P s):jZ op (b_ f):=λa J h c b=>by apply zb a h c b;exactλJ J J J J e q=>k e q
theorem uf{op f}(k:∀{g A s P i j u w v},f i j=some v->Pt P s v->wp g A (compareOp op (.int i u) (.int j w)) P s):fp op (b_ f):=λa J h c b=>by apply zb a h c b;exactλJ J J J J e q=>k e q
theorem vt{P s b v}(e:some (.bool b)=some v)(q:Pt P s v):P (.bool b) s:=q _ _ (aa0 e▸λJ J=>Y)
theorem gb{P s}{i v t u}(e:some (.int i)=some v)(q:Pt P s v):P (.int i t) {s with toks:=u}:=q _ _ (aa0 e▸λJ J=>⟨_,Y⟩)
theorem p8{a:Type}{p}[Decidable p]{x}{v:a}(h:(if p then x else none)=some v):p/\x=some v:=by
 by_cases c:p
 .rw[abn c] at h;exact⟨c,h⟩
 .rw[aa_ c] at h;exact absurd h.symm (aa8 _)
theorem qV{a:Type}{p}[Decidable p]{x}{v:a}(h:(if p then none else x)=some v):¬p/\x=some v:=by
 by_cases c:p
 .rw[abn c] at h;exact absurd h.symm (aa8 _)
 .rw[aa_ c] at h;exact⟨c,h⟩
theorem Kq:fp .Lt (b_ λa b=>some (.bool (decide (a<b)))):=uf λe q=>PySem.P.lt_int (vt e q)
theorem Lz:fp .LtE (b_ λa b=>some (.bool (decide (a<=b)))):=uf λe q=>PySem.P.le_int (vt e q)
theorem Xc:fp .Gt (b_ λa b=>some (.bool (decide (a>b)))):=uf λe q=>PySem.P.gt_int (vt e q)
theorem Vy:fp .GtE (b_ λa b=>some (.bool (decide (a≥b)))):=uf λe q=>PySem.P.ge_int (vt e q)
theorem Na:gy .Sub (b_ λa b=>some (.int (a-b))):=ke λe q=>sub_int' (gb e q)
theorem Z8:gy .Mult (b_ λa b=>if 0<=a/\a<1000 then some (.int (a*b)) else none):=ke λe q=>mul_int (gb (p8 e).2 q) (.of_left (intBits_le_64 (Int.le_trans () (p8 e).1.1) (Int.lt_trans (p8 e).1.2 ())))
theorem OA:gy .Mod (b_ λa b=>if b=0 then none else some (.int (a.fmod b))):=ke λe q=>mod_int' (qV e).1 (gb (qV e).2 q)
theorem TP:gy .FloorDiv (b_ λa b=>if b=0\/Builtin.divisionGoesByPylong a b=true then none else some (.int (a.fdiv b))):=ke λe q=>floordiv_int (λz=>(qV e).1 (.inl z)) (gb (qV e).2 q) (.inl ((Bool.not_eq_true _).mp λz=>(qV e).1 (.inr z)))
theorem Pq:gy .BitAnd (b_ λa b=>some (.int (Builtin.bitAnd a b))):=ke λe q=>and_int (gb e q)
theorem YU:gy .BitOr (b_ λa b=>some (.int (Builtin.bitOr a b))):=ke λe q=>or_int (gb e q)
theorem Ua:gy .BitXor (b_ λa b=>some (.int (Builtin.bitXor a b))):=ke λe q=>xor_int (gb e q)
theorem UG:gy .RShift (b_ λa b=>if 0<=b then some (.int (a.fdiv (2^b.toNat))) else none):=ke λe q=>rshift_int (p8 e).1 (gb (p8 e).2 q)
theorem Us:jZ .Sub (b_ λa b=>some (.int (a-b))):=C2 λe q=>PySem.P.isub_int (gb e q)
theorem NI:jZ .BitOr (b_ λa b=>some (.int (Builtin.bitOr a b))):=C2 λe q=>ior_int (gb e q)
noncomputable def pV(f:Int->Int)(x:AV):Option AV:=match x with
 |.int i=>some (.int (f i))
 |_=>none
theorem IZ{op f}(k:∀{g A s P i u},Pt P s (.int (f i))->wp g A (unaryOp op (.int i u)) P s):rp op (pV f):=λ{g n A β c σ s Q x v a}A _ h q b=>by
 cases x with
 |int i=>
  apply eL b;intro u;exact k λr t x=>.tok A t (x ..) (aa0 h▸q)
 |_=>exact absurd h.symm (aa8 _)
theorem Sp:rp .USub (pV λi=>-i):=IZ λq=>PySem.P.neg_int (gb Y q)
theorem VQ:rp .Invert (pV Builtin.bitNot):=IZ λq=>invert_int (gb Y q)
namespace X
def OQ:=b_ λa b=>some (.bool (decide (a<b)))
def Zw:=b_ λa b=>some (.bool (decide (a<=b)))
def RP:=b_ λa b=>some (.bool (decide (a>b)))
def T7:=b_ λa b=>some (.bool (decide (a≥b)))
def HW:=b_ λa b=>some (.int (a-b))
def Xg:=b_ λa b=>if 0<=a/\a<1000 then some (.int (a*b)) else .none
def VE:=b_ λa b=>if b=0 then .none else some (.int (a.fmod b))
def Lp:=b_ λa b=>if b=0\/Builtin.divisionGoesByPylong a b=true then .none else some (.int (a.fdiv b))
def Ry:=b_ λa b=>some (.int (Builtin.bitAnd a b))
def BA:=b_ λa b=>some (.int (Builtin.bitOr a b))
def Z2:=b_ λa b=>some (.int (Builtin.bitXor a b))
def FE:=b_ λa b=>if 0<=b then some (.int (a.fdiv (2^b.toNat))) else .none
abbrev lt:=cmp OQ Kq
abbrev le:=cmp Zw Lz
abbrev gt:=cmp RP Xc
abbrev ge:=cmp T7 Vy
abbrev sub:=bin HW Na
abbrev mul:=bin Xg Z8
abbrev mod:=bin VE OA
abbrev fdiv:=bin Lp TP
abbrev band:=bin Ry Pq
abbrev bor:=bin BA YU
abbrev bxor:=bin Z2 Ua
abbrev shr:=bin FE UG
abbrev neg:=un (pV λi=>-i) Sp ()
abbrev invert:=un (pV Builtin.bitNot) VQ ()
end X
def o6(pos:Bool)(x y:AV):Do AV:=match y with
 |.none=>match x with
  |.raw _=>no
  |.none=>ret (.bool pos)
  |_=>ret (.bool !pos)
 |_=>no
theorem Jj{pos}{x y h β r t}{Q:PX}{σ}{M:Value->Prop}(e:o6 pos x y Q σ)(a:RV h β x r)(b:RV h β y t)(k:Q (.bool (bif pos then r==.none else !(r==.none))) σ->M .none):M t:=by
 cases y with
 |none=>
  apply vr b;cases x with
  |none=>refine k ?_;apply vr a;cases pos<;>exact e
  |bool=>refine k ?_;apply yP a<;>exact e
  |int=>refine k ?_;apply eL a;intro _<;>exact e
  |str=>refine k ?_;apply nZ a;intro _<;>exact e
  |tup=>refine k ?_;apply fA a;intro _ _ _ _ _<;>exact e
  |loc=>refine k ?_;apply cI a;intro _ _<;>exact e
  |raw=>exact e.elim
 |_=>exact e.elim
theorem KA:fp .Is (o6 true):=λa J h c b=>by apply Jj h c b;exactλq=>is_none (.intro (v:=.bool _) a Y q)
theorem aab:fp .IsNot (o6 false):=λa J h c b=>by apply Jj h c b;exactλq=>isNot_none (.intro (v:=.bool _) a Y q)
namespace X
abbrev AU:=cmp (o6 true) KA
abbrev NG:=cmp (o6 false) aab
end X
end W
end
section
variable{g:Gl}{n:Nat}{A:Around}{β δ ah ax:List Addr}{σ aj:Sg}{s s':Shared}
theorem At.new(at_:At g β δ σ s)(hz:s.heap.objs.size<=c.objs.size)(k:∀b o,s.heap.get? b=some o->c.get? b=some o)(h:s.heap.objs.size<=a/\c.objs.size>a)(f:s.heap.objs.size<=d/\c.objs.size>d)
  (x:RO g.w c (β++[a]) ao a d)(i:r=.ref a)(q:Q (.loc σ.length) (σ++[ao])):W.PV g s β δ Q r {s with heap:=c}:=
 ⟨.loc _,_,_,_,at_.heap (at_.inv.snoc hz k h f x),.snoc hz k h.1 f.1,⟨a,at_.inv.g_▸List.getElem?_concat_length ..,i⟩,q⟩
theorem eg{o}{h:Heap}:∀b x,h.get? b=some x->(h.push o).get? b=some x:=λJ J=>Heap.get?_push_of_some _
theorem sV{o}{h:Heap}:h.objs.size<=h.objs.size/\(h.push o).objs.size>h.objs.size:=⟨aaX _,ab1 .. ▸ab3 _⟩
theorem ak.keeps(x:ak h β l vs)(k:∀b o,h.get? b=some o->c.get? b=some o)(e:∀(n:Nat)(a),β[n]?=some a->ah[n]?=some a):ak c ah l vs:=ak.mono (λb J J=>k b _) e _ _ x
theorem At.newList(a:At g β δ σ s){b l m}(x:ak s.heap β l b.toList){r}{Q:W.PX}(c:r=.ref s.heap.objs.size)(q:Q (.loc σ.length) (σ++[.list l])):W.PV g s β δ Q r {s with heap:=s.heap.push (cZ b m)}:=
 a.new (ao:=.list l) jH eg sV sV ⟨Y,b,m,abU _ Y,x.keeps eg λJ J=>i_⟩ c q
theorem At.Ad(a:At g β δ σ s){b l m}(x:ak s.heap β l b.toList){r}{Q:W.PX}(c:r=.ref s.heap.objs.size)(q:Q (.tup l) σ):W.PV g s β δ Q r {s with heap:=s.heap.push (fg b m)}:=
 ⟨.tup l,_,_,_,a.heap (a.inv.push _),Step.push _,⟨_,b,m,c,abU _ Y,x.keeps eg λJ J e=>e⟩,q⟩
theorem At.yL(a:At g β δ σ s)(f:β[k]?=some x)(h:δ[k]?=some d)(i:b=x\/b=d)(hs:Heap.SameBut b s.heap c)(r:Step bB s.heap β δ c β δ->RO g.w c β ao x d):At g β δ (σ.set k ao) {s with heap:=c}/\Step bB s.heap β δ c β δ:=
 have S:=a.inv.LC (rK (n:=k) (i.imp (λe=>e▸f) λe=>e▸h)) hs
 ⟨a.heap (a.inv.set f h i hs (r S)),S⟩
theorem At.obj(a:At g β δ σ s){k:Nat}{ao}(e:σ[k]?=some ao){x}(c:β[k]?=some x):∃d,δ[k]?=some d/\RO g.w s.heap β ao x d:=by
 obtain⟨b,d,i,h,f⟩:=a.inv.obj k _ e;exact⟨d,h,aa0 (i.symm.trans c)▸f⟩
theorem At.rL(a:At g β δ σ s){k x}{l l' b vs m}(e:σ[k]?=some (.list l))(c:β[k]?=some x)(hs:Heap.SameBut x s.heap b)
  (f:b.get? x=some (cZ vs m))(r:ak s.heap β l' vs.toList):At g β δ (σ.set k (.list l')) {s with heap:=b}/\Step bB s.heap β δ b β δ:=by
 obtain⟨d,i,h,_⟩:=a.obj e c
 exact a.yL c i (.inl Y) hs λS=>⟨h,vs,m,f,r.step S⟩
theorem ak.size{h l}{vs:Array Value}(r:ak h β l vs.toList):vs.size=l.length:=(Array.length_toList ..).symm.trans (ak.length _ _ r)
theorem qh(a:At g β δ σ s){k:Nat}{x}(b:β[k]?=some x):(x==sysModules)=false:=by
 obtain⟨o,es,d,c,_⟩:=g.G;exact abJ.mpr λq=>absurd (a.inv.new x (rK (.inl b))).1 (Nat.not_le.mpr (q▸aaZ () (ab2 c)))
theorem aaP(a:At g β δ aj {s with heap:=b})(t):At g β δ aj {s with heap:=b,toks:=t}:=a.toks t
end
def aO(es:List (AV×AV))(k:AV):Option AV:=(es.find? λp=>p.1=k).map (·.2)
def aM(es:List (AV×AV))(k v:AV):List (AV×AV):=if es.any (λp=>p.1=k) then es.map (λp=>if p.1=k then(p.1,v) else p) else es++[(k,v)]
def Al{κ:Type}(f:κ->AV)(u:κ->Value)(h:Heap)(β:List Addr)(es:List (AV×AV)):List κ->Prop:=List.rec (λxs=>xs=[]) (λp J q xs=>∃c r,xs=c::r/\p.1=f c/\RV h β p.2 (u c)/\q r) es
section
variable{κ:Type}{f:κ->AV}{u:κ->Value}{h h':Heap}{β ah:List Addr}{k v:AV}{c:κ}
theorem Al.e{p es xs}{M:List κ->Prop}(x:Al f u h β (p::es) xs)(k:∀c r,p.1=f c->RV h β p.2 (u c)->Al f u h β es r->M (c::r)):M xs:=x.elim λc x=>x.elim λr x=>x.1▸k c r x.2.1 x.2.2.1 x.2.2.2
theorem Al.n{xs}{M:List κ->Prop}(x:Al f u h β [] xs)(k:M []):M xs:=(x)▸k
theorem Al.find(k es):∀xs,Al f u h β es xs->(aO es k=none/\xs.find? (λc=>decide (f c=k))=none)\/∃v c,aO es k=some v/\xs.find? (λc=>decide (f c=k))=some c/\RV h β v (u c):=by
 induction es with
 |nil=>intro xs e;apply e.n;exact .inl ⟨Y,Y⟩
 |cons p es a=>
  intro xs e;apply e.e;intro c r e1 z e2;unfold aO;by_cases q:p.1=k
  .rw[List.find?_cons_of_pos (p:=λp:AV×AV=>decide (p.1=k)) (aba q),List.find?_cons_of_pos (p:=λc=>decide _) (aba (e1▸q))];exact .inr ⟨_,_,Y,Y,z⟩
  .rw[List.find?_cons_of_neg (p:=λp:AV×AV=>decide (p.1=k)) λz=>q (abl z),List.find?_cons_of_neg (p:=λc=>decide (f c=k)) λz=>q (e1.trans (abl z))];exact a r e2
theorem Al.any(es):∀xs,Al f u h β es xs->es.any (λp=>p.1=k)=xs.any (λc=>decide (f c=k)):=by
 induction es with
 |nil=>intro xs e;apply e.n;rfl
 |cons p es a=>
  intro xs e;apply e.e;intro c r e1 z e2;rw[List.any_cons,List.any_cons,a r e2,e1]
theorem Al.map{g}(b:∀c,f (g c)=f c)(i:∀c,f c=k->RV h β v (u (g c)))(d:∀c,f c≠k->g c=c)(es):∀xs,Al f u h β es xs->Al f u h β (es.map λp=>if p.1=k then(p.1,v) else p) (xs.map g):=by
 induction es with
 |nil=>intro xs e;apply e.n;rfl
 |cons p es a=>
  intro xs e;apply e.e;intro c r e1 z e2;by_cases q:p.1=k
  .exact⟨g c,_,Y,(aaU Prod.fst (abn q)).trans (e1.trans (b c).symm),(aaU Prod.snd (abn q)).symm▸i c (e1▸q),a r e2⟩
  .exact⟨g c,_,Y,(aaU Prod.fst (aa_ q)).trans (e1.trans (b c).symm),(d c (e1▸q)).symm▸(aaU Prod.snd (aa_ q)).symm▸z,a r e2⟩
theorem Al.app(i:k=f c)(b:RV h β v (u c))(es):∀xs,Al f u h β es xs->Al f u h β (es++[(k,v)]) (xs++[c]):=by
 induction es with
 |nil=>intro xs e;apply e.n;exact⟨c,[],Y,i,b,Y⟩
 |cons p es a=>
  intro xs e;apply e.e;intro d r e1 z e2;exact⟨d,r++[c],Y,e1,z,a r e2⟩
theorem Al.set(j:∀c,f (g c)=f c)(m:∀c,f c=k->RV h β v (u (g c)))(l:∀c,f c≠k->g c=c)(i:k=f c)(d:RV h β v (u c))(x:Al f u h β es xs)(b:a=if xs.any (λc=>decide (f c=k)) then xs.map g else xs++[c]):Al f u h β (aM es k v) a:=by
 unfold aM;rw[b,x.any];by_cases q:xs.any (λc=>decide (f c=k))=true
 .rw[abn q,abn q];exact x.map j m l es xs
 .rw[aa_ q,aa_ q];exact Al.app i d es xs x
theorem Al.mono(t:fc h h')(e:∀(n:Nat)(a),β[n]?=some a->ah[n]?=some a)(es):∀xs,Al f u h β es xs->Al f u h' ah es xs:=by
 induction es with
 |nil=>exactλJ x=>x
 |cons p es b=>exactλxs x=>x.imp λc x=>x.imp λr x=>x.imp id λx=>x.imp id λx=>x.imp (RV.mono t e _ _) (b r)
theorem Al.length(es):∀xs,Al f u h β es xs->xs.length=es.length:=by
 induction es with
 |nil=>intro xs e;apply e.n;rfl
 |cons p es a=>
  intro xs e;apply e.e;intro c r e1 z e2;rw[abt,abt,a r e2]
theorem Al.keys(es:List (AV×AV)):∀xs:List κ,Al f u h β es xs->es.map (·.1)=xs.map f:=by
 induction es with
 |nil=>intro xs e;apply e.n;rfl
 |cons p es a=>
  intro xs e;apply e.e;intro c r e1 z e2;rw[abM,abM,a r e2,e1]
end
theorem EZ(es:List (AV×AV))(k v)(h:(es.map (·.1)).Nodup):((aM es k v).map (·.1)).Nodup:=by
 unfold aM;by_cases c:es.any (λp=>p.1=k)=true
 .rw[abn c,List.map_map];have:(_∘λp=>if p.1=k then(p.1,v) else p)=λp=>p.1:=funext λp=>by
   show(if p.1=k then _ else p).1=p.1;by_cases q:p.1=k
   .rw[abn q]
   .rw[aa_ q]
  rw[this];exact h
 .rw[aa_ c,abA];refine abR.mpr ⟨h,abv.mpr ⟨abo,ab6⟩,λx b y a e=>?_⟩;obtain⟨p,hp,d⟩:=aa6.mp b;exact c (List.any_eq_true.mpr ⟨p,hp,aba (d.trans (e.trans (aaT.mp a)))⟩)
theorem Xa{c γ:Type}(f:c->γ){l:List c}(h:(l.map f).Nodup):l.Nodup:=List.Pairwise.of_map f (λa b h e=>h (aaU f e)) h
section
variable{prog:Program}{w:World}
structure iP{K}[DecidableEq K](knd:PySem.KeyKind prog w K)(cY:K->AV)(ks:KS):Prop where
 is:∀h β k v,knd.is k v=true↔RV h β (cY k) v
 hash:∀k,knd.hash k=uQ w (cY k)
 inj:∀a b,cY a=cY b->a=b
 key:∀x,ks.ok x=true->∃k,x=cY k
 ok:∀k,ks.ok (cY k)=true
theorem Iy:iP (intKind prog w) AV.int .int where
 is h β k v:=⟨λe=>(Value.isInt_shape e).imp λJ e=>e,λe=>e.elim λt e=>e▸(aba Y)⟩
 hash _:=Y
 inj _ _ e:=AV.int.inj e
 key x e:=by cases x<;>first|exact⟨_,Y⟩|cases aaY e
 ok _:=rfl
theorem qb:iP (strKind prog w) AV.str .str where
 is h β k v:=⟨λe=>(Value.isStrOf_shape e).imp λJ e=>e,λe=>e.elim λt e=>e▸(aba Y)⟩
 hash _:=Y
 inj _ _ e:=AV.str.inj e
 key x e:=by cases x<;>first|exact⟨_,Y⟩|cases aaY e
 ok _:=rfl
abbrev VK{K}(a:K->AV):=Al (κ:=K×Value) (λc=>a c.1) λc=>c.2
abbrev VX:=Al (κ:=AV×Addr×Value) (λc=>c.1) λc=>c.2.2
section
variable{K:Type}[DecidableEq K]{knd:PySem.KeyKind prog w K}{cY:K->AV}{ks:KS}{h:Heap}{β:List Addr}
theorem M_(O:iP knd cY ks)(es):∀l,fK w h β ks es l->∃a,Pairs knd l a/\(∀e∈l,∃k,knd.is k e.key=true/\e.hash=knd.hash k)/\VK cY h β es a:=by
 induction es with
 |nil=>intro l e;exact(e)▸⟨[],.nil,nofun,Y⟩
 |cons p es j=>
  intro l x;apply x.e;intro e r c m;obtain⟨a,i,f,d⟩:=j r m;obtain⟨k,e1⟩:=O.key _ c.ok;have b:=(O.is ..).mpr (e1▸c.key);exact⟨_::a,.cons b Y i,aa'.mpr ⟨⟨k,b,by rw[c.hash,O.hash,e1]⟩,f⟩,(k,e.val),a,Y,e1,c.val,d⟩
set_option tactic.hygienic true in
theorem QJ(O:iP knd cY ks)(es:List (AV×AV)):∀(l:List DictEntry)(a:List (K×Value)),Pairs knd l a->(∀e∈l,∃k,knd.is k e.key=true/\e.hash=knd.hash k)->VK cY h β es a->fK w h β ks es l:=by
 induction es with
 |nil=>
  intro l a p q e;rw[show a=[] from e] at p;cases p with
  |nil=>rfl
 |cons p es d=>
  intro l a P q x;revert P;apply x.e;intro c r e1 t s P;cases P with
  |cons b u j=>
   rename_i e es';obtain⟨k,i,f⟩:=q e (.head _);exact⟨e,es',Y,⟨e1▸O.ok _,e1▸(O.is _ _ _ _).mp b,u▸t,by rw[f,knd.inj _ _ _ i b,O.hash,e1]⟩,d es' r j (λx m=>q x (.tail _ m)) s⟩
theorem vI(O:iP knd cY ks)(x:VK cY h β es a)(k):(aO es (cY k)=none/\valueAt a k=none)\/∃v u,aO es (cY k)=some v/\valueAt a k=some u/\RV h β v u:=by
 have e:valueAt a k=(a.find? λc=>decide (cY c.1=cY k)).map (·.2):=by unfold valueAt;rw[funext λc=>ab8.mpr ⟨aaU cY,O.inj _ _⟩]
 exact e▸(x.find _).imp (λq=>⟨q.1,by rw[q.2];rfl⟩) λq=>q.imp λv q=>q.elim λc q=>⟨c.2,q.1,by rw[q.2.1];rfl,q.2.2⟩
theorem Le(O:iP knd cY ks)(x:VK cY h β es a)(k)(b:RV h β v u):VK cY h β (aM es (cY k) v) (stored a k u):=
 x.set (g:=λc=>if c.1=k then(c.1,u) else c) (λc=>by by_cases q:c.1=k;rw[abn q];rw[aa_ q]) (λc e=>by rw[abn (O.inj _ _ e)];exact b) (λc e=>aa_ λz=>e (aaU cY z)) Y b
  (by rw[funext λc=>ab8.mpr ⟨O.inj _ _,aaU cY⟩];rfl)
end
section
variable{h:Heap}{β:List Addr}
theorem VP(e:KS.ok .tup k=true):nh k=true/\∃l,k=.tup l:=by cases k<;>first|exact⟨e,_,Y⟩|exact absurd e aaY
theorem vJ(e:KS.ok .tup k=true)(x:RV h β k r):∃a,r=.ref a/\(jj prog w).is h k a:=by
 obtain⟨b,l,rfl⟩:=VP e;have y:=RV.IG _ _ (af b).1 x (γ:=[]);obtain⟨a,vs,m,c,d,f⟩:=x;exact⟨a,c,b,c▸y⟩
theorem Te(x:(jj prog w).is h k a):KS.ok .tup k=true/\RV h β k (.ref a):=by
 obtain⟨b,x⟩:=x;refine⟨?_,RV.IG _ _ (af b).1 x⟩;cases k with
 |tup=>exact b
 |int=>exact x.elim λJ=>Value.noConfusion
 |str=>exact x.elim λJ=>Value.noConfusion
 |_=>assumption
theorem P7(es):∀l,fK w h β .tup es l->∃xs,l=xs.map (entryOfKey (jj prog w))/\(∀x∈xs,(jj prog w).is h x.1 x.2.1)/\VX h β es xs:=by
 induction es with
 |nil=>exactλl e=>(e)▸⟨[],Y,nofun,Y⟩
 |cons p es i=>
  intro l x;apply x.e;intro e r c m;obtain⟨xs,f,d,b⟩:=i r m;obtain⟨a,q,j⟩:=vJ c.ok c.key;refine⟨(p.1,a,e.val)::xs,?_,aa'.mpr ⟨j,d⟩,_,xs,Y,Y,c.val,b⟩;have s:e=entryOfKey (jj prog w) (p.1,a,e.val):=by
   show DictEntry.mk _ _ _=DictEntry.mk ..;rw[c.hash,q];rfl
  rw[abM,←f,←s]
theorem OM(es):∀xs,(∀x∈xs,(jj prog w).is h x.1 x.2.1)->VX h β es xs->fK w h β .tup es (xs.map (entryOfKey (jj prog w))):=by
 induction es with
 |nil=>intro xs _ e;apply e.n;rfl
 |cons p es a=>
  intro xs q x;revert q;apply x.e;intro c r e1 d b q;have k:=Te (β:=β) (q c (.head _));exact⟨_,_,Y,⟨e1▸k.1,e1▸k.2,d,e1▸Y⟩,a r (λx m=>q x (.tail _ m)) b⟩
theorem sG(x:VX h β es xs)(k):(aO es k=none/\atKey xs k=none)\/∃v p,aO es k=some v/\atKey xs k=some p/\RV h β v p.2:=
 (x.find k).imp (λq=>⟨q.1,by unfold atKey;rw[q.2];rfl⟩) λq=>q.imp λv q=>q.elim λc q=>⟨c.2,q.1,by unfold atKey;rw[q.2.1];rfl,q.2.2⟩
theorem Vo(x:VX h β es xs)(b:RV h β v u):VX h β (aM es k v) (storedH xs k a u):=
 x.set (g:=putAt k u) (λc=>by delta putAt;by_cases q:c.1=k;rw[abn q];rw[aa_ q]) (λc e=>by delta putAt;rw[abn e];exact b) (λc e=>aa_ e) Y b
  (by delta storedH atKey;rw[Option.isSome_map,List.isSome_find?])
end
end
section
variable{prog:Program}{w:World}{A:Around}{E:Value->Shared->Prop}{s:Shared}
theorem Z4{K}[DecidableEq K]{knd:HeapKind prog w K}{d a k xs Q}(i:knd.room A.in1)(b:knd.is s.heap k a)(j:(d==sysModules)=false)(c:s.heap.DictOfH knd d xs)
  (h:Q (.bool (!(atKey xs k).isSome)) {s with toks:=s.toks+knd.draws k}):wpAny (model prog w) A (compareOp .NotIn (.ref a) (.ref d)) Q E s:=by
 refine aaV ?_
 unfold contains
 try with_reducible refine abQ ?_
 refine aaV (wpAny_specialOf c.typeIs slot_dict_contains.lookup ?_)
 refine aaV (wpAny_callSpecialUnlessNone?_slot c.typeIs slot_dict_contains
  (wpAny_call_entry slot_dict_contains c.typeIs entry_dict_contains ?_ (args_dict_contains ..)))
 show wpAny _ _ (dictGet d _>>=_) _ _ s
 refine aaV (wpAny_dictGet_heap i b c ?_)
 cases f:atKey xs k with
 |some p=>
  rw[f] at h;exact abh ⟨_,Y,wpAny_truthy_bool (abh h)⟩
 |none=>
  rw[f] at h;exact aaV (wpAny_pendingKey_other j (abh ⟨_,Y,wpAny_truthy_bool (abh h)⟩))
end
section
variable{g:Gl}{n:Nat}{A:Around}{β δ:List Addr}{σ:Sg}{s:Shared}{ks:KS}{i:Nat}{es:List (AV×AV)}{x:Addr}{key:AV}{r:Value}
theorem At.dict(a:At g β δ σ s)(e:σ[i]?=some (.dict ks es))(b:β[i]?=some x):δ[i]?=some x/\(∃o arr n,s.heap.get? x=some o/\o.ExactDict/\o.data=.dict arr n/\fK g.w s.heap β ks es arr.toList)/\(es.map (·.1)).Nodup:=by
 obtain⟨d,f,c,h⟩:=a.obj e b;exact⟨c▸f,h⟩
theorem At.x6{K}[DecidableEq K]{knd:PySem.KeyKind g.prog g.w K}{c}(O:iP knd c ks)(a:At g β δ σ s)(e:σ[i]?=some (.dict ks es))(l:β[i]?=some x):∃b,s.heap.DictOf knd x b/\VK c s.heap β es b:=by
 obtain⟨_,⟨o,arr,m,y,w,u,t⟩,f⟩:=a.dict e l;obtain⟨b,j,h,d⟩:=M_ O _ _ t;refine⟨b,⟨o,arr,m,y,w,u,λe q=>h e (Array.mem_toList_iff.mpr q),j,?_⟩,d⟩;rw[d.keys,show b.map (λp=>c p.1)=(b.map _).map c from List.map_map.symm] at f;exact Xa _ f
theorem At.Ha(a:At g β δ σ s)(e:σ[i]?=some (.dict .tup es))(f:β[i]?=some x):∃xs,s.heap.DictOfH (jj g.prog g.w) x xs/\VX s.heap β es xs:=by
 obtain⟨_,⟨o,arr,m,q,p,l,j⟩,h⟩:=a.dict e f;obtain⟨xs,d,c,b⟩:=P7 _ _ j;exact⟨xs,⟨o,arr,m,q,p,l,d,c,b.keys▸h⟩,b⟩
def t9(g:Gl)(β δ:List Addr)(σ:Sg)(s:Shared)(i:Nat)(ao:AO)(P:Unit->Shared->Prop):Prop:=∀a t,At g β δ (σ.set i ao) {s with heap:=a,toks:=t}->Step bB s.heap β δ a β δ->P ⟨⟩ {s with heap:=a,toks:=t}
theorem At.ET(a:At g β δ σ s)(e:σ[i]?=some (.dict ks es))(c:β[i]?=some x)(hs:Heap.SameBut x s.heap b)
  (r:∃o arr n,b.get? x=some o/\o.ExactDict/\o.data=.dict arr n/\(Step bB s.heap β δ b β δ->fK g.w b β ks es' arr.toList))(nd:(es'.map (·.1)).Nodup)(q:t9 g β δ σ s i (.dict ks es') P):P ⟨⟩ {s with heap:=b,toks:=t}:=by
 obtain⟨o,arr,n,j,h,f,d⟩:=r
 obtain⟨l,S⟩:=a.yL (ao:=.dict ks es') c (a.dict e c).1 (.inl Y) hs λS=>⟨Y,⟨o,arr,n,j,h,f,d S⟩,nd⟩
 exact q b t (l.toks t) S
theorem At.Hd{K}[DecidableEq K]{knd:PySem.KeyKind g.prog g.w K}{c:K->AV}(O:iP knd c ks)(a:At g β δ σ s){es':List (AV×AV)}{d}{b:List (K×Value)}{P:Unit->Shared->Prop}{t}
  (e:σ[i]?=some (.dict ks es))(u:β[i]?=some x)(hs:Heap.SameBut x s.heap d)(w:d.DictOf knd x b)(r:VK c s.heap β es' b)(nd:(es'.map (·.1)).Nodup)(q:t9 g β δ σ s i (.dict ks es') P):P ⟨⟩ {s with heap:=d,toks:=t}:=by
 obtain⟨o,arr,y,p,l,j,h,f,z⟩:=w
 exact a.ET e u hs ⟨o,arr,y,p,l,j,λS=>QJ O _ _ _ f (λe m=>h e (Array.mem_toList_iff.mp m)) (r.mono S.tup S.pre)⟩ nd q
theorem At.Dl(a:At g β δ σ s)
  (e:σ[i]?=some (.dict .tup es))(l:β[i]?=some x)(hs:Heap.SameBut x s.heap b)(m:b.DictOfH (jj g.prog g.w) x xs)(r:VX s.heap β es' xs)(nd:(es'.map (·.1)).Nodup)(q:t9 g β δ σ s i (.dict .tup es') P):P ⟨⟩ {s with heap:=b,toks:=t}:=by
 obtain⟨o,arr,p,j,h,f,d,c,u⟩:=m
 exact a.ET e l hs ⟨o,arr,p,j,h,f,λS=>d▸OM _ _ c (r.mono S.tup S.pre)⟩ nd q
theorem At.nodup(a:At g β δ σ s)(e:σ[i]?=some (.dict ks es)):(es.map (·.1)).Nodup:=by
 obtain⟨b,d,j,h,f,_,c⟩:=a.inv.obj i _ e;exact c
def Tv(β:List Addr)(s:Shared)(P:Value->Shared->Prop)(v:AV):Prop:=∀u t,RV s.heap β v u->P u {s with toks:=t}
structure yV(g A β δ)(σ s i x)(ks es key r):Prop where
 yes:∀P,Tv β s P (.bool (aO es key).isSome)->W.wp g A (compareOp .In r (.ref x)) P s
 nay:∀P,Tv β s P (.bool !(aO es key).isSome)->W.wp g A (compareOp .NotIn r (.ref x)) P s
 item:∀v P,aO es key=some v->Tv β s P v->W.wp g A (getItem (.ref x) r) P s
 get:∀P,Tv β s P ((aO es key).getD .none)->W.wp g A (call (.builtin "dict.get") [.ref x,r]) P s
 US:∀d y P,RV s.heap β d y->Tv β s P ((aO es key).getD d)->W.wp g A (call (.builtin "dict.get") [.ref x,r,y]) P s
 put:∀v u P,RV s.heap β v u->es.length<=sizeLine->t9 g β δ σ s i (.dict ks (aM es key v)) P->W.wp g A (setItem (.ref x) r u) P s
theorem Ce{K}[DecidableEq K]{knd:PySem.KeyKind g.prog g.w K}{m}(O:iP knd m ks)(a:At g β δ σ s)(e:σ[i]?=some (.dict ks es))(l:β[i]?=some x)(b:ks.ok key=true)(w:RV s.heap β key r):yV g A β δ σ s i x ks es key r:=by
 obtain⟨j,c,f⟩:=a.x6 O e l;obtain⟨k,rfl⟩:=O.key key b;have b:=(O.is ..).mpr w;have ns:=qh a l;have is:(aO es _).isSome=(valueAt j k).isSome:=(vI O f k).elim (λq=>by rw[q.1,q.2];rfl) λq=>q.elim λv q=>q.elim λu q=>by rw[q.1,q.2.1];rfl
 have or:∀{d y P t},RV s.heap β d y->Tv β s P ((aO es _).getD d)->P ((valueAt j k).getD y) {s with toks:=t}:=λ{d y P t}z h=>by
  rcases vI O f k with q|⟨v,u,q⟩<;>rw[q.1] at h
  .exact q.2▸h _ _ z
  .exact q.2.1▸h _ _ q.2.2
 refine⟨λP h=>wpAny_in_of b ns c.mapOf (h _ _ (is▸Y)),λP h=>wpAny_notIn_of b ns c.mapOf (h _ _ (is▸Y)),λv P q h=>?_,λP h=>?_,λd y P z h=>?_,λv u P z hz h=>wpAny_setItem_pairs b c (λH B hs=>a.Hd O e l hs B (Le O f k z) (EZ _ _ _ (a.nodup e)) h) (f.length▸hz)⟩
 .rcases vI O f k with p|⟨D,u,p⟩
  .exact absurd (q.symm.trans p.1) (aa8 _)
  .exact wpAny_getItem_of b c.mapOf p.2.1 (h _ _ (aa0 (q.symm.trans p.1)▸p.2.2))
 .exact call_meetsIn PySem.F.slot_dict_get c.typeIs PySem.F.entry_dict_get (PySem.F.args_dict_get_2 ..) (meets_dict_get knd x b ns) ⟨_,c.mapOf,or (d:=.none) Y h⟩
 .exact call_meetsIn PySem.F.slot_dict_get c.typeIs PySem.F.entry_dict_get (PySem.F.args_dict_get_3 ..) (meets_dict_get_default knd x b ns y) ⟨_,c.mapOf,or z h⟩
theorem O_(j:A.units+1+20<cLine)(a:At g β δ σ s)(e:σ[i]?=some (.dict .tup es))(m:β[i]?=some x)(c:KS.ok .tup key=true)(B:RV s.heap β key r):yV g A β δ σ s i x .tup es key r:=by
 obtain⟨xs,f,l⟩:=a.Ha e m;obtain⟨b,rfl,c⟩:=vJ (prog:=g.prog) (w:=g.w) c B;have ns:=qh a m;have is:(aO es key).isSome=(atKey xs key).isSome:=(sG l key).elim (λq=>by rw[q.1,q.2];rfl) λq=>q.elim λv q=>q.elim λu q=>by rw[q.1,q.2.1];rfl
 have or:∀{d y P t},RV s.heap β d y->Tv β s P ((aO es key).getD d)->P (((atKey xs key).map (·.2)).getD y) {s with toks:=t}:=λ{d y P t}z h=>by
  rcases sG l key with q|⟨v,u,q⟩<;>rw[q.1] at h
  .exact q.2▸h _ _ z
  .exact q.2.1▸h _ _ q.2.2
 refine⟨λP h=>wpAny_in_heap j c ns f (h _ _ (is▸Y)),λP h=>Z4 j c ns f (h _ _ (is▸Y)),λv P q h=>?_,λP h=>?_,λd y P z h=>?_,λv u P z hz h=>wpAny_setItem_heap j c f (λL D hs=>a.Dl e m hs D (Vo l z) (EZ _ _ _ (a.nodup e)) h) (l.length▸hz)⟩
 .rcases sG l key with p|⟨H,u,p⟩
  .exact absurd (q.symm.trans p.1) (aa8 _)
  .exact wpAny_getItem_heap j c f p.2.1 (h _ _ (aa0 (q.symm.trans p.1)▸p.2.2))
 .exact call_meetsIn PySem.F.slot_dict_get f.typeIs PySem.F.entry_dict_get (PySem.F.args_dict_get_2 ..) (meetsH_dict_get _ x b ns) ⟨j,_,_,c,f,or (d:=.none) Y h⟩
 .exact call_meetsIn PySem.F.slot_dict_get f.typeIs PySem.F.entry_dict_get (PySem.F.args_dict_get_3 ..) (meetsH_dict_get_default _ x b ns y) ⟨j,_,_,c,f,or z h⟩
theorem qj(R:dI A n)(a:At g β δ σ s)(e:σ[i]?=some (.dict ks es))(b:β[i]?=some x)(d:ks.ok key=true)(c:RV s.heap β key r):yV g A β δ σ s i x ks es key r:=by
 cases ks with
 |int=>exact Ce Iy a e b d c
 |str=>exact Ce qb a e b d c
 |tup=>exact O_ (abb (show A.units+21<A.units+12*n+60 from Nat.add_lt_add_of_le_of_lt (aaW A.units _) ()) R.un) a e b d c
end
section
inductive eqB(x y)(σ:Sg)(b):Prop
 |data (dx:x.data=true) (dy:y.data=true) (d:x.depth<=40) (q:b=e7 x y)
 |list (n m l k) (ex:x=.loc n) (ey:y=.loc m) (e:σ[n]?=some (.list l)) (f:σ[m]?=some (.list k)) (dl:AV.e_ l=true) (dk:AV.e_ k=true) (d:AV.du l<=40) (q:b=e7 (.tup l) (.tup k))
 |Hv (n m j i) (ex:x=.loc n) (ey:y=.loc m) (e:σ[n]?=some (.dict j [])) (f:σ[m]?=some (.dict i [])) (q:b=true)
def fe(x y:AV):Do AV:=λQ σ=>∃b,eqB x y σ b/\Q (.bool b) σ
def fv(x y:AV):Do AV:=λQ σ=>(x.data=true/\y.data=true/\x.depth<=40)/\Q (.bool !(e7 x y)) σ
section
variable{g:Gl}{n:Nat}{A:Around}{β δ ah ax:List Addr}{σ aj:Sg}{s s':Shared}
theorem HN(h:s.heap.get? a=some (cZ vs m))(d:AV.e_ l=true)(r:ak s.heap β l vs.toList):∃as,Reads s.heap (.ref a) (.list (fB l)) as:=(ji.2 l _ d r).elim λas q=>⟨_,.list h Y Y q⟩
theorem Ao(a:At g β δ σ s){k:Nat}{ks}(e:σ[k]?=some (.dict ks [])){x}(b:β[k]?=some x):s.heap.DictOf (intKind g.prog g.w) x []:=by
 obtain⟨_,⟨o,arr,m,i,h,f,d⟩,_⟩:=a.dict e b;have:=Array.toList_eq_nil_iff.mp d
 subst this
 exact⟨o,#[],m,i,h,f,λe c=>absurd c (Array.not_mem_empty _),.nil,ab6⟩
end
namespace W
open Do
section
variable{σ:Sg}{Q:PX}{x y:AV}
theorem Aa(kx:x.key=true)(a:y.key=true)(b:x.depth<=40)(q:Q (.bool (decide (x=y))) σ):Ok (Mine.Internal.fe x y) σ Q:=⟨_,.data (jm _ kx) (jm _ a) b Y,uX kx a▸q⟩
theorem uK(kx:x.key=true)(a:y.key=true)(b:x.depth<=40)(q:Q (.bool !decide (x=y)) σ):Ok (Mine.Internal.fv x y) σ Q:=⟨⟨jm _ kx,jm _ a,b⟩,uX kx a▸q⟩
end
def fe(x y:AV):Do AV:=match x with
 |.int a=>match y with
  |.int b=>ret (.bool (decide (a=b)))
  |_=>pr (Mine.Internal.fe x y)
 |.bool a=>match y with
  |.bool b=>ret (.bool (decide (a=b)))
  |_=>pr (Mine.Internal.fe x y)
 |_=>pr (Mine.Internal.fe x y)
def fv(x y:AV):Do AV:=match x with
 |.int a=>match y with
  |.int b=>ret (.bool !(decide (a=b)))
  |_=>pr (Mine.Internal.fv x y)
 |_=>pr (Mine.Internal.fv x y)
theorem Ri(h:fe x y Q σ):Ok (Mine.Internal.fe x y) σ Q:=by
 cases x with
 |int a=>
  cases y with
  |int b=>exact Aa Y Y (aa9 _) ((ab8.mpr ⟨AV.int.inj,aaU _⟩)▸h)
  |_=>exact f_ h
 |bool a=>
  cases y with
  |bool b=>exact⟨_,.data Y Y (aa9 _) Y,by cases a<;>cases b<;>exact h⟩
  |_=>exact f_ h
 |_=>exact f_ h
theorem Ut(h:fv x y Q σ):Ok (Mine.Internal.fv x y) σ Q:=by
 cases x with
 |int a=>
  cases y with
  |int b=>exact uK Y Y (aa9 _) ((ab8.mpr ⟨AV.int.inj,aaU _⟩)▸h)
  |_=>exact f_ h
 |_=>exact f_ h
theorem m8(R:dI A n)(h:k<=41):A.units+k<cLine:=abb (aaZ (aa3 h _) (Nat.add_lt_add_of_le_of_lt (aaW A.units _) ())) R.un
theorem Vn:fp .Eq fe:=λ{g n A β δ σ s Q x y r t}a R h B z=>by
 obtain⟨b,m,q⟩:=Ri h
 have q:=PV.intro (v:=.bool b) a Y q
 cases m with
 |data M L d e=>
  obtain⟨as,p⟩:=ji.1 x r M B;obtain⟨bs,w⟩:=ji.1 y t L z;exact SeqAt.compareEq_reads p w (iF.1 x M) (iF.1 y L) (qQ (m8 R (Nat.le_succ_of_le d))) ((show(toPy x).eqv _=b from e.symm)▸q)
 |list k m l l' ex D e f dl N d H=>
  subst ex D;apply cI B;intro U u;apply cI z;intro T c;obtain⟨vs,i,p1,p2⟩:=a.list e u;obtain⟨us,j,q1,q2⟩:=a.list f c;obtain⟨as,p⟩:=HN p1 dl p2;obtain⟨bs,w⟩:=HN q1 N q2;exact SeqAt.compareEq_reads p w (iF.2 _ dl) (iF.2 _ N) (qQ (x:=.tup l) (y:=.tup l') (m8 R (abI d))) ((show PyData.eqv (.list (fB l)) (.list (fB l'))=b from H.symm)▸q)
 |Hv k m ka kb ex D e f H=>
  subst ex D;apply cI B;intro U u;apply cI z;intro T c;exact keq_eq (qh a u) (qh a c) (Ao a e u) (Ao a f c) (m8 R (aa9 _)) (λJ=>.nil) (H▸q)
theorem UB:fp .NotEq fv:=λa R h c b=>(Ut h).elim λm q=>S3 m.1 m.2.1 c b (m8 R (Nat.le_succ_of_le m.2.2)) (.intro (v:=.bool _) a Y q)
namespace X
abbrev eq:=cmp fe Vn
abbrev ne:=cmp fv UB
end X
end W
end
section
section
variable{A:Around}{h:Heap}{β:List Addr}{s:Shared}{x a:AV}{l l0:List AV}
open Classical in
def rR(h:Heap)(β:List Addr)(x:AV)(l:List AV)(y:Value):Bool:=decide (∃a,a∈l/\RV h β a y/\e7 a x=true)
theorem ak.e{x l vs}{M:List Value->Prop}(z:ak h β (x::l) vs)(k:∀v r,RV h β x v->ak h β l r->M (v::r)):M vs:=z.elim λv z=>z.elim λr z=>z.1▸k v r z.2.1 z.2.2
theorem ak.mem(l):∀vs,ak h β l vs->∀{y},y∈vs->∃a,a∈l/\RV h β a y:=by
 induction l with
 |nil=>exactλvs e y m=>absurd ((e)▸m) abo
 |cons x l b=>
  intro vs e;apply e.e;intro v r c d y m;cases m with
  |head=>exact⟨x,.head _,c⟩
  |tail _ m=>exact(b r d m).imp λa q=>q.imp (List.Mem.tail _) id
open Classical in
theorem GS(dl:AV.e_ l=true)(m:a∈l)(r:RV h β a y):rR h β x l y=e7 a x:=by
 unfold rR;cases q:e7 a x with
 |true=>exact aba ⟨a,m,r,q⟩
 |false=>
  refine abf λz=>?_;obtain⟨b,d,c,e⟩:=z;rw[RV.det b a y (tQ d dl) (tQ m dl) c r,q] at e;exact absurd e aaY
theorem QS(dl:AV.e_ l0=true)(l):∀vs,(∀a∈l,a∈l0)->ak h β l vs->vs.any (rR h β x l0)=l.any (λa=>e7 a x):=by
 induction l with
 |nil=>exactλvs J e=>(e)▸Y
 |cons a l c=>
  intro vs m e;apply e.e;intro v r d f;rw[List.any_cons,List.any_cons,GS dl (m a (.head _)) d,c r (λb i=>m b (.tail _ i)) f]
theorem KL{vs:Array Value}{t}(i:A.units+41<cLine)(dl:AV.e_ l=true)(j:AV.du l<=40)(c:x.data=true)(r:ak s.heap β l vs.toList)(f:RV s.heap β x t):∀y,y∈vs->SeqAt.EqAt A.in1 s y t (rR s.heap β x l y):=by
 intro y d;obtain⟨a,m,b⟩:=ak.mem _ _ r (Array.mem_toList_iff.mpr d);rw[GS dl m b];obtain⟨as,p⟩:=ji.1 a y (tQ m dl) b;obtain⟨bs,q⟩:=ji.1 x t c f;exact SeqAt.eqAt_reads _ _ A.in1 s y t as bs p q (iF.1 a (tQ m dl)) (iF.1 x c) (qQ (aaZ (by have:=aaS (BL m) j;lia) i))
end
def oK(pos:Bool)(x:AV)(l:List AV):Do AV:=λQ σ=>((AV.e_ l=true/\x.data=true)/\AV.du l<=40)/\Q (.bool (bif pos then l.any λa=>e7 a x else !l.any λa=>e7 a x)) σ
theorem My(b:AV.keys l=true)(d:x.key=true):(l.any λa=>e7 a x)=decide (x∈l):=by
 induction l with
 |nil=>rfl
 |cons a l c=>
  rw[List.any_cons,c (af b).2,uX (af b).1 d,←Bool.decide_or];exact ab8.mpr ((or_congr eq_comm .rfl).trans aa5.symm)
namespace W
open Do
theorem zi(b:AV.keys l=true)(c:AV.du l<=40)(a:x.key=true)(q:Q (.bool (bif pos then decide (x∈l) else !decide (x∈l))) σ):Ok (oK pos x l) σ Q:=⟨⟨⟨A_.2 _ b,jm _ a⟩,c⟩,(My b a).symm▸q⟩
def anyI(k:Int)(l:List AV):Option Bool:=l.rec (some false) λa J r=>match a with
 |.int j=>match r with
  |some b=>some (match decide (k=j) with|true=>true|false=>b)
  |none=>none
 |_=>none
def SO(pos:Bool)(x:AV)(o:AO):Do AV:=match o with
  |.dict ks es=>λQ σ=>ks.ok x=true/\Q (.bool (match pos with|true=>(aO es x).isSome|false=>!(aO es x).isSome)) σ
  |.list l=>pr (oK pos x l)
  |_=>no
def gK(pos:Bool)(x y:AV):Do AV:=match y with
 |.tup l=>match x with
  |.int k=>λQ σ=>eF (anyI k l) (λb σ=>Q (.bool (match pos with|true=>b|false=>!b)) σ) σ
  |_=>pr (oK pos x l)
 |.loc n=>hp n (SO pos x)
 |_=>no
theorem Xe(l):∀b,anyI k l=some b->(AV.keys l=true/\AV.du l=0)/\b=decide (AV.int k∈l):=by
 induction l with
 |nil=>exactλb h=>⟨⟨Y,Y⟩,(aa0 h).symm⟩
 |cons a l d=>
  intro b h;cases a with
  |int j=>
   cases e:anyI k l with
   |none=>exact absurd ((aaU (λr=>match r with|some b=>some (match decide (k=j) with|true=>true|false=>b)|none=>none) e).symm.trans h).symm (aa8 _)
   |some c=>
    have h:=(aaU (λr=>match r with|some b=>some (match decide (k=j) with|true=>true|false=>b)|none=>none) e).symm.trans h
    obtain⟨⟨p,i⟩,f⟩:=d c e;refine⟨⟨p,(aaU (max 0) i).trans Y⟩,(aa0 h).symm.trans ?_⟩;by_cases q:k=j
    .rw[aba q];exact(aba (q▸.head _)).symm
    .rw[abf q,f];exact ab8.mpr ⟨.tail _,λm=>(aa5.mp m).elim (λe=>absurd (AV.int.inj e) q) id⟩
  |_=>exact absurd h.symm (aa8 _)
theorem sC{g n A β b σ s pos op x r t l}{vs:Array Value}{Q:PX}(a:At g β b σ s)(R:dI A n)(h:oK pos x l Q σ)(d:RV s.heap β x r)(c:ak s.heap β l vs.toList)
  (k:∀e,(∀y,y∈vs->SeqAt.EqAt A.in1 s y r (e y))->PV g s β b Q (.bool (bif pos then vs.any e else !vs.any e)) s->wp g A (compareOp op r t) (PV g s β b Q) s):wp g A (compareOp op r t) (PV g s β b Q) s:=
 k _ (KL (m8 R (aaX _)) h.1.1.1 h.1.2 h.1.1.2 c d) (.intro a (by rw[←Array.any_toList,QS h.1.1.1 l _ (λJ m=>m) c];rfl) h.2)
theorem IP(h:gK pos x (.tup l) Q σ):oK pos x l Q σ:=by
 cases x with
 |int k=>
  obtain⟨b,e,q⟩:=gh h;obtain⟨⟨d,c⟩,a⟩:=Xe l b e;exact zi d (c▸aa9 _) Y ((a)▸by cases pos<;>exact q)
 |_=>exact f_ h
theorem Zu:fp .In (gK true):=λ{g n A β p σ s Q x y r t}a R h c i=>by
 cases y with
 |tup l=>
  apply fA i;intro b vs m d f;exact sC a R (IP h) c f λe=>SeqAt.in_tupleAt e ⟨_,d,Y,m,Y⟩
 |loc k=>
  apply cI i;intro b j;obtain⟨o,e,h⟩:=ej h;cases o with
  |list l=>
   obtain⟨vs,m,d,f⟩:=a.list e j;exact sC a R (f_ h) c f λe=>SeqAt.in_listAt e (eD d)
  |dict ks es=>exact(qj R a e j h.1 c).yes _ λu t z=>.tok a t z h.2
  |_=>exact h.elim
 |_=>exact h.elim
theorem XO:fp .NotIn (gK false):=λ{g n A β p σ s Q x y r t}a R h c i=>by
 cases y with
 |tup l=>
  apply fA i;intro b vs m d f;exact sC a R (IP h) c f λe=>SeqAt.notIn_tupleAt e ⟨_,d,Y,m,Y⟩
 |loc k=>
  apply cI i;intro b j;obtain⟨o,e,h⟩:=ej h;cases o with
  |list l=>
   obtain⟨vs,m,d,f⟩:=a.list e j;exact sC a R (f_ h) c f λe=>SeqAt.notIn_listAt e (eD d)
  |dict ks es=>exact(qj R a e j h.1 c).nay _ λu t z=>.tok a t z h.2
  |_=>exact h.elim
 |_=>exact h.elim
namespace X
abbrev cv:=cmp (gK true) Zu
abbrev cK:=cmp (gK false) XO
end X
end W
end
section
def GI(s:Shared)(r:Value):Prop:=∃T id,s.TypeIs r T/\typeLookup (.type T) "__getitem__"=pure (some (.builtin id))
section
variable{g:Gl}{n:Nat}{A:Around}{env:Env}{β δ ah ax:List Addr}{σ aj:Sg}{s s':Shared}
theorem HI(h:s.heap.get? t=some (fg vs m)):GI s (.ref t):=⟨"tuple",_,⟨_,h,Y⟩,PySem.F.slot_tuple_getitem.lookup⟩
theorem z6(h:s.heap.IsList t vs):GI s (.ref t):=⟨"list",_,h.typeIs,list_getitem_lookup⟩
theorem ak.at{h l}{vs:Array Value}(r:ak h β l vs.toList){j:Nat}{v}(e:l[j]?=some v):∃u,vs[j]?=some u/\RV h β v u:=(ak.get _ _ _ _ r e).imp λu q=>⟨Array.getElem?_toList▸q.1,q.2⟩
theorem U_(slice o i):∃vs,subscripted slice false o i=operate vs (getItem o i):=by
 cases slice with
 |Slice l u st p=>cases st<;>exact⟨_,Y⟩
 |_=>exact⟨_,Y⟩
theorem As
  (h:W.wp g A (eval value env) (λo s₁=>W.wp g A (eval slice env) (λi a=>GI a o/\W.wp g A (getItem o i) Q a) s₁) s):W.wp g A (eval (.Subscript value slice pos) env) Q s:=by
 refine aaV (W.wm h λo s₁ d=>aaV (abQ (W.wm d λi a c=>aaV (abL ?_))))
 obtain⟨⟨T,id,m,j⟩,l⟩:=c
 obtain⟨vs,e⟩:=U_ slice o i
 have fin:W.wp g A (subscripted slice false o i) (λr=>W.wp g A (letTemporaryGo value o r>>=λJ=>pure r) Q) a:=by
  rw[e];exact wpAny_operating (W.wm l λr f b=>aaV (wpAny_letTemporaryGo (abh b)))
 refine aaV ?_
 refine aaV (wpAny_specialOf m j ?_)
 first
  |exact abh (aaV fin)
  |assumption
  |exact aaV fin
end
namespace W
open Do
noncomputable def iK(l:List AV)(k:Int):Option AV:=match k with
 |.ofNat n=>bif Nat.blt n (2^62) then l[n]? else none
 |.negSucc n=>bif Nat.beq n 0 then l.getLast? else none
def XB(i:AV)(o:AO):Do AV:=match o with
  |.list l=>match i with
   |.int k=>eF (iK l k)
   |_=>no
  |.dict ks es=>λQ σ=>ks.ok i=true/\eF (aO es i) Q σ
  |_=>no
def getM(x i:AV):Do AV:=match x with
 |.tup l=>match i with
  |.int k=>eF (iK l k)
  |_=>no
 |.loc n=>hp n (XB i)
 |_=>no
structure Mu(l:List AV)(k v j):Prop where
 ge:-2^63<=k
 lt:k<2^63
 ix:seqIndex? k l.length=some j
 at_:l[j]?=some v
 or:(0<=k/\j=k.toNat)\/(k<0/\-(l.length)<=k/\j=(k+l.length).toNat)
theorem kG(h:(bif c then x else none)=some v):c=true/\x=some v:=by
 cases c
 .exact absurd h.symm (aa8 _)
 .exact⟨Y,h⟩
theorem YC{n len:Nat}(h:n<len):seqIndex? (n) len=some n:=by
 unfold seqIndex?;dsimp only;rw[aa_ (Int.not_lt.mpr (Int.natCast_nonneg n)),aba (Int.ofNat_lt.mpr h)];rfl
theorem PH:seqIndex? (-1) (m+1)=some m:=by
 unfold seqIndex?;dsimp only;rw[abn (():(-1)<0),show(-1)+(_:Int)=(m) by lia,aba (Int.ofNat_lt.mpr (ab3 m))]
 rfl
theorem HU{l k v}(h:iK l k=some v):∃j,Mu l k v j:=by
 cases k with
 |ofNat n=>
  obtain⟨c,h⟩:=kG h;exact⟨n,Int.le_trans () (Int.natCast_nonneg n),Int.lt_trans (Int.ofNat_lt.mpr (Nat.blt_eq.mp c)) (),YC (dv h),h,.inl ⟨Int.natCast_nonneg n,Y⟩⟩
 |negSucc n=>
  obtain⟨c,q⟩:=kG h;have e:=Nat.eq_of_beq_eq_true c;subst e;clear h c;rw[List.getLast?_eq_getElem?] at q;cases l with
  |nil=>exact absurd q.symm (aa8 _)
  |cons a l=>exact⟨l.length,(),(),PH,q,.inr ⟨(),by rw[abt];lia,by rw[abt];lia⟩⟩
section
variable{g:Gl}{n:Nat}{A:Around}{β δ:List Addr}{σ:Sg}{s:Shared}{Q:PX}{l:List AV}{k:Int}{a:Addr}{vs:Array Value}{m:Nat}{t:Tok}
theorem Kw(i:At g β δ σ s)(h:eF (iK l k) Q σ)(c:s.heap.get? a=some (fg vs m))(b:ak s.heap β l vs.toList):wp g A (getItem (.ref a) (.int k t)) (PV g s β δ Q) s:=by
 obtain⟨v,e,q⟩:=gh h;obtain⟨j,p⟩:=HU e;obtain⟨u,f,d⟩:=ak.at b p.at_;exact PySem.P.getItem_tuple c p.ge p.lt (ak.size b▸p.ix) f (.intro i d q)
theorem Um(i:At g β δ σ s)(h:eF (iK l k) Q σ)(c:s.heap.IsList a vs)(b:ak s.heap β l vs.toList):wp g A (getItem (.ref a) (.int k t)) (PV g s β δ Q) s:=by
 obtain⟨v,e,q⟩:=gh h;obtain⟨j,p⟩:=HU e;obtain⟨u,f,d⟩:=ak.at b p.at_;exact p.or.elim (λz=>wpAny_getItem_list c z.1 p.lt (z.2▸f) (.intro i d q)) λz=>wpAny_getItem_list_neg c z.1 (ak.size b▸z.2.1) p.ge (by rw[ak.size b,←z.2.2];exact f) (.intro i d q)
theorem Rj{x i}{r t}(a:At g β δ σ s)(R:dI A n)(h:getM x i Q σ)(p:RV s.heap β x r)(f:RV s.heap β i t):GI s r/\wp g A (getItem r t) (PV g s β δ Q) s:=by
 cases x with
 |tup l=>
  cases i with
  |int k=>
   apply fA p;intro b vs m c d;apply eL f;intro t;exact⟨HI c,Kw a h c d⟩
  |_=>exact h.elim
 |loc k=>
  apply cI p;intro b j;obtain⟨o,e,h⟩:=ej h;cases o with
  |list l=>
   cases i with
   |int k=>
    apply eL f;intro t;obtain⟨vs,m,c,d⟩:=a.list e j;exact⟨z6 (eD c),Um a h (eD c) d⟩
   |_=>exact h.elim
  |dict ks es=>
   obtain⟨_,⟨o,arr,m,y,w,_⟩,_⟩:=a.dict e j;obtain⟨v,B,q⟩:=gh h.2;exact⟨⟨"dict",_,⟨o,y,w.1⟩,slot_dict_getitem.lookup⟩,(qj R a e j h.1 f).item v _ B λu t z=>.tok a t z q⟩
  |_=>exact h.elim
 |_=>exact h.elim
end
namespace X
theorem Qd(x i:X):bY (λc L Q=>x.den c L (k2 getM i c L Q)) (λK e=>kH e λo j=>x.aN K o&&i.aN K j):=λR r m=>by
 apply nB r;intro o j pos d
 exact As (uY R (af d).1 (af d).2 (uW m) λa b l f q=>(Rj a.at_ a.room q l f).imp id λh=>wm h λJ J p=>.after b p)
theorem GP{p e}(h:kH e p=true):Pl e:=nB h λJ J J J J J=>Y
def ix(x i:X):X:=.by (@Qd x i) GP
end X
end W
end
noncomputable def iC(x:AV):Option (Option Int):=match x with
 |.none=>some none
 |.int i=>some (some i)
 |_=>none
noncomputable abbrev iA(lo a st:Option Int)(n:Nat):Int×Int:=Builtin.Slice.sliceAdjust lo a (st.getD 1) n
abbrev lI(lo a st:Option Int)(n:Nat):Nat:=Builtin.Slice.slicePlaces (iA lo a st n).1 (iA lo a st n).2 (st.getD 1)
def dG(l:List AV)(lo a st:Option Int):List AV:=(List.range (lI lo a st l.length)).filterMap λ(k:Nat)=>l[((iA lo a st l.length).1+(k)*st.getD 1).toNat]?
noncomputable def ko(l:List AV)(lo a st:Option Int):List AV:=
 (sliceRange (sliceBounds lo a st l.length).1 (sliceBounds lo a st l.length).2.1 (sliceBounds lo a st l.length).2.2).filterMap (l[·]?)
noncomputable def oR(x:Str)(lo a:Option Int):Str:=if(Builtin.Str.strSliceIndices lo a 1 x.length).length=x.length then x else⟨((Builtin.Str.strSliceIndices lo a 1 x.length).filterMap (x.cps[·]?)).toArray⟩
def TZ(x:AV)(lo a st:Option Int):Do AV:=match x with
 |.tup l=>λQ σ=>(dG l lo a st).length<=sizeLine/\Q (.tup (dG l lo a st)) σ
 |.loc n=>λQ σ=>∃l,(l.length<=sizeLine/\(σ[n]?=some (.list l)\/∃o,σ[n]?=some (.dX o l)))/\Q (.loc σ.length) (σ++[.list (ko l lo a st)])
 |.str x=>λQ σ=>(st=none/\(oR x lo a).length<=sizeLine)/\Q (.str (oR x lo a)) σ
 |_=>λJ J=>False
def d7(x lo a st:AV):Do AV:=λQ σ=>∃l u c,(iC lo=some l/\iC a=some u/\iC st=some c/\c≠some 0)/\TZ x l u c Q σ
section
variable{g:Gl}{n:Nat}{A:Around}{env:Env}{L:Loc}{β δ ah ax:List Addr}{σ aj:Sg}{s s':Shared}{lo hi st:Option Int}
theorem sq(e:iC x=some p)(y:RV h β x r):∃q,r=partValue q/\q.map (·.1)=p:=by
 cases x with
 |none=>exact⟨none,y,aa0 e⟩
 |int i=>exact y.elim λt z=>⟨some (i,t),z,aa0 e⟩
 |_=>exact absurd e.symm (aa8 _)
theorem Uq:IsPart (partValue q) (q.map (·.1)):=by
 cases q with
 |none=>exact .none
 |some p=>exact .int p.1 p.2
theorem xw(e:iC x=some p)(y:RV h β x r):IsPart r p:=(sq e y).elim λq z=>z.1▸z.2▸Uq
theorem ak.pick{h l}{vs:Array Value}(r:ak h β l vs.toList){a:Type}(f:a->Nat)(is:List a):ak h β (is.filterMap λk=>l[f k]?) (is.filterMap λk=>vs[f k]?):=by
 induction is with
 |nil=>rfl
 |cons k is b=>
  cases q:l[f k]? with
  |none=>rw[List.filterMap_cons_none (f:=λk=>l[f k]?) q,List.filterMap_cons_none (f:=λk=>vs[f k]?) (Array.getElem?_eq_none_iff.mpr (ak.size r▸List.getElem?_eq_none_iff.mp q))];exact b
  |some v=>
   obtain⟨u,d,c⟩:=ak.at r q;rw[List.filterMap_cons_some (f:=λk=>l[f k]?) q,List.filterMap_cons_some (f:=λk=>vs[f k]?) d];exact⟨u,_,Y,c,b⟩
theorem Ku(l:List b):(List.range l.length).filterMap (λ(k:Nat)=>l[((0:Int)+(k)*1).toNat]?)=l:=by
 rw[show(λ(k:Nat)=>l[(0+(k:Int)*1).toNat]?)=λk=>l[k]? from funext λk=>by rw[Int.zero_add,Int.mul_one,Int.toNat_natCast]]
 induction l with
 |nil=>rfl
 |cons x l a=>rw[abt,List.range_succ_eq_map,List.filterMap_cons_some (f:=λk=>_[k]?) Y,List.filterMap_map];exact aaU _ a
theorem zm(x:IsPart r p)(h:Q p s):W.wp g A (Builtin.Slice.slicePartIndex r) Q s:=by
 cases x with
 |none=>exact slicePart_none h
 |int i t=>exact slicePart_int h
theorem Nj{sl f d vs}{k:Nat}{Q}(hs:s.heap.IsSliceOf sl f d vs)(pl:IsPart f lo)(pu:IsPart d hi)(ps:IsPart vs st)(j:st≠some 0)(h:Q ((iA lo hi st k).1,st.getD 1,lI lo hi st k) s):
  W.wp g A (Builtin.Slice.sliceApplied (.ref sl) (pure (k))) Q s:=by
 obtain⟨os,a,l,b⟩:=hs
 refine aaV (aaV (wpAny_field a b (x:=f) Y (aaV (wpAny_field a b (x:=d) Y (aaV (wpAny_field a b (x:=vs) Y (abh ?_)))))))
 refine aaV (zm ps ?_)
 have i:¬((st.getD 1==0)=true):=λe=>by
  cases st with
  |none=>exact absurd (abc.mp e) ()
  |some c=>exact j (aaU some (abc.mp e))
 rw[aa_ i]
 exact aaV (zm pl (aaV (zm pu (aaV (abh (abh h))))))
theorem UR(p:s.heap.get? t=some (fg items m))(hs:s.heap.IsSliceOf sl l j vs)(pl:IsPart l lo)(pu:IsPart j hi)(ps:IsPart vs st)(u:st≠some 0)
  (f:(iA lo hi st items.size).1=0->st.getD 1=1->lI lo hi st items.size=items.size->Q (.ref t) s)
  (h:∀i,i=((List.range (lI lo hi st items.size)).filterMap λ(k:Nat)=>items[((iA lo hi st items.size).1+(k)*st.getD 1).toNat]?)->i.length<=sizeLine/\Q (.ref s.heap.objs.size) {s with heap:=s.heap.push (fg i.toArray 0)}):W.wp g A (getItem (.ref t) (.ref sl)) Q s:=by
 have a:IsTup s.heap t items:=⟨_,p,Y,m,Y⟩
 unfold getItem
 try with_reducible refine abQ ?_
 refine aaV (wpAny_sequenceKey a.typeIs () ?_)
 refine aaV (wpAny_callSpecial?_slot a.typeIs PySem.F.slot_tuple_getitem
  (wpAny_call_entry PySem.F.slot_tuple_getitem a.typeIs PySem.F.entry_tuple_getitem ?_ (PySem.F.args_tuple_getitem_2 ..)))
 show wpAny _ _ (Builtin.Tuple.tupleItemsOf _>>=_) _ _ s
 refine aaV (tupleItemsOf_ a ?_)
 refine aaV (wpAny_typeOf (hs.elim λos z=>⟨os,z.1,z.2.1⟩) ?_)
 refine aaV (Nj hs pl pu ps u ?_)
 dsimp only
 unfold lI at f h⊢
 generalize(iA lo hi st items.size).1=b at f h⊢
 generalize Builtin.Slice.slicePlaces b (iA lo hi st items.size).2 _=c at f h⊢
 generalize st.getD 1=d at f h⊢
 obtain⟨w,r⟩:=h _ Y
 by_cases q:(b==0&&d==1&&c==items.size)=true
 .rw[abn q];exact aaV (aaV (wpAny_typeOf a.typeIs (abh (aaV (wpAny_rule (aaV (abh (abh ⟨_,Y,abh (f (abc.mp (af (af q).1).1) (abc.mp (af (af q).1).2) (abc.mp (af q).2))⟩))))))))
 .rw[aa_ q];exact aaV (wpAny_newObj_type (aaV (abh (abh ⟨_,Y,abh r⟩))) (by show Array.size _<=sizeLine;assumption))
theorem At.dX(a:At g β δ σ s){k:Nat}{o l}(e:σ[k]?=some (.dX o l)){x}(c:β[k]?=some x):s.heap.get? x=some o/\∃vs,s.heap.IsList x vs/\ak s.heap β l vs.toList:=by
 obtain⟨d,p,j,b,i,vs,m,h,f⟩:=a.obj e c;exact⟨b,vs,⟨_,b,i,m,h⟩,f⟩
noncomputable abbrev jo(c b a:Value):Obj:={cls:=.type "slice",data:=.fields #[c,b,a]}
theorem ZY{j i h}{l t sl vs m}{Q:W.PX}(a:At g β δ σ s)(hs:s.heap.IsSliceOf sl j i h)(w:IsPart j lo)(u:IsPart i hi)(r:IsPart h st)(x:st≠some 0)(f:s.heap.get? t=some (fg vs m))(b:ak s.heap β l vs.toList)(hz:(dG l lo hi st).length<=sizeLine)(q:Q (.tup (dG l lo hi st)) σ):
  W.wp g A (getItem (.ref t) (.ref sl)) (W.PV g s β δ Q) s:=by
 have sz:=ak.size b
 refine UR f hs w u r x (λd p c=>.intro (v:=.tup _) a ⟨t,vs,m,Y,f,?_⟩ q) λy e=>?_
 .unfold dG;rw[sz] at d c;rw[c,d,p,Ku l];exact b
 .have hp:=ak.pick b (λ(k:Nat)=>((iA lo hi st vs.size).1+(k)*st.getD 1).toNat) (List.range (lI lo hi st vs.size));rw[←e,sz] at hp;exact⟨(ak.length _ _ hp).symm▸hz,At.Ad a hp Y q⟩
theorem slice_list{f d c l t sl vs}{Q:W.PX}(a:At g β δ σ s)(hs:s.heap.IsSliceOf sl f d c)(j:IsPart f lo)(i:IsPart d hi)(h:IsPart c st)(p:st≠some 0)(m:s.heap.IsList t vs)(b:ak s.heap β l vs.toList)(hz:l.length<=sizeLine)(q:Q (.loc σ.length) (σ++[.list (ko l lo hi st)])):
  W.wp g A (getItem (.ref t) (.ref sl)) (W.PV g s β δ Q) s:=by
 have sz:=ak.size b
 refine wpAny_getItem_list_slice m hs j i h p (At.newList a ?_ rfl q) (sz.symm▸hz)
 delta ko slicePick
 exact sz▸ak.pick b id _
theorem W5{c b lo hi}{l u x t sl}{Q:W.PX}(a:At g β δ σ s)(hs:s.heap.IsSliceOf sl c b .none)(e1:iC lo=some l)(e2:iC hi=some u){h p}(f:RV h β lo c)(d:RV p β hi b)(hz:(oR x l u).length<=sizeLine)(q:Q (.str (oR x l u)) σ):
  W.wp g A (getItem (.str x t) (.ref sl)) (W.PV g s β δ Q) s:=by
 obtain⟨w,r1,m⟩:=sq e1 f
 obtain⟨r,i,j⟩:=sq e2 d
 rw[r1,i] at hs
 refine wpAny_getItem_str_slice (st:=none) hs Y ?_
 delta sliceMade slicePicked
 rw[m,j]
 show Made.post (if(1==1&&(Builtin.Str.strSliceIndices l u 1 x.length).length==x.length)=true then Made.val _ else Made.str ⟨((Builtin.Str.strSliceIndices l u 1 x.length).filterMap _).toArray⟩) ..
 delta oR at hz q
 by_cases z:(Builtin.Str.strSliceIndices l u 1 x.length).length=x.length
 .rw[abn z] at q;rw[abn (show((1:Int)==1&&(Builtin.Str.strSliceIndices l u 1 x.length).length==x.length)=true from Bool.and_eq_true_iff.mpr ⟨Y,abc.mpr z⟩)];exact .intro (v:=.str _) a ⟨t,Y⟩ q
 .rw[aa_ z] at hz q;rw[aa_ λe=>z (abc.mp (af e).2)];exact⟨hz,.tok (v:=.str _) a _ ⟨_,Y⟩ q⟩
theorem Og{x lo hi st r f d b}{Q:W.PX}(a:At g β δ σ s)(h:d7 x lo hi st Q σ)(M:RV s.heap β x r)(h1:RV s.heap β lo f)(U:RV s.heap β hi d)(T:RV s.heap β st b):
  GI {s with heap:=s.heap.push (jo f d b)} r/\W.wp g A (getItem r (.ref s.heap.objs.size)) (W.PV g s β δ Q) {s with heap:=s.heap.push (jo f d b)}:=by
 have S0:Step bB s.heap β δ (s.heap.push (jo f d b)) β δ:=Step.push _
 have j:At g β δ σ {s with heap:=s.heap.push (jo f d b)}:=a.heap (a.inv.push _)
 have hs:(s.heap.push (jo f d b)).IsSliceOf s.heap.objs.size f d b:=Heap.IsSliceOf.new ..
 obtain⟨l,u,c,⟨e1,e2,z,N⟩,h⟩:=h
 have fin {t} (h:W.wp g A t (W.PV g {s with heap:=s.heap.push (jo f d b)} β δ Q) {s with heap:=s.heap.push (jo f d b)}):W.wp g A t (W.PV g s β δ Q) {s with heap:=s.heap.push (jo f d b)}:=W.wm h λJ J=>.after S0
 have H:=xw e1 h1
 have D:=xw e2 U
 have B:=xw z T
 cases x with
 |tup xs=>
  apply fA (M.step S0);intro t vs m i p;exact⟨HI i,fin (ZY j hs H D B N i p h.1 h.2)⟩
 |loc k=>
  apply cI M;intro xa w;obtain⟨xs,⟨hz,e⟩,q⟩:=h;rcases e with e|e
  .obtain⟨vs,m,i,p⟩:=j.list e w;exact⟨z6 (eD i),fin (slice_list j hs H D B N (eD i) p hz q)⟩
  .obtain⟨fo,e⟩:=e;obtain⟨_,vs,i,p⟩:=j.dX e w;exact⟨z6 i,fin (slice_list j hs H D B N i p hz q)⟩
 |str y=>
  apply nZ M;intro t;obtain⟨⟨c0,hz⟩,q⟩:=h;obtain⟨q3,r3,c3⟩:=sq z T;have z:b=.none:=by
   cases q3 with
   |none=>exact r3
   |some=>exact absurd (c3.trans c0) (aa8 _)
  subst z;exact⟨⟨"str",_,typeIs_str _ y t,PySem.F.slot_str_getitem.lookup⟩,fin (W5 j hs e1 e2 h1 U hz q)⟩
 |_=>exact h.elim
end
section
def notStar(e:Expr):Bool:=j7 22 e
theorem xk(h:notStar e=true):starEach (e::rest) env=(false,eval e env)::starEach rest env:=by
 cases e<;>first|rfl|exact absurd h aaY
namespace W
open Do
def uU(a:aR)(L:Loc)(o:Option X):Do AV:=match o with
 |none=>ret .none
 |some x=>x.den a L
noncomputable def o5(K:Kd)(o:Option X)(e:Option Expr):Bool:=match o with
 |none=>e.isNone
 |some x=>match e with
  |none=>false
  |some e=>x.aN K e
def Fc(v:AV)(Q:List AV->Sg->Prop)(vs:List AV):Sg->Prop:=Q (v::vs)
def kD(k:Do (List AV))(Q:List AV->Sg->Prop)(v:AV):Sg->Prop:=k (Fc v Q)
def ij(a:aR)(L:Loc):List X->Do (List AV)
 |[]=>ret []
 |x::r=>λQ=>x.den a L (kD (ij a L r) Q)
noncomputable def fz(K:Kd):List X->List Expr->Bool
 |[],es=>es.isEmpty
 |x::r,es=>match es with
  |[]=>false
  |e::es=>(x.aN K e&&notStar e)&&fz K r es
def d7(x lo a st:AV):Do AV:=pr (Mine.Internal.d7 x lo a st)
def MT(a b c:AV)(Q:PX)(d:AV):Sg->Prop:=d7 a b c d Q
def P6(st:Option X)(d:aR)(L:Loc)(Q:PX)(a b c:AV):Sg->Prop:=uU d L st (MT a b c Q)
def TS(d st:Option X)(c:aR)(L:Loc)(Q:PX)(a b:AV):Sg->Prop:=uU c L d (P6 st c L Q a b)
def NK(lo c st:Option X)(b:aR)(L:Loc)(Q:PX)(a:AV):Sg->Prop:=uU b L lo (TS c st b L Q a)
def Vf(Q:PX)(vs:List AV):Sg->Prop:=Q (.tup vs)
def w9(Q:PX)(vs:List AV)(σ:Sg):Prop:=Q (.loc σ.length) (σ++[.list vs])
section
variable{g:Gl}{n:Nat}{Φ:aR}{A:Around}{env:Env}{L:Loc}{β δ ah ax:List Addr}{σ aj:Sg}{s s':Shared}{Q:PX}
theorem sv(R:Run g n Φ A env L β δ σ s)(a:o5 env.kindOf x e=true)(b:uU Φ L x Q σ)
  (k:∀{v r aj s' ah ax},Run g n Φ A env L ah ax aj s'->Step bB s.heap β δ s'.heap ah ax->RV s'.heap ah v r->Q v aj->P r s'):wp g A (evalPart e env) P s:=by
 cases x with
 |none=>
  exact(Option.isNone_iff_eq_none.mp a)▸abh (k R .refl (show RV s.heap β .none .none from Y) b)
 |some x=>
  cases e with
  |none=>exact absurd a aaY
  |some e=>exact cD R a b k
theorem p9{K x l es}{M:List Expr->Prop}(h:fz K (x::l) es=true)(k:∀e r,notStar e=true->x.aN K e=true->fz K l r=true->M (e::r)):M es:=by
 cases es with
 |nil=>exact absurd h aaY
 |cons e r=>exact k e r (af (af h).1).2 (af (af h).1).1 (af h).2
theorem zg{pos}(l):∀(es){β δ σ s Q P},Run g n Φ A env L β δ σ s->fz env.kindOf l es=true->ij Φ L l Q σ->
  (∀{vs i aj s' ah ax},Run g n Φ A env L ah ax aj s'->Step bB s.heap β δ s'.heap ah ax->ak s'.heap ah vs i->vs.length=l.length->Q vs aj->P i s')->wp g A (spliced (backTo pos (starEach es env))) P s:=by
 induction l with
 |nil=>
  exactλes β δ σ s Q P R f h k=>(abD.mp f)▸wpAny_items_nil (k R .refl (show ak s.heap β [] [] from Y) Y h)
 |cons x l m=>
  intro es β δ σ s Q P R f h k;apply p9 f;intro e r hs t p;exact wpAny_items_cons (cD R t h λd b z q=>m r d p q λc a j hz=>k (vs:=_::_) c (b.trans a) ⟨_,_,Y,z.step a,j⟩ (aaU _ hz)) (xk hs)
end
theorem toArr(z:ak h β l a):ak h β l a.toArray.toList:=z
namespace X
theorem XU(x:X)(lo B st):bY (λw L Q=>x.den w L (NK lo B st w L Q)) (λK e=>kH e λo j=>x.aN K o&&v9 j λl u t=>o5 K lo l&&(o5 K B u&&o5 K st t)):=λ{g n w A env L β U σ s Q e}R T N=>by
 apply nB T;intro o j pos z
 apply CP (af z).2;intro l u t pos' y
 refine As (cD R (af z).1 N λr d M q=>wpAny_Slice (sv r (af y).1 q λm b H q=>sv m (af (af y).2).1 q λi c D q=>sv i (af (af y).2).2 q λf a zd q=>?_))
 have S:=c.trans a
 exact(Og f.at_ (f_ q) (M.step (b.trans S)) (H.step S) (D.step a) zd).imp id λh=>wm h λJ J p=>.after (d.trans (b.trans S)) p
def slice(x:X)(lo a st:Option X):X:=.by (@XU x lo a st) GP
theorem UL(l)(c:l.length<=sizeLine):bY (λa L Q=>ij a L l (Vf Q)) (λK e=>pj e λes=>fz K l es):=λ{g n a A env L β i σ s Q e}R f d=>by
 apply m3 f;intro es k pos b
 exact wpAny_Tuple (zg l es R b d λh S z hz q=>⟨(ak.length _ _ z).trans hz▸c,.after S (At.Ad h.at_ (toArr z) Y q)⟩)
def tup(l:List X)(a:l.length<=sizeLine:=by decide):X:=.by (@UL l a) λh=>m3 h λJ J J J J J=>Y
theorem YQ(l)(c:l.length<=sizeLine):bY (λa L Q=>ij a L l (w9 Q)) (λK e=>Hp e λes=>fz K l es):=λ{g n a A env L β i σ s Q e}R f d=>by
 apply By f;intro es pos b
 exact wpAny_List (zg l es R b d λh S z hz q=>⟨(ak.length _ _ z).trans hz▸c,.after S (At.newList h.at_ (toArr z) Y q)⟩)
def list(l:List X)(a:l.length<=sizeLine:=by decide):X:=.by (@YQ l a) λh=>By h λJ J J J J=>Y
end X
theorem newDict(a:At g β b σ s)(ks)(c:r=.ref s.heap.objs.size)(q:Q (.loc σ.length) (σ++[.dict ks []])):PV g s β b Q r {s with heap:=s.heap.push {cls:=.type "dict",data:=.dict #[]}}:=
 a.new (ao:=.dict ks []) jH eg sV sV ⟨Y,⟨_,#[],0,abU _ Y,⟨Y,Y,Y⟩,Y,Y⟩,ab6⟩ c q
def QH(k:Str)(n:Nat)(Q:PX)(v:AV)(σ:Sg):Prop:=σ[n]?=some (.dict .str [])/\PyData.strOk k=true/\Q (.loc n) (σ.set n (.dict .str [(.str k,v)]))
namespace X
theorem VO(ks):bY (λJ J Q σ=>Q (.loc σ.length) (σ++[.dict ks []])) (λK e=>su e λk v=>k.isEmpty&&v.isEmpty):=λR f d=>by
 apply yy f;intro a b pos c
 rw[abD.mp (af c).1,abD.mp (af c).2]
 exact wpAny_Dict_empty (newDict R.at_ ks Y d)
theorem Bp{p e}(h:su e p=true):Pl e:=yy h λJ J J J J J=>Y
def g9(ks:KS):X:=.by (@VO ks) Bp
noncomputable def xW(o:Option Expr)(p:Expr->Bool):Bool:=match o with
 |some e=>p e
 |.none=>false
theorem E7{o p}{M:Option Expr->Prop}(h:xW o p=true)(k:∀e,p e=true->M (some e)):M o:=by
 cases o with
 |none=>exact absurd h aaY
 |some e=>exact k e h
theorem Xo(k)(x:X):bY (λΦ L Q σ=>x.den Φ L (QH k σ.length Q) (σ++[.dict .str []])) (λK e=>su e λks vs=>one ks λc=>one vs λe=>xW c (λc=>j6 c λc=>c==.str k)&&x.aN K e):=λ{g n Φ A env L β δ σ s Q e}R hc hd=>by
 apply yy hc;intro ks vs pos j
 apply fu j;intro c j
 apply fu j;intro e j
 apply E7 (af j).1;intro c p
 apply yj p;intro c kk cp p
 rw[abc.mp p]
 obtain⟨u,H,U,N,a,d,hv,e1⟩:=newDict (Q:=λv σ=>v=.loc _/\σ=_) R.at_ .str Y ⟨Y,Y⟩
 rw[e1.1] at hv
 rw[e1.2] at a
 obtain⟨xa,w,e2⟩:=hv
 have e2:=Value.ref.inj e2
 subst e2
 refine wpAny_Dict_walk (knd:=strKind g.prog g.w) Y Y (List.cons_ne_nil _ _) (():1<=15) (pairTrees_cons_walk (wpAny_Constant_str ?_))
 refine cD ((R.next a d).toks _) (af j).2 hd λ{u r D fI T M}f b z q=>pairTrees_nil_walk ?_
 have i:=b.pre _ _ w
 obtain⟨kvs,d1,rfl⟩:=f.at_.x6 qb q.1 i
 exact⟨[(k,r)],⟨(qb.is s.heap β k _).mpr ⟨_,Y⟩,Y,trivial⟩,d1,λh' B y=>(f.at_.Hd qb (es':=[_]) (P:=λJ=>PV g s β δ Q _) q.1 i y B ⟨(k,r),[],Y,Y,z,Y⟩ (abv.mpr ⟨abo,ab6⟩) λh t l m=>⟨.loc _,_,_,_,l,d.trans (Step.trans b m),⟨_,i,Y⟩,q.2.2⟩)⟩
def Tb(k:Str)(x:X):X:=.by (@Xo k x) Bp
end X
def EU(n m:Nat):Do AV:=λQ σ=>∃a b,(σ[n]?=some (.list a)/\σ[m]?=some (.list b)/\a.length+b.length<=sizeLine)/\Q (.loc σ.length) (σ++[.list (a++b)])
def ED(x y:AV):Do AV:=match x with
 |.int a=>match y with
  |.int b=>ret (.int (a+b))
  |_=>no
 |.tup a=>match y with
  |.tup b=>λQ σ=>(a≠[]/\b≠[]/\a.length+b.length<=sizeLine)/\Q (.tup (a++b)) σ
  |_=>no
 |.loc n=>match y with
  |.loc m=>pr (EU n m)
  |_=>no
 |_=>no
theorem Ol(g)(a:s.heap.get? l=some (cZ vs m))(c:s.heap.get? b=some (cZ ws k))
  (h:Q (.ref s.heap.objs.size) {s with heap:=s.heap.push (cZ (vs++ws) 0)})(hsz:vs.size+ws.size<=sizeLine):wp g A (binaryOp .Add (.ref l) (.ref b)) Q s:=PySem.P.add_list a c h hsz
theorem ak.z5{h β l m}{vs us:Array Value}(a:ak h β l vs.toList)(b:ak h β m us.toList):ak h β (l++m) (vs++us).toList:=Array.toList_append▸ak.append _ _ _ _ a b
theorem full{h β l}{vs:Array Value}(r:ak h β l vs.toList)(n:l≠[]):¬vs.isEmpty=true:=λz=>n (List.eq_nil_of_length_eq_zero ((ak.size r).symm.trans (Array.isEmpty_iff_size_eq_zero.mp z)))
theorem Ny:gy .Add ED:=λ{g n A β L σ s Q x y r t}a R h z p=>by
 cases x with
 |int i=>
  cases y with
  |int j=>
   apply eL z;intro u;apply eL p;intro w;exact PySem.P.add_int (.tok (v:=.int _) a _ ⟨_,Y⟩ h)
  |_=>exact h.elim
 |tup l=>
  cases y with
  |tup l'=>
   apply fA z;intro T vs m B f;apply fA p;intro tb us k d b;exact PySem.P.add_tuple B d (full f h.1.1) (full b h.1.2.1) (At.Ad a (ak.z5 f b) Y h.2) (by rw[ak.size f,ak.size b];exact h.1.2.2)
  |_=>exact h.elim
 |loc i=>
  cases y with
  |loc j=>
   apply cI z;intro N H;apply cI p;intro M D;obtain⟨l,l',c,q⟩:=f_ h;obtain⟨vs,m,B,f⟩:=a.list c.1 H;obtain⟨us,k,d,b⟩:=a.list c.2.1 D;exact Ol g B d (At.newList a (ak.z5 f b) Y q) (by rw[ak.size f,ak.size b];exact c.2.2)
  |_=>exact h.elim
 |_=>exact h.elim
namespace X
abbrev add:=bin ED Ny
end X
end W
end
section
def isField(C:Addr)(a:V):Bool:=(CT.lookup C).any λp=>p.1.contains a
noncomputable def sX(v:AV):Bool:=match v with
 |.raw _=>false
 |_=>true
def zu(e:Expr):Bool:=j7 16 e
section
variable{g:Gl}{n:Nat}{A:Around}{env:Env}{β δ ah ax:List Addr}{σ aj:Sg}{s s':Shared}
theorem At.inst(a:At g β δ σ s){k:Nat}{C}{fs:List (V×AV)}(e:σ[k]?=some (.inst C fs)){x}(f:β[k]?=some x):
  ∃d arr m,(δ[k]?=some d/\x≠d)/\InstAt s.heap x (instObj C d) C (some (dictOf arr m))/\(s.heap.get? x=some (instObj C d)/\s.heap.get? d=some (dictOf arr m))/\cx s.heap β fs arr/\(fs.map (·.1)).Nodup:=by
 obtain⟨d,l,j,c,⟨arr,m,b,i⟩,h⟩:=a.obj e f
 exact⟨d,arr,m,⟨l,j⟩,⟨c,Y,Y,b⟩,⟨c,b⟩,i,h⟩
theorem Ar(h:isField C a=true):∃p,CT.lookup C=some p/\a∈p.1:=(any_some h).imp λp q=>q.imp id List.contains_iff_mem.mp
theorem AG(x y t):(Value.str (nm y) t).isStr (nm x)=decide (y=x):=(Y).trans (ab8.mpr ⟨pH,aaU nm⟩)
section
variable{h:Heap}{x:V}{v:AV}
theorem KH(e:((y,u)::fs).lookup x=some v):(y=x/\u=v)\/(y≠x/\fs.lookup x=some v):=by
 rw[abX] at e;cases q:x==y with
 |true=>rw[q] at e;exact .inl ⟨(abc.mp q).symm,aa0 e⟩
 |false=>rw[q] at e;exact .inr ⟨λz=>abJ.mp q z.symm,e⟩
theorem EL{e:DictEntry}{t:List DictEntry}{y u}(k:e.key=.str (nm y) u):(e::t).find? (·.key.isStr (nm x))=if y=x then some e else t.find? (·.key.isStr (nm x)):=by
 rw[List.find?_cons,k,AG];by_cases q:y=x
 .rw[abn q,aba q]
 .rw[aa_ q,abf q]
theorem cx.find(fs:List (V×AV)):∀es:List DictEntry,cx h β fs es->fs.lookup x=some v->∃e,es.find? (·.key.isStr (nm x))=some e/\RV h β v e.val:=by
 induction fs with
 |nil=>exactλJ J e=>absurd e.symm (aa8 _)
 |cons p fs a=>
  intro es z;apply z.e;intro e t u k b c d;rw[EL k];rcases KH d with q|q
  .rw[abn q.1];exact⟨e,Y,q.2▸b⟩
  .rw[aa_ q.1];exact a t c q.2
theorem cx.length(fs):∀es,cx h β fs es->es.length=fs.length:=by
 induction fs with
 |nil=>exactλes e=>(e)▸Y
 |cons p fs a=>
  intro es z;apply z.e;intro e t u k c b;exact aaU _ (a t b)
theorem cx.noRef(fs:List (V×AV)):∀es:List DictEntry,cx h β fs es->es.any (·.refKey)=false:=by
 induction fs with
 |nil=>exactλes e=>(e)▸Y
 |cons p fs a=>
  intro es z;apply z.e;intro e t u k c b;rw[List.any_cons,a t b,Bool.or_false];unfold DictEntry.refKey;rw[k]
theorem cx.none(fs:List (V×AV)):∀es:List DictEntry,cx h β fs es->fs.all (λp=>p.1 !=x)=true->es.find? (·.key.isStr (nm x))=none:=by
 induction fs with
 |nil=>exactλes e J=>(e)▸Y
 |cons p fs b=>
  intro es z;apply z.e;intro e t u k d c a;rw[EL k,aa_ (bne_iff_ne.mp (af a).1)];exact b t c (af a).2
end
structure LF(K C):Prop where
 ga:findIn K (.ref C) "__getattribute__"=some (some (.builtin "object.__getattribute__"))
 gk:findIn K (.ref C) "__getattr__"=some none
 sa:findIn K (.ref C) "__setattr__"=some (some (.builtin "object.__setattr__"))
 po:plainOver K C=true
 hd:(clsIn K C).any (·.hasDict)=true
 Ed:makesIn K C=true
theorem qm{K C fs ms}(h:yJ K C fs ms=true):LF K C/\(∀a∈fs,findIn K (.ref C) (nm a)=some none)/\(∀p∈ms,findIn K (.ref C) (nm p.1)=some (some (.ref p.2))/\typeIn K (.ref p.2)=some (.type "function")):=by
 obtain⟨h,b⟩:=af h;obtain⟨h,c⟩:=af h;obtain⟨h,d⟩:=af h;obtain⟨h,f⟩:=af h;obtain⟨h,i⟩:=af h;obtain⟨h,j⟩:=af h;obtain⟨q,l⟩:=af h;exact⟨⟨abc.mp q,abc.mp l,abc.mp j,i,f,b⟩,λa m=>abc.mp (abd.mp d a m),λp m=>(af (abd.mp c p m)).imp abc.mp abc.mp⟩
theorem QX(n:sX v=true)(x:RV h β v r):handedIn r=true:=by
 cases v with
 |none=>apply vr x;rfl
 |bool b=>apply yP x;rfl
 |int i=>apply eL x;intro _;rfl
 |str i=>apply nZ x;intro _;rfl
 |tup l=>apply fA x;intro _ _ _ _ _;rfl
 |loc k=>apply cI x;intro _ _;rfl
 |raw v=>exact absurd n aaY
theorem CD(attr env whole)(h:zu o=true):attributeBase o attr env whole=whole:=by
 cases o<;>first|rfl|exact absurd h aaY
theorem Pw(value attr pos env):eval (.Attribute value attr pos) env=(do
  let o ←attributeBase value attr env (eval value env)
  standAt pos.atName
  let r ←holding [o] (getAttr o attr true)
  letTemporaryGo value o r
  pure r):=rfl
end
namespace W
open Do
def uc(K:Kd)(x:V)(c:Str):Bool:=(c==nm x&&K (nm x)==some .globalImplicit)&&!(nm x==("__debug__"))
def qn(C:Addr)(fs:List (V×AV))(a:V):Option AV:=bif isField C a then(match fs.lookup a with
 |some v=>bif sX v then some v else none
 |none=>none) else none
def gA(a:V)(o:AO):Do AV:=match o with
  |.inst C fs=>eF (qn C fs a)
  |_=>no
def jX(x:AV)(a:V):Do AV:=match x with
 |.loc n=>hp n (gA a)
 |_=>no
def kA(a:V)(Q:PX)(v:AV):Sg->Prop:=jX v a Q
section
variable{g:Gl}{n:Nat}{Φ:aR}{A:Around}{env:Env}{L:Loc}{β δ ah ax:List Addr}{σ aj:Sg}{s s':Shared}{Q:PX}
theorem LJ(h:qn C fs a=some v):isField C a=true/\fs.lookup a=some v/\sX v=true:=by
 obtain⟨c,h⟩:=kG h;cases e:fs.lookup a with
 |none=>rw[e] at h;exact absurd h.symm (aa8 _)
 |some u=>
  rw[e] at h;obtain⟨b,h⟩:=kG h;exact⟨c,h,aa0 h▸b⟩
theorem NH{K C cd}{es:List DictEntry}{m x e}(c:clsIn K C=some cd)(b:cd.hasDict=true)(a:findIn K (.ref C) x=some none)(q:es.find? (·.key.isStr x)=some e):findObj K C (some (dictOf es m)) x=some (.value e.val):=by
 unfold findObj;rw[c,Option.bind_some,a,Option.bind_some];dsimp only;unfold PySem.W.ownOf;rw[abn b];dsimp only;rw[lookIn_dict];unfold getL;rw[q];rfl
theorem Ap{x f r expr}(a:At g β δ σ s)(h:jX x f Q σ)(y:RV s.heap β x r):wp g A (getAttr r (nm f) expr) (PV g s β δ Q) s:=by
 cases x with
 |loc k=>
  apply cI y;intro M b;obtain⟨o,e1,h⟩:=ej h;cases o with
  |inst C fs=>
   obtain⟨v,e,q⟩:=gh h;obtain⟨H,D,z⟩:=LJ e;obtain⟨p,hp,B⟩:=Ar H;obtain⟨F,c,_⟩:=qm (g.ct _ _ hp);obtain⟨d,arr,m,_,i,_,w,_⟩:=a.inst e1 b;obtain⟨N,u,t⟩:=cx.find _ _ w D;obtain⟨cd,l,j⟩:=any_some F.hd;exact get_value a.X i F.ga (NH l j (c _ B) u) (QX z t) (.tok a _ t q)
  |_=>exact h.elim
 |_=>exact h.elim
theorem CU(R:Run g n Φ A env L β δ σ s)(a:uc env.kindOf x c=true)(d:GT.lookup x=some v)(h:∀r,RV s.heap β v r->P r s):wp g A (eval (.Name c pos) env) P s:=by
 obtain⟨a,f⟩:=af a;obtain⟨r,j,i⟩:=g.gt _ _ d;exact(abc.mp (af a).1)▸Calls.Name_function_global R.fr.kind (abc.mp (af a).2) (Calls.loadGlobal_global (R.fr.glob▸g.G.keeps R.at_.keep) j (h r (RV.mono (λb J J=>R.at_.keep b _) (λJ J e=>absurd e.symm (aa8 _)) _ _ i))) (gJ f)
end
namespace X
theorem Vk(x a):bY (λJ J=>ret a) (λK e=>asName e λc=>uc K x c&&decide (GT.lookup x=some a)):=λ{g n i A env L β h σ s Q e}R f d=>by
 apply oP f;intro c pos b
 exact CU R (af b).1 (abl (af b).2) λr z=>.intro R.at_ z d
def g(x:V)(a:AV):X:=.by (@Vk x a) GB
theorem Lo(x:X)(a):bY (λh L Q=>x.den h L (kA a Q)) (λK e=>oq e λo c J=>(c==nm a&&x.aN K o)&&zu o):=λ{g n h A env L β m σ s Q e}R l j=>by
 apply qO l;intro o c pos f
 rw[abc.mp (af (af f).1).1,Pw,CD _ _ _ (af f).2]
 exact aaV (cD R (af (af f).1).2 j λd b z q=>aaV (abL (aaV (abQ (wm (Ap d.at_ q z) λr i p=>aaV (wpAny_letTemporaryGo (abh (.after b p))))))))
theorem LP{p e}(h:oq e p=true):Pl e:=qO h λJ J J J J J=>Y
def attr(x:X)(a:V):X:=.by (@Lo x a) LP
end X
end W
end
section
theorem Mk(id p)(args:List Expr)(pos env):eval (.Call (.Name id p) args [] pos) env=(do
  callWith pos (←eval (.Name id p) env) [] (backTo pos (starEach args env)) (backToKw pos (keywordEach [] env))):=rfl
theorem iV{a γ:Type}[BEq a][LawfulBEq a]{x v}{l:List (a×γ)}:l.lookup x=some v->(x,v)∈l:=by
 induction l with
 |nil=>exactλh=>absurd h.symm (aa8 _)
 |cons p l b=>
  intro h;rw[abX] at h;cases q:x==p.1 with
  |true=>rw[q] at h;rw[abc.mp q,←aa0 h];exact .head _
  |false=>rw[q] at h;exact .tail _ (b h)
theorem aan:nm 64="__init__":=by kernel_rfl
theorem Kv(C rest kw)(A:Around):(A.under (.builtin "type.__call__" ⟨.ref C::rest,kw⟩)).handled=A.handled/\(A.under (.builtin "type.__call__" ⟨.ref C::rest,kw⟩)).depth<=A.depth+1/\(A.under (.builtin "type.__call__" ⟨.ref C::rest,kw⟩)).units<=A.units+12:=
 ⟨Y,aa3 (Nat.le_of_ble_eq_true Y) _,aa3 (Nat.le_of_ble_eq_true Y) _⟩
def uO(C:Addr)(a:V):Option Addr:=(CT.lookup C).bind λp=>p.2.lookup a
theorem Cy(h:uO C a=some f):∃p,CT.lookup C=some p/\(a,f)∈p.2:=(Option.bind_eq_some_iff.mp h).imp λp q=>q.imp id iV
namespace W
open Do
section
variable{g:Gl}{n:Nat}{Φ:aR}{A:Around}{env:Env}{L:Loc}{β δ ah ax:List Addr}{σ aj:Sg}{s s':Shared}{Q:PX}
theorem Dw{pos K}(env)(l:List X):∀es:List Expr,fz K l es=true->(backTo pos (starEach es env)).any (·.1)=false/\(backTo pos (starEach es env)).all (λx=>!x.1)=true:=by
 induction l with
 |nil=>exactλes h=>(abD.mp h)▸⟨Y,Y⟩
 |cons x l a=>
  intro es h;apply p9 h;intro e r hs _ b;exact(xk hs)▸a r b
def zc(g:Gl)(n:Nat)(Φ:aR)(A:Around)(env:Env)(L:Loc)(β δ:List Addr)(s:Shared)(Q:List AV->Sg->Prop)(P:List Value->Shared->Prop):Prop:=
 ∀{vs a aj s' ah ax},Run g n Φ A env L ah ax aj s'->Step bB s.heap β δ s'.heap ah ax->ak s'.heap ah vs a->Q vs aj->P a s'
variable{Ql:List AV->Sg->Prop}
theorem x_(R:Run g n Φ A env L β δ σ s)(a:fz env.kindOf l es=true)(b:ij Φ L l Ql σ)(k:zc g n Φ A env L β δ s Ql λc=>P ⟨c,[]⟩):wp g A (evalArgs f true (backTo pos (starEach es env)) []) P s:=by
 cases l with
 |nil=>
  exact(abD.mp a)▸evalArgs_nil3 (k R .refl (show ak s.heap β [] [] from Y) b)
 |cons x l=>
  have:=zg (pos:=pos) _ es R a b λR S z J=>k R S z
  revert this
  apply p9 a;intro e r hs _ _;exact(xk hs)▸Calls.evalArgs_plain
def callee(f:Value):Prop:=(∃a∈FT,f=.ref a)\/(∃id,f=.builtin id)\/∃T,f=.type T
theorem wX(i:callee f)(R:Run g n Φ A env L β δ σ s)(b:fz env.kindOf l es=true)(c:ij Φ L l Ql σ)
  (k:zc g n Φ A env L β δ s Ql λh=>wp g A (call f (first++h)) P):wp g A (callWith pos f first (backTo pos (starEach es env)) (backToKw pos (keywordEach [] env))) P s:=by
 have pl:=(Dw (pos:=pos) env l es b).1
 rcases i with⟨a,m,e⟩|⟨id,e⟩|⟨T,e⟩<;>subst e
 .exact callWith_of (by rw[pl];rfl) (keeps_K (g.ft a m)) (x_ R b c λd S z q=>⟨d.at_.X,k d S z q⟩)
 .exact Calls.callWith_builtin pl (x_ R b c k)
 .exact PyProof.Rows.callWith_type pl (x_ R b c k)
theorem zC(h:qx g n Φ)(r:dI A n)(e:Φ 0 f vs Q σ)(a:At g β δ σ s)(z:ak s.heap β vs b):wp g A (call (.ref f) b) (PV g s β δ Q) s:=
 wpAny_call (codeAny_mono ((h 0 f vs Q σ e).2 A r β δ s b a z) λc s' q=>by
  rcases c with x|(x|_|_|_)<;>first|exact q|cases q)
end
def o9(x:V)(f:Addr)(l:List X)(K:Kd)(e:Expr):Bool:=oI e λa es kw J=>(kw.isEmpty&&asName a λc=>uc K x c&&(decide (GT.lookup x=some (.raw (.ref f)))&&FT.contains f))&&fz K l es
theorem YJ{x}{f l K e}{M:Expr->Prop}(h:o9 x f l K e=true)(k:∀c p es pos,uc K x c=true->GT.lookup x=some (.raw (.ref f))->f∈FT->fz K l es=true->M (.Call (.Name c p) es [] pos)):M e:=by
 apply oQ h;intro d es kw pos a;rw[abD.mp (af (af a).1).1];apply oP (af (af a).1).2;intro c p b;exact k c p es pos (af b).1 (abl (af (af b).2).1) (List.contains_iff_mem.mp (af (af b).2).2) (af a).2
theorem pN(h:oI e p=true):Pl e:=oQ h λJ J J J J J J=>Y
section
variable{g:Gl}{n:Nat}{Φ:aR}{A:Around}{env:Env}{L:Loc}{β δ ah ax:List Addr}{σ aj:Sg}{s s':Shared}{Q:PX}{Ql:List AV->Sg->Prop}
theorem xU{x}{f l e P}(R:Run g n Φ A env L β δ σ s)(d:o9 x f l env.kindOf e=true)(b:ij Φ L l Ql σ)(k:zc g n Φ A env L β δ s Ql λa=>wp g A (call (.ref f) a) P):wp g A (eval e env) P s:=by
 apply YJ d;intro c p es pos m j i h;exact aaV (CU R m j λr z=>(z)▸wX (.inl ⟨f,i,Y⟩) R h b k)
theorem AP(a:At g β δ σ s)(C)(d:r=.ref (s.heap.objs.size+1))(q:Q (.loc σ.length) (σ++[.inst C []])):PV g s β δ Q r {s with heap:=(s.heap.push emptyDict).push (instObj C s.heap.objs.size)}:=by
 have hz:((s.heap.push emptyDict).push (instObj C s.heap.objs.size)).objs.size=s.heap.objs.size+2:=by rw[ab1,ab1]
 have c:=abU (s.heap.push emptyDict) (o:=instObj C s.heap.objs.size) Y;rw[ab1] at c;exact a.new (ao:=.inst C []) (hz▸aaW _ 2) (λb o e=>eg b o (eg b o e)) ⟨ab7 _,hz▸ab3 _⟩ ⟨aaX _,hz▸abW ()⟩ ⟨Nat.succ_ne_self _,c,⟨[],0,eg _ _ (abU _ Y),Y⟩,ab6⟩ d q
end
def kF(a:aR)(f:Addr)(Q:PX)(vs:List AV):Sg->Prop:=a 0 f vs Q
def BU(k:Nat)(Q:PX)(v:AV)(σ:Sg):Prop:=v=.none/\Q (.loc k) σ
def vL(b:aR)(C a:Addr)(Q:PX)(vs:List AV)(σ:Sg):Prop:=b 1 a (.loc σ.length::vs) (BU σ.length Q) (σ++[.inst C []])
namespace X
theorem VT(x f l):bY (λc L Q=>ij c L l (kF c f Q)) (o9 x f l):=λR h d=>
 xU R h d λa b z q=>wm (zC a.iX a.room q a.at_ z) λJ J=>.after b
def call(x:V)(f:Addr)(l:List X):X:=.by (@VT x f l) pN
theorem Za{A B n}(r:dI A n)(k:1<n)(u:B.handled=A.handled/\B.depth<=A.depth+1/\B.units<=A.units+12):dI B (n-1):=by
 cases n with
 |zero=>exact absurd k (Nat.not_lt_zero _)
 |succ m=>exact⟨u.1.trans r.hd,aaZ (aaS (aa2 u.2.1 m) (aa7 (abT A.depth 1 m))) r.dp,aaS (aa2 (aaS (aa2 u.2.2 _) (aa7 (abT A.units 12 _))) 60) r.un⟩
theorem ZC{g n M}{A β u σ s}{C l Q vs y}(T:qx g n M)(r:dI A n)(a:At g β u σ s)(z:ak s.heap β vs y)(hm:makesIn g.K C=true)(hi:findIn g.K (.ref C) "__init__"=some (some (.ref l)))(U:typeIn g.K (.ref l)=some (.type "function"))(q:vL M C l Q vs σ):wp g A (PySem.call (.ref C) y) (PV g s β u Q) s:=by
 obtain⟨w,D,d,c,h,j,b,e⟩:=AP (Q:=λv τ=>v=.loc σ.length/\τ=σ++[.inst C []]) a C Y ⟨Y,Y⟩;rw[e.1] at b;rw[e.2] at h;obtain⟨hk,m⟩:=T 1 _ _ _ _ q;obtain⟨hh,gg,dd,tt,oo⟩:=s;refine wpAny_call (make_core (makes_of a.X hm) (looks_findIn a.X hi) (λself=>bind_fn a.X self U) (.inl Y) (codeAny_mono (m _ (Za r hk (Kv C y [] A)) d c _ _ h ⟨_,_,Y,b,z.step j⟩) λN s' w=>?_));have fin:∀{v},PV g _ d c (BU σ.length Q) v s'->v=.none/\PV g _ β u Q _ s':=λp=>by
  obtain⟨v,B,L,H,t,i,f,q⟩:=p;rw[q.1] at f;exact⟨f,_,_,_,_,t,j.trans i,b.step i,q.2⟩
 rcases N with x|(x|_|_|v)<;>first|exact w.elim|exact fin w
theorem Kf(x C b l):bY (λd L Q=>ij d L l (vL d C b Q)) (λK e=>o9 x C l K e&&uO C 64==some b):=λ{g n d A env L β r σ s Q e}R i m=>by
 obtain⟨p,hp,j⟩:=Cy (abc.mp (af i).2)
 obtain⟨F,_,f⟩:=qm (g.ct _ _ hp)
 have h:=f _ j
 exact xU R (af i).1 m λa c z q=>wm (ZC a.iX a.room a.at_ z F.Ed h.1 h.2 q) λJ J=>.after c
def new(x:V)(C a:Addr)(l:List X):X:=.by (@Kf x C a l) λh=>pN (af h).1
theorem VL{g A}{β c σ s C}{Q:PX}(a:At g β c σ s)(d:makesIn g.K C=true)(h:findIn g.K (.ref C) "__init__"=some (some (.builtin "object.__init__")))(q:Q (.loc σ.length) (σ++[.inst C []])):wp g A (PySem.call (.ref C) []) (PV g s β c Q) s:=by
 obtain⟨f,j,l,tt,i⟩:=s;refine wpAny_call (make_core (makes_of a.X d) (looks_findIn a.X h) (λself=>Looks.of_pure (oi_bind self)) (.inr ⟨Y,Y⟩) ?_);have hz:=abU (f.push emptyDict) (o:=instObj C f.objs.size) Y;rw[ab1] at hz;exact codeAny_call_builtin oi_plain entry_oi (@check_slot _ _ _ _ "object.__init__" "object" "__init__" _ [] [] _ oi_kind oi_split (((Looks.ld hz).andThen .now).andThen ((makes_of a.X d).top.keeps λb o e=>eg b o (eg b o e))) (oi_args _) (abh (And.intro Y (AP a C Y q))))
theorem V2(x C):bY (λJ J Q σ=>Q (.loc σ.length) (σ++[.inst C []])) (λK e=>(o9 x C [] K e&&(CT.lookup C).isSome)&&OT.contains C):=λ{g n m A env L β l σ s Q e}R c j=>by
 obtain⟨q,i⟩:=Option.isSome_iff_exists.mp (af (af c).1).2
 exact xU (Ql:=λvs σ=>vs=[]/\Q (.loc σ.length) (σ++[.inst C []])) R (af (af c).1).1 ⟨Y,j⟩ λ{vs p d s₁ h f}b a z q=>((q.1▸z)▸wm (VL b.at_ (qm (g.ct _ _ i)).1.Ed (g.oi C (List.contains_iff_mem.mp (af c).2)) q.2) λJ J=>.after a)
def C3(x:V)(C:Addr):X:=.by (@V2 x C) λh=>pN (af (af h).1).1
end X
end W
end
section
inductive MK where
 |fn(f:Addr)|app|pop|get
noncomputable def MK.callee(m:MK):Value:=match m with
 |.fn f=>.ref f
 |.app=>.builtin "list.append"
 |.pop=>.builtin "list.pop"
 |.get=>.builtin "dict.get"
theorem Zh:nm 93="append":=by kernel_rfl
theorem PG:nm 209="pop":=by kernel_rfl
theorem aaF:nm 136="get":=by kernel_rfl
section
variable{h:Heap}{β:List Addr}
theorem ak.dropLast(l):∀vs,ak h β l vs->ak h β l.dropLast vs.dropLast:=by
 induction l with
 |nil=>exactλvs e=>(e)▸Y
 |cons x l b=>
  intro vs z;apply z.e;intro v r c a;cases l with
  |nil=>exact(a)▸Y
  |cons y l=>
   have i:=b r a;revert i;apply a.e;intro u t _ _ i;exact⟨v,_,Y,c,i⟩
theorem QK(r:cx h β fs es)(c:fs.all (λp=>p.1 !=a)=true):shadowIn (some (dictOf es m)) (nm a)=some false:=by
 unfold shadowIn;dsimp only;rw[lookIn_dict];unfold getL;rw[cx.none fs es r c];rw[aa_ ((cx.noRef fs es r)▸aaY)];rfl
end
namespace W
open Do
def L9(n:Nat)(x:AV)(o:AO):Do AV:=match o with
  |.list l=>λQ σ=>l.length<=sizeLine/\Q .none (σ.set n (.list (l++[x])))
  |_=>no
def v8(v x:AV):Do AV:=match v with
 |.loc n=>hp n (L9 n x)
 |_=>no
def LY(n:Nat)(o:AO):Do AV:=match o with
  |.list l=>λQ σ=>l.length<=sizeLine/\eF l.getLast? (λx J=>Q x (σ.set n (.list l.dropLast))) σ
  |_=>no
def HP(v:AV):Do AV:=match v with
 |.loc n=>hp n (LY n)
 |_=>no
def O2(k d:AV)(o:AO):Do AV:=match o with
  |.dict ks es=>λQ σ=>ks.ok k=true/\Q ((aO es k).getD d) σ
  |_=>no
def D4(x k d:AV):Do AV:=match x with
 |.loc n=>hp n (O2 k d)
 |_=>no
def Zd(o:AO)(a:V):Option MK:=match o with
 |.inst C fs=>bif fs.all (λp=>p.1 !=a) then(match uO C a with
  |some f=>bif decide (f∈FT) then some (.fn f) else none
  |none=>none) else none
 |.list _=>bif Nat.beq a 93 then some .app else bif Nat.beq a 209 then some .pop else none
 |.dict _ _=>bif Nat.beq a 136 then some .get else none
 |_=>none
def Qx(a:V)(o:AO):Do MK:=eF (Zd o a)
def resolve(x:AV)(a:V):Do MK:=match x with
 |.loc n=>hp n (Qx a)
 |_=>no
def two(f:AV->AV->Do AV)(vs:List AV):Do AV:=match vs with
  |[]=>no
  |k::r=>match r with
   |[]=>f k .none
   |d::r=>match r with
    |[]=>f k d
    |_=>no
def invoke(a:aR)(m:MK)(v:AV)(vs:List AV):Do AV:=match m with
 |.fn f=>a 0 f (v::vs)
 |.app=>match vs with
  |[]=>no
  |x::r=>match r with
   |[]=>v8 v x
   |_=>no
 |.pop=>match vs with
  |[]=>HP v
  |_=>no
 |.get=>two (D4 v) vs
def Lv(a:aR)(m:MK)(v:AV)(Q:PX)(vs:List AV):Sg->Prop:=invoke a m v vs Q
def Qn(l:List X)(a:aR)(L:Loc)(Q:PX)(v:AV)(m:MK):Sg->Prop:=ij a L l (Lv a m v Q)
def kM(a:V)(l:List X)(b:aR)(L:Loc)(Q:PX)(v:AV):Sg->Prop:=resolve v a (Qn l b L Q v)
section
variable{g:Gl}{n:Nat}{Φ:aR}{A:Around}{env:Env}{L:Loc}{β δ ah ax:List Addr}{σ aj:Sg}{s s':Shared}{Q:PX}{v x:AV}{o y:Value}
theorem Zn(a:At g β δ σ s)(h:v8 v x Q σ)(j:RV s.heap β v o)(i:RV s.heap β x y):wp g A (call (.builtin "list.append") [o,y]) (PV g s β δ Q) s:=by
 cases v with
 |loc k=>
  apply cI j;intro d b;obtain⟨o,e1,h⟩:=ej h;cases o with
  |list l=>
   obtain⟨vs,m,c,f⟩:=a.list e1 b;refine call_meets PySem.F.slot_list_append (eD c).typeIs PySem.F.entry_list_append (PySem.F.args_list_append_2 ..) (list_append d vs m y (ak.size f▸h.1)) ⟨c,?_⟩;obtain⟨p,S⟩:=At.rL a e1 b (Heap.SameBut.update s.heap d _) (IsL.update c λz=>z.push y) (l':=l++[x]) (Array.toList_push▸ak.append _ _ _ _ f ⟨y,[],Y,i,Y⟩);exact⟨.none,_,_,_,p,S,Y,h.2⟩
  |_=>exact h.elim
 |_=>exact h.elim
theorem pop_list{vs:Array Value}{z}(h:vs.size=z)(p:0<z):(vs.eraseIdxIfInBounds (vs.size-1)).toList=vs.toList.dropLast:=by
 rw[Array.eraseIdxIfInBounds,dif_pos (Nat.sub_lt (h▸p) Nat.one_pos),Array.toList_eraseIdx,←Array.length_toList,List.eraseIdx_length_sub_one]
theorem WG(a:At g β δ σ s)(h:HP v Q σ)(j:RV s.heap β v o):wp g A (call (.builtin "list.pop") [o]) (PV g s β δ Q) s:=by
 cases v with
 |loc k=>
  apply cI j;intro i b;obtain⟨o,e1,h⟩:=ej h;cases o with
  |list l=>
   obtain⟨hz,h⟩:=h;obtain⟨x,f,q⟩:=gh h;obtain⟨vs,m,c,d⟩:=a.list e1 b;have hsz:=ak.size d;rw[List.getLast?_eq_getElem?] at f;obtain⟨u,r,p⟩:=ak.at d f;refine call_meets PySem.F.slot_list_pop (eD c).typeIs PySem.F.entry_list_pop (PySem.F.args_list_pop_1 _) (PySem.MeetsSeq.list_pop_last i vs m u (hsz▸r) (hsz▸hz)) ⟨c,?_⟩;obtain⟨t,S⟩:=At.rL a e1 b (Heap.SameBut.update s.heap i _) (IsL.update c λz=>z.eraseIdxIfInBounds (vs.size-1)) ((pop_list hsz (aaZ (aa9 _) (dv f)))▸ak.dropLast _ _ d);exact⟨x,_,_,_,t,S,p.step S,q⟩
  |_=>exact h.elim
 |_=>exact h.elim
theorem EV(a:At g β δ σ s)(R:dI A n)(h:D4 v k d Q σ)(c:RV s.heap β v o)(f:RV s.heap β k y):(d=.none->wp g A (call (.builtin "dict.get") [o,y]) (PV g s β δ Q) s)/\∀z,RV s.heap β d z->wp g A (call (.builtin "dict.get") [o,y,z]) (PV g s β δ Q) s:=by
 cases v with
 |loc i=>
  apply cI c;intro l b;obtain⟨o,e1,h⟩:=ej h;cases o with
  |dict ks es=>
   have D:=qj R a e1 b h.1 f;exact⟨λe=>D.get _ λu t z=>.tok a t z (e▸h.2),λz j=>D.US d z _ j λu t z=>.tok a t z h.2⟩
  |_=>exact h.elim
 |_=>exact h.elim
theorem OP(a:At g β δ σ s)(h:resolve v f Qm σ)(hv:RV s.heap β v o)
  (k:∀m,Qm m σ->W.callee m.callee->P (m.callee,[o]) s):wp g A (getMethod o (nm f) pl) P s:=by
 cases v with
 |loc i=>
  obtain⟨xa,j,rfl⟩:=hv;obtain⟨o,e1,h⟩:=ej h;obtain⟨m,e,q⟩:=gh h;cases o with
  |inst C fs=>
   obtain⟨c,e⟩:=kG e;cases t:uO C f with
   |none=>rw[t] at e;exact absurd e.symm (aa8 _)
   |some fa=>
    rw[t] at e;obtain⟨z,e⟩:=kG e;obtain⟨p,u,hm⟩:=Cy t;obtain⟨F,_,w⟩:=qm (g.ct _ _ u);obtain⟨M,H⟩:=w _ hm;obtain⟨d,arr,m',_,N,_,U,_⟩:=a.inst e1 j;have e:=aa0 e;subst e;exact method_fn a.X N F.ga F.gk M H (QK U c) (k _ q (.inl ⟨fa,abl z,Y⟩))
  |list l=>
   obtain⟨vs,m',r,hl⟩:=a.list e1 j;have T:=(eD r).typeIs;cases c:Nat.beq f 93 with
   |true=>
    have e2:=Nat.eq_of_beq_eq_true c;subst e2;have e:=aa0 e;subst e;exact Zh▸getMethod_builtin T PySem.F.plainAttrs_list PySem.F.slot_list_append PySem.F.type_list_append (λb e=>Value.ref.inj e▸⟨_,r,Y⟩) (k .app q (.inr (.inl ⟨_,Y⟩)))
   |false=>
    obtain⟨c,e⟩:=kG ((aaU (λb=>bif b then some MK.app else bif Nat.beq f 209 then some MK.pop else none) c).symm.trans e);have e2:=Nat.eq_of_beq_eq_true c;subst e2;have e:=aa0 e;subst e;exact PG▸getMethod_builtin T PySem.F.plainAttrs_list PySem.F.slot_list_pop PySem.F.type_list_pop (λb e=>Value.ref.inj e▸⟨_,r,Y⟩) (k .pop q (.inr (.inl ⟨_,Y⟩)))
  |dict ks es=>
   obtain⟨c,e⟩:=kG e;have e2:=Nat.eq_of_beq_eq_true c;subst e2;have e:=aa0 e;subst e;obtain⟨_,⟨o,arr,m',D,B,_⟩,_⟩:=a.dict e1 j;exact getMethod_builtin ⟨_,D,B.1⟩ PySem.F.plainAttrs_dict PySem.F.slot_dict_get PySem.F.type_dict_get (λb e=>Value.ref.inj e▸⟨_,D,B.2.1⟩) (k .get q (.inr (.inl ⟨_,Y⟩)))
  |dX=>exact absurd e.symm (aa8 _)
 |_=>exact h.elim
theorem Z7(R:Run g n Φ A env L β δ σ s)(h:invoke Φ m v vs Q σ)(b:RV s.heap β v o)(hs:ak s.heap β vs i):wp g A (call m.callee (o::i)) (PV g s β δ Q) s:=by
 cases m with
 |fn f=>exact zC R.iX R.room h R.at_ ⟨o,i,Y,b,hs⟩
 |app=>
  cases vs with
  |nil=>exact h.elim
  |cons x vs=>
   cases vs with
   |nil=>
    apply hs.e;intro y r c a;exact a▸Zn R.at_ h b c
   |cons=>exact h.elim
 |pop=>
  cases vs with
  |nil=>
   exact hs▸WG R.at_ h b
  |cons=>exact h.elim
 |get=>
  cases vs with
  |nil=>exact h.elim
  |cons k vs=>
   apply hs.e;intro y r c a;cases vs with
   |nil=>
    exact a▸(EV R.at_ R.room h b c).1 Y
   |cons d vs=>
    cases vs with
    |nil=>
     apply a.e;intro z r hz a;exact a▸(EV R.at_ R.room h b c).2 z hz
    |cons=>exact h.elim
end
theorem MG(o name apos)(args:List Expr)(pos env):eval (.Call (.Attribute o name apos) args [] pos) env=(do
  let a ←attributeBase o name env (eval o env)
  standAt apos.atName
  methodCall o name apos pos env a (args.length+0) (backTo pos (starEach args env)) (backToKw pos (keywordEach [] env))):=rfl
theorem Wq(h:args.all (λx=>!x.1)=true)(a:n<30):methodCallForm n args (backToKw pos (keywordEach [] env))=true:=by
 show(args.all _&&true&&decide (n+0<30))=true;rw[h,aba (show n+0<30 from a)];rfl
theorem NB(h:(apos.endLine==pos.line)=true):methodCallPos true o env apos pos=pure pos:=by
 unfold methodCallPos;simp[h]
namespace X
theorem U4(o:X)(a l):bY (λt L Q=>o.den t L (kM a l t L Q)) (λK e=>oI e λB es kw pos=>(kw.isEmpty&&oq B λb c apos=>((o.aN K b&&zu b)&&c==nm a)&&apos.endLine==pos.line)&&(fz K l es&&decide (es.length<30))):=λ{g n t A env L β U σ s Q e}R T N=>by
 apply oQ T;intro B es kw pos u
 rw[abD.mp (af (af u).1).1]
 apply qO (af (af u).1).2;intro b c apos h
 obtain⟨i,hlen⟩:=af (af u).2
 obtain⟨h,hline⟩:=af h
 obtain⟨h,H⟩:=af h
 rw[abc.mp H,MG,CD _ _ _ (af h).2]
 refine aaV (cD R (af h).1 N λ{v r w s₁ y x}f j z q=>aaV (abL ?_))
 unfold methodCall
 rw[Wq (n:=es.length+0) (Dw env l es i).2 (abl hlen)]
 exact aaV (abQ (OP f.at_ q z λm q M=>aaV (wpAny_of_eq (NB hline) (wX M f i q λp d D q=>wm (Z7 p q (z.step d) D) λJ J=>.after (j.trans d)))))
def bh(o:X)(a:V)(l:List X):X:=.by (@U4 o a l) pN
end X
end W
end
section
inductive Src where
 |seq(l:List AV)
 |loc(n:Nat)(l:List AV)
noncomputable def Src.items(s:Src):List AV:=match s with
 |.seq l=>l
 |.loc _ l=>l
def Src.at_(s:Src)(σ:Sg):Prop:=match s with
 |.seq _=>True
 |.loc n l=>σ[n]?=some (.list l)
def Kb(I:Addr)(h a:Heap):Prop:=∀b o,b≠I->h.get? b=some o->a.get? b=some o
structure dS(g A I)(src:Src)(St:Nat->Heap->List Addr->Prop):Prop where
 here:∀{i h β},St i h β->∃o,h.get? I=some o/\∀vs n,o.data≠.seq vs n
 frame:∀{i h h' β ah},St i h β->fc h h'->(∀o,h.get? I=some o->h'.get? I=some o)->(∀(n:Nat)a,β[n]?=some a->ah[n]?=some a)->St i h' ah
 item:∀{i β δ σ s x Q},At g β δ σ s->St i s.heap β->src.at_ σ->src.items[i]?=some x->(∀r h' tk,RV s.heap β x r->St (i+1) h' β->Kb I s.heap h'->Q (some r) {s with heap:=h',toks:=tk})->W.wp g A (pyNext (.ref I)) Q s
 done:∀{i β δ σ s Q},At g β δ σ s->St i s.heap β->src.at_ σ->src.items[i]?=none->(∀h' tk,Kb I s.heap h'->Q none {s with heap:=h',toks:=tk})->W.wp g A (pyNext (.ref I)) Q s
 self:∀{i s β P},St i s.heap β->P (.ref I) s->W.wp g A (pyIter (.ref I)) P s
 own:∀{i s β target v P},St i s.heap β->P ⟨⟩ s->W.wp g A (letOwnedTupleGo target (.ref I) v) P s
noncomputable def vD(n:String):Bool:=!["enumerate","zip","dict_itemiterator","dict_reverseitemiterator","odict_iterator","itertools.zip_longest","itertools.pairwise"].contains n
section
variable{g:Gl}{n:Nat}{A:Around}{β δ ah ax:List Addr}{σ aj:Sg}{s s':Shared}{I:Addr}{l:List AV}
theorem GW(c:s.heap.get? I=some o)(d:o.cls=.type T)(b:vD T=true)(a:Addr)(h:Q ⟨⟩ s):W.wp g A (do
   let o ←load I
   match o.cls,o.data with
   |.type n,.fields vs=>
    if["enumerate","zip","dict_itemiterator","dict_reverseitemiterator","odict_iterator","itertools.zip_longest","itertools.pairwise"].contains n&&vs[0]?==some (rawInt a) then
     rule "for.unpacks-the-owned-tuple"
     updateField I 0 .none
   |_,_=>pure ⟨⟩) Q s:=by
 refine aaV (wpAny_load c ?_)
 rw[d]
 cases o.data with
 |fields vs=>
  dsimp only;rw[(Bool.not_eq_true' _).mp b,Bool.false_and];exact abh h
 |_=>exact abh h
theorem vU(b:s.heap.get? I=some o)(c:o.cls=.type T)(a:vD T=true)(target v)(h:Q ⟨⟩ s):W.wp g A (letOwnedTupleGo target (.ref I) v) Q s:=by
 cases target with
 |Tuple=>cases v<;>first|exact abh h|exact GW b c a _ h
 |List=>cases v<;>first|exact abh h|exact GW b c a _ h
 |_=>exact abh h
theorem Dd{h}{vs:Array Value}{i:Nat}(a:ak h β l vs.toList)(e:l[i]?=none):vs[i]?=none:=Array.getElem?_eq_none_iff.mpr (ak.size a▸List.getElem?_eq_none_iff.mp e)
theorem Qr(t:A.handled=none)(I x k l):dS g A I (.loc k l) (λi h β=>h.IsListIter I x i/\β[k]?=some x) where
 here st:=st.1.imp λo q=>⟨q.1,λvs n e=>Data.noConfusion (q.2.2.symm.trans e)⟩
 frame st _ p e:=⟨st.1.imp λo q=>⟨p o q.1,q.2⟩,e _ _ st.2⟩
 item {_ _ _ _ s _ _} a st ok b f:=by
  obtain⟨vs,m,c,d⟩:=a.list ok st.2;obtain⟨u,y,w⟩:=ak.at d b;exact wpAny_pyNext_list_item st.1 (eD c) y λj r hs=>f u j s.toks w ⟨r,st.2⟩ hs.extBut
 done {_ _ _ _ s _} a st ok b f:=by
  obtain⟨vs,m,c,d⟩:=a.list ok st.2;exact wpAny_pyNext_list_end t st.1 (eD c) (Dd d b) λj=>f j s.toks
 self st h:=wpAny_pyIter_listiter st.1 h
 own st h:=st.1.elim λo q=>vU q.1 q.2.1 () _ _ h
theorem iter_tuple(D:A.handled=none)(I t)(r:t≠I)(l):dS g A I (.seq l) (λi h β=>h.IsTupleIter I t i/\∃vs m,h.get? t=some (fg vs m)/\ak h β l vs.toList) where
 here st:=st.1.imp λo q=>⟨q.1,λvs n e=>Data.noConfusion (q.2.2.symm.trans e)⟩
 frame st tk y e:=⟨st.1.imp λo q=>⟨y o q.1,q.2⟩,st.2.imp λvs q=>q.imp λm q=>⟨tk _ _ _ q.1,ak.mono tk e _ _ q.2⟩⟩
 item {_ _ _ _ s _ _} a st ok f j:=by
  obtain⟨hit,vs,m,c,d⟩:=st;obtain⟨u,L,H⟩:=ak.at d f;refine wpAny_pyNext_tuple_item hit ⟨_,c,Y,m,Y⟩ L λp B hs=>j u p s.toks H ⟨B,vs,m,hs.extBut _ _ r c,ak.mono (λb M n e=>(hs.2 b λz=>?_).trans e) (λJ J e=>e) _ _ d⟩ hs.extBut;obtain⟨o,x,N,w⟩:=hit;exact Data.noConfusion (w.symm.trans (aaU Obj.data (aa0 (x.symm.trans (z▸e)))))
 done {_ _ _ _ s _} a st ok f j:=by
  obtain⟨hit,vs,m,c,d⟩:=st;exact wpAny_pyNext_tuple_end D hit ⟨_,c,Y,m,Y⟩ (Dd d f) λp=>j p s.toks
 self st h:=wpAny_pyIter_tupleiter st.1 h
 own st h:=st.1.elim λo q=>vU q.1 q.2.1 () _ _ h
theorem G3(W:Walks g.prog g.w A I [I] [I] N P S)(d:l.length=N)(hp:∀i x v,l[i]?=some x->P i v->∀h β,RV h β x v)(hs:∀i h,S i h->∃o,h.get? I=some o/\o.cls=.type T/\∃vs,o.data=.fields vs)(w:vD T=true):dS g A I (.seq l) (λi h J=>i<=N/\S i h) where
 here st:=(hs _ _ st.2).imp λo q=>⟨q.1,λvs n e=>q.2.2.elim λus z=>Data.noConfusion (z.symm.trans e)⟩
 frame st _ t e:=⟨st.1,W.frame _ _ _ st.2 λb m o q=>aaT.mp m▸t o (aaT.mp m▸q)⟩
 item a st ok c j:=W.item _ _ _ qd (d▸dv c) st.2 λv p tk u r f=>j v p tk (hp _ _ v c u ..) ⟨d▸dv c,r⟩ λb o n=>f b o λm=>n (aaT.mp m)
 done {i _ _ _ s _} a st ok c j:=W.done s _ qd (Nat.le_antisymm st.1 (d▸List.getElem?_eq_none_iff.mp c)▸st.2) λp tk f=>j p tk λb o n=>f b o λm=>n (aaT.mp m)
 self st h:=W.self _ _ _ qd st.2 h
 own st h:=(hs _ _ st.2).elim λo q=>vU q.1 q.2.1 w _ _ h
theorem LA(d:A.handled=none)(I k):dS g A I (.seq ((List.range k).map λ(i:Nat)=>.int (i:Int))) (λi h J=>i<=k/\IsRangeIter h I (0+(i)*1) ((k)-(i)) 1):=
 G3 (Walks.range d I 0 1 k) (by rw[aa1,List.length_range]) (λi x v a b h β=>by
  have c:i<k:=by have:=dv a;rwa[aa1,List.length_range] at this
  rw[abm,List.getElem?_range c] at a;obtain⟨t,e⟩:=b;exact(aa0 a)▸⟨t,e.trans (by rw[Int.zero_add,Int.mul_one])⟩) (λi h st=>⟨_,st,Y,_,Y⟩) ()
theorem WH(d:A.handled=none)(I)(x:Str)(t):dS g A I (.seq (x.cps.toList.map λc=>.str ⟨#[c]⟩)) (λi h J=>i<=x.cps.size/\h.IsStrIter I "str_ascii_iterator" x t i):=
 G3 (Walks.strAscii d I x t) (by rw[aa1,Array.length_toList]) (λi y v a b h β=>by
  obtain⟨c,u,f,e⟩:=b;rw[abm,Array.getElem?_toList,f] at a;exact(aa0 a)▸⟨u,e⟩) (λi h st=>st.imp λo q=>⟨q.1,q.2.1,_,q.2.2⟩) ()
inductive iw(g A)(s:Shared)(β δ)(Q:Src->Sg->Prop)(it:Value)(s'):Prop
 |mk I (src aj St ah ax) (e:it=.ref I) (W:dS g A I src St) (a:At g ah ax aj s') (S:Step bB s.heap β δ s'.heap ah ax) (st:St 0 s'.heap ah) (num:I∉ah++ax) (new:s.heap.objs.size<=I) (q:Q src aj)
theorem iw.after(S:Step bB s.heap β δ s'.heap ah ax)(p:iw g A s' ah ax Q it a):iw g A s β δ Q it a:=by
 obtain⟨I,src,aj,St,b,d,r,m,j,i,h,f,c,q⟩:=p;exact⟨I,src,aj,St,b,d,r,m,j,S.trans i,h,f,aaS S.size c,q⟩
theorem iw.push{Q src o St}(a:At g β δ σ s)(W:dS g A s.heap.objs.size src St)(st:St 0 (s.heap.push o) β)(q:Q src σ):iw g A s β δ Q (.ref s.heap.objs.size) {s with heap:=s.heap.push o}:=
 ⟨_,src,σ,St,β,δ,Y,W,a.heap (a.inv.push _),Step.push _,st,wW a,aaX _,q⟩
end
namespace W
open Do
def Ih(x:Str):Do Src:=λQ σ=>x.cps.all (·<128)=true/\Q (.seq (x.cps.toList.map λc=>.str ⟨#[c]⟩)) σ
def Ud(n:Nat)(o:AO):Do Src:=match o with
  |.list l=>ret (.loc n l)
  |_=>no
def srcOf(v:AV):Do Src:=match v with
 |.tup l=>ret (.seq l)
 |.loc n=>hp n (Ud n)
 |.str s=>pr (Ih s)
 |_=>no
theorem Mr(a:At g β p σ s)(i:A.handled=none)(h:srcOf v Q σ)(f:RV s.heap β v r):wp g A (pyIter r) (iw g A s β p Q) s:=by
 cases v with
 |tup l=>
  apply fA f;intro t vs m b j;exact wpAny_pyIter_tuple ⟨_,b,Y,m,Y⟩ (.push a (iter_tuple i _ t (abx (ab2 b)) _) ⟨⟨_,abU _ Y,Y,Y⟩,vs,m,eg _ _ b,j.keeps eg λJ J e=>e⟩ h)
 |loc k=>
  apply cI f;intro u d;obtain⟨o,e1,h⟩:=ej h;cases o with
  |list l=>
   obtain⟨vs,m,b,j⟩:=a.list e1 d;exact wpAny_pyIter_list (eD b) (.push a (Qr i _ u k l) ⟨⟨_,abU _ Y,Y,Y⟩,d⟩ h)
  |_=>exact h.elim
 |str x=>
  apply nZ f;intro t;obtain⟨c,q⟩:=f_ h;exact wpAny_pyIter_ascii c (.push a (WH i _ x t) ⟨aa9 _,⟨_,abU _ Y,Y,Y⟩⟩ q)
 |_=>exact h.elim
end W
end
section
theorem Y1:nm 215="range":=by kernel_rfl
theorem Wd:nm 165="len":=by kernel_rfl
theorem Kg:nm 247="sorted":=by kernel_rfl
theorem MJ:nm 270="tuple":=by kernel_rfl
namespace W
open Do
structure rC(x:V)(f):Prop where
 mem:x∈[215,165,247,270]
 YE:(nm x==("__debug__"))=false
 Tx:nm x≠"__name__"
 boot:bootBuiltins (nm x)=some f
 call:callee f
theorem WD:rC 165 (.builtin "len"):=by constructor<;>first|exact .tail _ (.head _)|exact .inr (.inl ⟨_,Y⟩)|(rw[Wd];first|exact boot_len|decide)
theorem Ww:rC 270 (.type "tuple"):=by constructor<;>first|exact .tail _ (.tail _ (.tail _ (.head _)))|exact .inr (.inr ⟨_,Y⟩)|(rw[MJ];first|exact PyProof.Rows.boot_tuple|decide)
theorem Sn:rC 215 (.type "range"):=by constructor<;>first|exact .head _|exact .inr (.inr ⟨_,Y⟩)|(rw[Y1];first|exact PyProof.Rows.boot_range|decide)
theorem Ks:rC 247 (.builtin "sorted"):=by constructor<;>first|exact .tail _ (.tail _ (.head _))|exact .inr (.inl ⟨_,Y⟩)|(rw[Kg];first|exact PyProof.Rows.boot_sorted|decide)
def k0(x:V)(y:X)(K:Kd)(e:Expr):Bool:=oI e λa es kw J=>(kw.isEmpty&&asName a λc=>c==nm x&&K (nm x)==some .globalImplicit)&&fz K [y] es
def Nb(Q:PX)(vs:List AV)(σ:Sg):Prop:=match vs with
 |[]=>False
 |v::r=>match r with
  |[]=>Q v σ
  |_=>False
section
variable{g:Gl}{n:Nat}{Φ:aR}{A:Around}{env:Env}{L:Loc}{β δ ah ax:List Addr}{σ aj:Sg}{s s':Shared}{Q:PX}
theorem sQ{x}{f y e P}(B:rC x f)(R:Run g n Φ A env L β δ σ s)(m:k0 x y env.kindOf e=true)(l:y.den Φ L Q σ)
  (k:∀{v r aj s' ah ax},Run g n Φ A env L ah ax aj s'->Step bB s.heap β δ s'.heap ah ax->RV s'.heap ah v r->Q v aj->wp g A (PySem.call f [r]) P s'):wp g A (eval e env) P s:=by
 apply oQ m;intro w es kw pos d
 rw[abD.mp (af (af d).1).1]
 apply oP (af (af d).1).2;intro c p h
 rw[abc.mp (af h).1,Mk]
 refine aaV (Calls.Name_function_global R.fr.kind (abc.mp (af h).2) (Calls.loadGlobal_builtin (R.fr.glob▸g.G.keeps R.at_.keep) (g.miss x B.mem) (R.fr.blt▸g.B.keeps R.at_.keep) ((g.bi _ B.Tx).trans B.boot) ?_) B.YE)
 refine wX (Ql:=Nb Q) B.call R (af d).2 l λ{vs u}_ _ _ _ b a z q=>?_
 cases vs with
 |nil=>exact q.elim
 |cons v vs=>
  cases vs with
  |nil=>
   apply z.e;intro r t j i;exact i▸k b a j q
  |cons=>exact q.elim
end
def R4(o:AO):Do AV:=match o with
  |.list l=>λQ σ=>l.length<2^62/\Q (.int l.length) σ
  |_=>no
def G8(x:AV):Do AV:=match x with
 |.tup l=>λQ σ=>l.length<2^62/\Q (.int l.length) σ
 |.loc n=>hp n R4
 |_=>no
def Ob(o:AO):Do AV:=match o with
  |.list l=>λQ σ=>l.length<=sizeLine/\Q (.tup l) σ
  |_=>no
def IB(x:AV):Do AV:=match x with
 |.tup l=>ret (.tup l)
 |.loc n=>hp n Ob
 |_=>no
def zq(f:AV->Do AV)(Q:PX)(v:AV):Sg->Prop:=f v Q
section
variable{g:Gl}{n:Nat}{A:Around}{β δ ah ax:List Addr}{σ aj:Sg}{s s':Shared}{Q:PX}{v:AV}{o:Value}
theorem len_list{x vs m l}(a:At g β δ σ s)(b:s.heap.get? x=some (cZ vs m))(c:ak s.heap β l vs.toList)(h:l.length<2^62/\Q (.int l.length) σ):wp g A (PySem.call (.builtin "len") [.ref x]) (PV g s β δ Q) s:=
 call_len_meets (eD b).typeIs PySem.F.slot_list_len PySem.F.entry_list_len (PySem.F.args_list_len_1 _) (AutoListH.list___len___list_0 x vs m) (Int.not_lt.mpr (Int.natCast_nonneg _)) (Int.not_le.mpr (pB (ak.size c▸h.1))) (λJ d=>⟨b,d⟩) (.tok (v:=.int _) a _ ⟨_,by rw[ak.size c]⟩ h.2)
theorem Zc(a:At g β δ σ s)(h:G8 v Q σ)(f:RV s.heap β v o):wp g A (PySem.call (.builtin "len") [o]) (PV g s β δ Q) s:=by
 cases v with
 |tup l=>
  apply fA f;intro t vs m c b;exact PySem.P.len_tuple c (Int.not_le.mpr (pB (ak.size b▸h.1))) (.tok (v:=.int _) a _ ⟨_,by rw[ak.size b]⟩ h.2)
 |loc k=>
  apply cI f;intro i d;obtain⟨o,e1,h⟩:=ej h;cases o with
  |list l=>
   obtain⟨vs,m,c,b⟩:=a.list e1 d;exact len_list a c b h
  |_=>exact h.elim
 |_=>exact h.elim
theorem RE{x vs m l}(a:At g β δ σ s)(p:s.heap.get? x=some (cZ vs m))(j:ak s.heap β l vs.toList)(h:l.length<=sizeLine/\Q (.tup l) σ):wp g A (PySem.call (.type "tuple") [.ref x]) (PV g s β δ Q) s:=by
 refine wpAny_mono (nu (Q:=λi s'=>∃c,(∀b o',s.heap.get? b=some o'->c.get? b=some o')/\i=.ref c.objs.size/\s'={s with heap:=c.push (fg vs 0)}) (call_tuple_list (eD p) (λc d=>⟨c,d,Y,Y⟩) (ak.size j▸h.1))) (λi s' hp=>?_) λJ J f=>f.2;obtain⟨hsz,c,d,e1,e2⟩:=hp;subst e1 e2;have k2:∀b o',s.heap.get? b=some o'->(c.push (fg vs 0)).get? b=some o':=λb o' e=>eg b o' (d b o' e);exact⟨.tup l,σ,β,δ,a.heap (a.inv.keeps hsz k2),Step.keeps hsz k2,⟨c.objs.size,vs,0,Y,abU _ Y,j.keeps k2 λJ J e=>e⟩,h.2⟩
theorem Pg(a:At g β δ σ s)(h:IB v Q σ)(c:RV s.heap β v o):wp g A (PySem.call (.type "tuple") [o]) (PV g s β δ Q) s:=by
 cases v with
 |tup l=>
  have b:=c;revert b;apply fA c;intro t vs m d i b;exact call_tuple_same ⟨_,d,Y,m,Y⟩ (.intro a b h)
 |loc k=>
  apply cI c;intro j f;obtain⟨o,e1,h⟩:=ej h;cases o with
  |list l=>
   obtain⟨vs,m,d,i⟩:=a.list e1 f;exact RE a d i h
  |_=>exact h.elim
 |_=>exact h.elim
end
namespace X
theorem vX{x y K e}(h:k0 x y K e=true):Pl e:=pN h
theorem aac(y):bY (λc L Q=>y.den c L (zq G8 Q)) (k0 165 y):=λR f d=>sQ WD R f d λb a z q=>wm (Zc b.at_ q z) λJ J=>.after a
def len(y:X):X:=.by (@aac y) vX
theorem TU(y):bY (λc L Q=>y.den c L (zq IB Q)) (k0 270 y):=λR f d=>sQ Ww R f d λb a z q=>wm (Pg b.at_ q z) λJ J=>.after a
def tupleOf(y:X):X:=.by (@TU y) vX
end X
def vu(e:Expr):Bool:=j7 7 e
theorem Jq{e}(env x)(h:vu e=true):foldedSetIterable e env x=pure x:=by
 cases e<;>first|rfl|exact absurd h aaY
structure It where
 den:aR->Loc->Do Src
 aN:Kd->Expr->Bool
 ok:∀{g n Φ A env L β δ σ s Q e},Run g n Φ A env L β δ σ s->aN env.kindOf e=true->den Φ L Q σ->wp g A (eval e env) (λxv s₁=>wp g A (pyIter xv) (iw g A s β δ Q) s₁) s
 ns:∀{K e},aN K e=true->vu e=true
def HG(Q:Src->Sg->Prop)(v:AV):Sg->Prop:=srcOf v Q
def wD(v:AV):Do Src:=match v with
 |.int i=>match i with
  |.ofNat n=>λQ σ=>n<2^61/\Q (.seq ((List.range n).map λ(j:Nat)=>.int (j:Int))) σ
  |.negSucc _=>no
 |_=>no
def Bk(Q:Src->Sg->Prop)(v:AV):Sg->Prop:=wD v Q
theorem Lb{g A β b σ s v r Q}(a:At g β b σ s)(f:A.handled=none)(h:wD v Q σ)(d:RV s.heap β v r):wp g A (PySem.call (.type "range") [r]) (λc s₁=>wp g A (pyIter c) (iw g A s β b Q) s₁) s:=by
 cases v with
 |int i=>
  cases i with
  |ofNat k=>
   apply eL d;intro t;refine call_range_1 (wpAny_pyIter_range (IsRange.new ..) (small_one () () (Int.le_trans () (Int.natCast_nonneg k)) (Int.lt_trans (Int.ofNat_lt.mpr h.1) ())) ?_);refine .after (Step.push _) (.push ((a.toks (s.toks+1+1)).heap (a.inv.push {cls:=.type "range",data:=.fields #[.int 0 s.toks,.int _ t,.int 1 _]})) (LA f _ k) ⟨aa9 _,?_⟩ h.2);have hsz:Builtin.Range.rangeSize 0 (Int.ofNat k) 1=(k):=by
    rw[rangeSize_one];cases k with
    |zero=>rfl
    |succ k=>exact(abn (Int.ofNat_lt.mpr (Nat.succ_pos k))).trans (Int.sub_zero _)
   exact(show((k)-((0:Nat)))=Builtin.Range.rangeSize 0 (Int.ofNat k) 1 from(Int.sub_zero _).trans hsz.symm)▸abU _ Y
  |negSucc=>exact h.elim
 |_=>exact h.elim
namespace It
theorem XE(x:X){g n d A env L β c σ s Q e}(R:Run g n d A env L β c σ s)(i:(x.aN env.kindOf e&&vu e)=true)(h:x.den d L (HG Q) σ):wp g A (eval e env) (λf s₁=>wp g A (pyIter f) (iw g A s β c Q) s₁) s:=
 cD R (af i).1 h λa b z q=>wm (Mr a.at_ a.room.hd q z) λJ J=>.after b
def val(x:X):It:=⟨λa L Q=>x.den a L (HG Q),λK e=>x.aN K e&&vu e,@XE x,λh=>(af h).2⟩
theorem OK(y){g n d A env L β c σ s Q e}(R:Run g n d A env L β c σ s)(i:k0 215 y env.kindOf e=true)(h:y.den d L (Bk Q) σ):wp g A (eval e env) (λf s₁=>wp g A (pyIter f) (iw g A s β c Q) s₁) s:=
 sQ Sn R i h λa b z q=>wm (Lb a.at_ a.room.hd q z) λJ J p=>wm p λJ J=>.after b
def range(y:X):It:=⟨λa L Q=>y.den a L (Bk Q),k0 215 y,@OK y,λh=>by apply oQ h;intros;rfl⟩
end It
end W
end
def jv(l:List Str):Prop:=l.Pairwise λa b=>decide (b.cps.toList<a.cps.toList)=false
instance(l):Decidable (jv l):=by unfold jv;infer_instance
noncomputable def sortI(l:List Int):List Int:=l.mergeSort λa b=>decide (a<=b)
def zf(l r:List AV):Prop:=(∃ns,l=ns.map .int/\r=(sortI ns).map .int)\/∃a,(l=a.map .str/\r=l)/\jv a
def pA(v:AV):Do AV:=λQ σ=>∃n ks es r,(v=.loc n/\σ[n]?=some (.dict ks es)/\ks≠.tup/\es.length<64/\zf (es.map (·.1)) r)/\Q (.loc σ.length) (σ++[.list r])
theorem Tn(p:m.Perm l)(h:m.Pairwise (·<=·)):m=sortI l:=List.Perm.eq_of_pairwise (λa b J J=>Int.le_antisymm) h ((List.pairwise_mergeSort (le:=λa b:Int=>decide (a<=b)) (λa b c f d=>aba (Int.le_trans (abl f) (abl d))) (λa b=>Bool.or_eq_true_iff.mpr ((Int.le_total a b).imp aba aba)) l).imp abl) (p.trans (List.mergeSort_perm ..).symm)
theorem X3(h:StrsAre vs w)(hp:xs.Perm (pairsOf vs))(hs:SortedToK PyProof.Rows.strKind xs (pairsOf vs).size):
  ∃b,StrsAre (xs.map (·.2)).toList b/\b.Perm w/\jv b:=by
 have r:xs.toList.Perm (vs.zip vs):=by rw[←pairsOf_toList];exact Array.perm_iff_toList_perm.mp hp
 have a:∀p,p∈xs.toList->p.1=p.2/\p.1∈vs:=λp c=>mem_zip_self (r.mem_iff.mp c)
 refine⟨xs.toList.map λp=>PyProof.Rows.strOf p.1,?_,?_,?_⟩
 .rw[show(xs.map _).toList=xs.toList.map (·.1) by rw[Array.toList_map];exact List.map_congr_left λp c=>(a p c).1.symm]
  have d:=strsAre_map _ λv z=>(aa6.mp z).elim λp q=>h.all _ (q.2▸(a p q.1).2);rwa[List.map_map] at d
 .have d:=r.map λp=>PyProof.Rows.strOf p.1;rwa[show(vs.zip vs).map (λp=>PyProof.Rows.strOf p.1)=((vs.zip vs).map Prod.fst).map PyProof.Rows.strOf from(List.map_map (g:=PyProof.Rows.strOf)).symm,List.map_fst_zip (aaX _),h.strs] at d
 .unfold jv;rw[List.pairwise_iff_getElem];intro i j l f m;rw[aa1] at l f;have d:=hs i j (abG m) (hp.size_eq▸f);obtain⟨x,t,ex⟩:=h.all _ (a xs[i] (Array.getElem_mem_toList l)).2;obtain⟨y,u,s⟩:=h.all _ (a xs[j] (Array.getElem_mem_toList f)).2;rw[KK_str l (Prod.ext ex Y),KK_str f (Prod.ext s Y)] at d;rw[List.getElem_map,List.getElem_map,Array.getElem_toList,Array.getElem_toList,show PyProof.Rows.strOf xs[i].1=x by rw[ex];rfl,show PyProof.Rows.strOf xs[j].1=y by rw[s];rfl]
  exact d
theorem Zx(p:m.Perm l)(h:jv m)(f:jv l):m=l:=by
 refine List.Perm.eq_of_pairwise (λa b J J d c=>?_) h f p;obtain⟨⟨a⟩⟩:=a;obtain⟨⟨b⟩⟩:=b;rw[(PyProof.Rows.strKind.total _ _ c d:a=b)]
section
variable{g:Gl}{n:Nat}{A:Around}{β δ ah ax:List Addr}{σ aj:Sg}{s s':Shared}{h:Heap}
theorem intsAre_of(x:IntsAre vs ns):ak h β (ns.map .int) vs:=by
 induction x with
 |nil=>rfl
 |cons n t _ a=>exact⟨_,_,Y,⟨t,Y⟩,a⟩
theorem SE(x:StrsAre vs ns):ak h β (ns.map .str) vs:=by
 induction x with
 |nil=>rfl
 |cons n t _ a=>exact⟨_,_,Y,⟨t,Y⟩,a⟩
theorem Uc(ns):∀vs,ak h β (ns.map .int) vs->IntsAre vs ns:=by
 induction ns with
 |nil=>exactλvs e=>(e)▸.nil
 |cons n ns a=>intro vs z;apply z.e;intro v r b c;apply eL b;exactλt=>.cons n t (a r c)
theorem Qb(ns):∀vs,ak h β (ns.map .str) vs->StrsAre vs ns:=by
 induction ns with
 |nil=>exactλvs e=>(e)▸.nil
 |cons n ns a=>intro vs z;apply z.e;intro v r b c;apply nZ b;exactλt=>.cons n t (a r c)
theorem Od(b:zf l r)(f:s.heap.get? a=some (cZ vs.toArray 0))(d:ak s.heap β l vs)(c:vs.length<64)(k:∀out,(∀h,ak h β r out.toList)->P .none {s with heap:=sortedHeap s.heap a vs out}):W.wp g A (call (.builtin "list.sort") [.ref a]) P s:=by
 refine wpAny_call_entry slot_list_sort ⟨_,f,Y⟩ entry_list_sort ?_ (args_list_sort _);rcases b with⟨ns,e1,e2⟩|⟨m,⟨e1,e2⟩,p⟩
 .rw[e1] at d;refine list_sort_tree f (Uc ns vs d) c λout D y x w=>⟨_,Y,k out λh=>?_⟩;rw[e2,←Tn x w];exact intsAre_of y
 .rw[e1] at d;have b:=Qb m vs d;refine list_sort_treeK strKind_oneLt f b.keysOf (λj i rest e=>keyKind_strs (e▸b)) c λz hp hs=>⟨_,Y,k _ λh=>?_⟩;obtain⟨B,u,t,q⟩:=X3 b hp hs;rw[e2,e1,←Zx t q p];exact SE u
theorem NA{K}[DecidableEq K]{knd:PySem.KeyKind g.prog g.w K}{d}{i:List (K×Value)}{P:Value->Shared->Prop}(t:A.handled=none)(lo:(d==sysModules)=false)(u:s.heap.DictOf knd d i)(q:i.length<64)
  (k:∀(c:Heap)(tk)(vs:List Value),(∀b o,s.heap.get? b=some o->c.get? b=some o)->s.heap.objs.size<=c.objs.size->vs.length=i.length->(∀(j:Nat)(v),vs[j]?=some v->∃k x,i[j]?=some (k,x)/\knd.is k v=true)->
   W.wp g A.in1 (call (.builtin "list.sort") [.ref c.objs.size]) (λJ s'=>P (.ref c.objs.size) s') {s with heap:=c.push (cZ vs.toArray 0),toks:=tk}):
  W.wp g A (call (.builtin "sorted") [.ref d]) P s:=by
 obtain⟨w,p⟩:=u.dictAt
 refine Calls.call_function_entry kind_sorted plain_sorted entry_sorted (args_sorted1 _) ?_
 refine aaV (abh ?_)
 refine aaV (wpAny_mono (nu (kdu_collect (R:=λl s'=>∃(c:Heap)(tk:Nat)(acc:Array Value),(∀b o,s.heap.get? b=some o->c.get? b=some o)/\ItemsOf _ acc i.length/\l=acc.toList/\s'={s with heap:=c,toks:=tk})
  (kdl_dict lo) t p (kdl_size (aaS (abG q) ())) λc tk acc m a=>⟨c,tk,acc,m,a,Y,Y⟩)) (λl s' hp=>?_) λJ J f=>f.2)
 obtain⟨hz,c,tk,acc,m,a,e1,e2⟩:=hp
 subst e1 e2
 have r:=(Array.length_toList ..).trans a.1
 refine aaV (wpAny_newList (aaV (abQ (W.wm (k c tk acc.toList m hz r λj v e=>a.2 j v (Array.getElem?_toList▸e)) λJ s' x=>abh ⟨_,Y,x⟩))) (r▸kdl_size (aaS (abG q) ())))
theorem JW(h a vs out):(sortedHeap h a vs out).objs.size=h.objs.size+2:=by
 unfold sortedHeap;rw[Heap.size_update,size_push',size_push',Heap.size_update]
theorem OO{K}{d:K->AV}{i}(es:List (AV×AV)):∀(a:List (K×Value))(vs:List Value),VK d h β es a->vs.length=a.length->(∀(j:Nat)(v),vs[j]?=some v->∃k x,a[j]?=some (k,x)/\RV i β (d k) v)->ak i β (es.map (·.1)) vs:=by
 induction es with
 |nil=>
  intro a vs e b _;rw[e] at b;exact List.eq_nil_of_length_eq_zero b
 |cons p es l=>
  intro a vs x b f;revert b f;apply x.e;intro c r e1 _ x b f;cases vs with
  |nil=>exact absurd b (Nat.succ_ne_zero _).symm
  |cons v vs=>
   obtain⟨k,u,q,m⟩:=f 0 v Y;exact⟨v,vs,Y,by show RV i β p.1 v;rw[e1,aa0 q];exact m,l r vs x (Nat.succ.inj b) λj=>f (j+1)⟩
theorem CK{K}[DecidableEq K]{knd:PySem.KeyKind g.prog g.w K}{w:K->AV}{ks}{i:Nat}{x}{es:List (AV×AV)}{r:List AV}{Q:W.PX}(O:iP knd w ks)(a:At g β δ σ s)(M:A.handled=none)(e:σ[i]?=some (.dict ks es))(y:β[i]?=some x)(c:es.length<64)(N:zf (es.map (·.1)) r)(q:Q (.loc σ.length) (σ++[.list r])):W.wp g A (call (.builtin "sorted") [.ref x]) (W.PV g s β δ Q) s:=by
 obtain⟨t,T,D⟩:=a.x6 O e y;have hlen:=D.length;refine NA M (qh a y) T (hlen▸c) λf tk vs H hz B L=>?_;have z:(f.push _).get? f.objs.size=some (cZ vs.toArray 0):=abU _ Y;refine Od N z (OO es t vs D B λj v e=>(L j v e).imp λk p=>p.imp λu p=>p.imp id (O.is ..).mp) (by rw[B,hlen];exact c) λout d=>?_
 obtain⟨m,l⟩:=sortedHeap_at (out:=out) z;have hsz:=JW (f.push (cZ vs.toArray 0)) f.objs.size vs out;rw[ab1] at hsz;refine W.PV.after (s':={s with toks:=tk}) .refl ((a.toks tk).new (ao:=.list r) (aaS hz (hsz▸aaW _ 3)) (λb o q=>?_) ⟨hz,ab2 l⟩ ⟨hz,ab2 l⟩ ⟨Y,out,m,l,(d _).keeps (λJ J e=>e) λJ J=>i_⟩ Y q);have:=H b o q
 exact(sortedHeap_old (abx (ab2 this)) (ab1 .. ▸Nat.lt_succ_of_lt (ab2 this))).trans (eg _ _ this)
theorem Ub(a:At g β δ σ s)(f:A.handled=none)(h:pA v Q σ)(d:RV s.heap β v o):W.wp g A (call (.builtin "sorted") [o]) (W.PV g s β δ Q) s:=by
 obtain⟨k,ks,es,r,⟨e1,e2,j,b,i⟩,q⟩:=h;rw[e1] at d;apply cI d;intro x c;cases ks with
 |int=>exact CK Iy a f e2 c b i q
 |str=>exact CK qb a f e2 c b i q
 |tup=>exact absurd Y j
end
namespace W
def pA(x:AV):Do AV:=pr (Mine.Internal.pA x)
namespace X
theorem W'(y):bY (λc L Q=>y.den c L (zq pA Q)) (k0 247 y):=λR f d=>sQ Ks R f d λa b z q=>wm (Ub a.at_ a.room.hd (f_ q) z) λJ J=>.after b
def sorted(y:X):X:=.by (@W' y) vX
end X
end W
def aT(L:Loc)(x:V)(v:AV):Loc:=L.rec [(x,v)] λp r q=>if p.1=x then(x,v)::r else p::q
theorem mD(x v L y):(aT L x v).lookup y=if y=x then some v else L.lookup y:=by
 have one:∀r,List.lookup y _=if y=x then some v else List.lookup y r:=λr=>by
  rw[abX];by_cases c:y=x
  .rw[abn c,abc.mpr c]
  .rw[aa_ c,abJ.mpr c]
 induction L with
 |nil=>exact one []
 |cons p r a=>
  show List.lookup y (if p.1=x then(x,v)::r else p::aT r x v)=_;by_cases q:p.1=x
  .rw[abn q,one,abX];by_cases c:y=x
   .rw[abn c,abn c]
   .rw[aa_ c,aa_ c,abJ.mpr λz=>c (z.trans q)]
  .rw[aa_ q,abX,abX,a];by_cases c:y=p.1
   .rw[abc.mpr c];exact(aa_ λz=>q (c.symm.trans z)).symm
   .rw[abJ.mpr c]
theorem qJ(e:(aT L x v).lookup y=some u):(y=x/\v=u)\/(y≠x/\L.lookup y=some u):=by
 rw[mD] at e;by_cases q:y=x
 .rw[abn q] at e;exact .inl ⟨q,aa0 e⟩
 .rw[aa_ q] at e;exact .inr ⟨q,e⟩
def Zt(env:Env)(xs:List V):Addr->Prop:=λb=>b=env.locals\/∃x,x∈xs/\env.kindOf (nm x)=some .cell/\env.cells.lookup (nm x)=some b
theorem Zt.own(z:Zt env xs b):Own env b:=z.imp id λz=>z.elim λx q=>⟨_,.inl q.2.1,q.2.2⟩
theorem Zt.sub(z:Zt env xs b)(h:∀x,x∈xs->x∈a):Zt env a b:=z.imp id λz=>z.imp λx q=>q.imp (h x) id
section
variable{g:Gl}{n:Nat}{Φ:W.aR}{A:Around}{env:Env}{L L':Loc}{β δ ah ax:List Addr}{σ aj:Sg}{s s':Shared}{base h h':Heap}
theorem Frame.own(F:Frame base h β δ L env)(o:Own env b):(base.objs.size<=b/\b∉β++δ)/\h.objs.size>b/\∀a vs n,h.get? b=some a->a.data≠.seq vs n:=by
 rcases o with e|⟨y,l,j⟩
 .obtain⟨m,⟨o,es,r,i,d,_⟩,_⟩:=F.ns;subst e;exact⟨⟨F.low,F.rG⟩,ab2 i,λa vs n e q=>Data.noConfusion (d.symm.trans ((aaU Obj.data (aa0 (i.symm.trans e))).trans q))⟩
 .obtain⟨c,o,C⟩:=F.cell y l;obtain⟨a,d,f⟩:=C.cell;have e:=aa0 (j.symm.trans C.look);subst e;exact⟨⟨C.low,C.num⟩,ab2 d,λp vs n e q=>Data.noConfusion (f.symm.trans ((aaU Obj.data (aa0 (d.symm.trans e))).trans q))⟩
theorem Frame.turn(F:Frame base h β δ L env)(o:Own env b)(hs:Heap.SameBut b h h'):Lay b h h':=⟨λc o n e=>(hs.2 c n).trans e,aa7 hs.1.symm,λc vs n e=>(hs.2 c λz=>(F.own o).2.2 _ vs n (z▸e) Y).trans e⟩
theorem Frame.Mf(F:Frame base h β δ L env){x v r}{m:Str->Option Value}(f:∀y u,L.lookup y=some u->env.kindOf (nm y)=some .local->∃r,m (nm y)=some r/\RV h β u r)
  (l:env.kindOf (nm x)=some .local)(j:h'.Ns env.locals λy=>if y=nm x then some r else m y)(hs:Heap.SameBut env.locals h h')(i:RV h β v r):Frame base h' β δ (aT L x v) env:=
 have tk:=(F.turn (.inl Y) hs).tup
 {F with
  ns:=⟨_,j,λy u b a=>(qJ b).elim (λq=>⟨r,abn (aaU nm q.1),q.2▸RV.mono tk (λJ J e=>e) _ _ i⟩) λq=>(f y u q.2 a).imp λd z=>⟨(aa_ λe=>q.1 (pH e)).trans z.1,RV.mono tk (λJ J e=>e) _ _ z.2⟩⟩
  cell:=λy a=>(F.cell y a).imp λc C=>C.imp λo C=>⟨C.look,C.cell.sameBut hs C.loc,C.num,C.low,C.loc,λz u hz b=>(qJ b).elim (λq=>by
   rw[←hz,q.1,l] at a;exact a.elim (λe=>NameKind.noConfusion (aa0 e)) λe=>NameKind.noConfusion (aa0 e)) λq=>(C.val z u hz q.2).imp λd z=>z.imp id (RV.mono tk (λJ J e=>e) _ _)⟩}
theorem Frame.Zy(F:Frame base h β δ L env)(i:env.kindOf (nm x)=some .cell)(C:Cb base h β δ L env (nm x) c o)(a:h'.IsCell c (some r))(hs:Heap.SameBut c h h')(p:RV h β v r):Frame base h' β δ (aT L x v) env:=
 have tk:=(F.turn (.inr ⟨_,.inl i,C.look⟩) hs).tup
 {F with
  ns:=F.ns.imp λm z=>⟨z.1.sameBut hs (Ne.symm C.loc),λy u b d=>(qJ b).elim (λq=>NameKind.noConfusion (aa0 (i.symm.trans (q.1▸d)))) λq=>(z.2 y u q.2 d).imp λl z=>z.imp id (RV.mono tk (λJ J e=>e) _ _)⟩
  cell:=λy d=>by
   obtain⟨j,o',D⟩:=F.cell y d;by_cases q:y=nm x
   .exact⟨c,some r,q▸C.look,a,C.num,C.low,C.loc,λz u hz b=>(qJ b).elim (λe=>⟨r,Y,e.2▸RV.mono tk (λJ J e=>e) _ _ p⟩) λe=>absurd (pH (hz.trans q)) e.1⟩
   .have f:j≠c:=λe=>q (F.apart _ _ _ D.look (e▸C.look));exact⟨j,o',D.look,D.cell.sameBut hs f,D.num,D.low,D.loc,λz u hz b=>(qJ b).elim (λe=>absurd (hz.symm.trans (aaU nm e.1)) q) λe=>(D.val z u hz e.2).imp λl z=>z.imp id (RV.mono tk (λJ J e=>e) _ _)⟩}
structure PT(g)(s:Shared)(β δ env)(xs σ L' s'):Prop where
 at_:At g β δ σ s'
 st:Step (Own env) s.heap β δ s'.heap β δ
 fr:Frame g.bF.heap s'.heap β δ L' env
 keep:∀b o,¬Zt env xs b->s.heap.get? b=some o->s'.heap.get? b=some o
theorem Step.gp(S:Step bB h β δ h' ah ax):Step Z h β δ h' ah ax:=S.weak λJ z=>z.elim
theorem PT.trans(i:∀y,y∈f->y∈xs)(p:∀b o,¬Zt env xs b->s.heap.get? b=some o->s'.heap.get? b=some o)(S:Step (Own env) s.heap β δ s'.heap β δ)(q:PT g s' β δ env f σ c a):PT g s β δ env xs σ c a:=
 ⟨q.at_,S.trans q.st,q.fr,λb o d e=>q.keep b o (λz=>d (z.sub i)) (p b o d e)⟩
theorem uF(R:W.Run g n Φ A env L β δ σ s)(a:W.jE env.kindOf x=true)(j:RV s.heap β v r):W.wp g A (storeName env (nm x) r) (λJ=>PT g s β δ env [x] σ (aT L x v)) s:=by
 have fin:∀{b h' t},Own env b->Zt env [x] b->Heap.SameBut b s.heap h'->Frame g.bF.heap h' β δ _ env->PT g s β δ env [x] σ (aT L x v) {s with heap:=h',toks:=t}:=λ{b h' t}d hz hs F=>by
  have l:=R.fr.turn d hs;have f:=R.fr.own d;exact⟨(R.at_.lay l f.1.2 f.1.1).toks t,⟨l.size,λc o e J z=>l.keep c o (λq=>z (q▸d)) e,l.tup,λJ J e=>e,λJ=>.inl⟩,F,λc o z=>l.keep c o λq=>z (q▸hz)⟩
 rcases W.kQ a with a|a<;>have a:=abc.mp a
 .obtain⟨m,u,p⟩:=R.fr.ns;exact wpAny_storeName_local a u (λh' i hs=>fin (.inl Y) (.inl Y) hs (R.fr.Mf p a i hs j)) (by rw[R.fr.kind];rfl)
 .obtain⟨c,o,C⟩:=R.fr.cell _ (.inl a);exact wpAny_storeName_cell R.fr.kind a C.look C.cell λh' i hs=>fin (.inr ⟨_,.inl a,C.look⟩) (.inr ⟨x,.head _,a,C.look⟩) hs (R.fr.Zy a C i hs j)
end
inductive Tg where
 |one(x:V)
 |many(xs:List V)
def p0(xs:List V):List AV->Loc->Option Loc:=xs.rec (λl L=>match l with
 |[]=>some L
 |_::_=>none) λx J q l L=>match l with
 |[]=>none
 |v::vs=>q vs (aT L x v)
def qg(t:Tg)(v:AV)(L:Loc):Option Loc:=match t with
 |.one x=>some (aT L x v)
 |.many xs=>match v with
  |.tup l=>p0 xs l L
  |_=>none
noncomputable def Tg.vars(t:Tg):List V:=match t with
 |.one x=>[x]
 |.many xs=>xs
namespace W
def qC(K:Kd)(x:V)(e:Expr):Bool:=asName e (λc=>c==nm x)&&jE K x
def mZ(K:Kd)(xs:List V):List Expr->Bool:=xs.rec (λes=>es.isEmpty) λx J q es=>match es with
 |[]=>false
 |e::es=>qC K x e&&q es
def jq(K:Kd)(t:Tg)(e:Expr):Bool:=match t with
 |.one x=>qC K x e
 |.many xs=>pj e λes=>mZ K xs es
theorem uA{K x e}{M:Expr->Prop}(h:qC K x e=true)(k:∀pos,jE K x=true->M (.Name (nm x) pos)):M e:=by
 apply oP (af h).1;intro c pos a;exact(abc.mp a)▸k pos (af h).2
theorem I_{K x xs es}{M:List Expr->Prop}(h:mZ K (x::xs) es=true)(k:∀pos r,jE K x=true->mZ K xs r=true->M (.Name (nm x) pos::r)):M es:=by
 cases es with
 |nil=>exact absurd h aaY
 |cons e r=>apply uA (af h).1;exactλpos a=>k pos r a (af h).2
section
variable{g:Gl}{n:Nat}{Φ:aR}{A:Around}{env:Env}{L:Loc}{β δ ah ax:List Addr}{σ aj:Sg}{s s':Shared}
theorem Run.turn(R:Run g n Φ A env L β δ σ s)(a:At g ah ax aj s')(F:Frame g.bF.heap s'.heap ah ax b env):Run g n Φ A env b ah ax aj s':=⟨R.iX,R.room,a,F⟩
theorem Ac(R:Run g n Φ A env L β δ σ s)(b:jE env.kindOf x=true)(a:RV s.heap β v r):wp g A (assign (.Name (nm x) pos) env r) (λJ=>PT g s β δ env [x] σ (aT L x v)) s:=aaV (abL (wpAny_bindName (uF R b a)))
theorem Zo(xs:List V):∀(es:List Expr){L s}{vs:List AV}{c:List Value}{d},Run g n Φ A env L β δ σ s->mZ env.kindOf xs es=true->ak s.heap β vs c->p0 xs vs L=some d->wp g A (assignInOrder ((assignEach es env).map (·.2)) c) (λJ=>PT g s β δ env xs σ d) s:=by
 induction xs with
 |nil=>
  intro es L s vs c d R h i a;cases vs with
  |nil=>
   exact(abD.mp h)▸abh ⟨R.at_,.refl,aa0 a▸R.fr,λJ J J e=>e⟩
  |cons=>exact absurd a.symm (aa8 _)
 |cons x xs q=>
  intro es L s vs c d R h i a;apply I_ h;intro pos es u h;cases vs with
  |nil=>exact absurd a.symm (aa8 _)
  |cons v vs=>
   apply i.e;intro r w t f;exact aaV (abQ (wm (Ac R u t) λJ s₁ p=>(wm (q es (R.turn p.at_ p.fr) h (f.step p.st) a) λJ j=>PT.trans (λy=>.tail _) (λb o z=>p.keep b o λl=>z (l.sub λy m=>aaT.mp m▸.head _)) p.st)))
theorem Zp(env)(xs:List V):∀{es:List Expr}{K},mZ K xs es=true->(assignEach es env).length=xs.length/\(assignEach es env).findIdx? (·.1)=none:=by
 induction xs with
 |nil=>exactλh=>(abD.mp h)▸⟨Y,Y⟩
 |cons x xs a=>
  intro es K h;apply I_ h;intro pos es _ h;rw[show assignEach _ env=_::assignEach es env from Y,List.findIdx?_cons,(a h).2];exact⟨aaU _ (a h).1,Y⟩
theorem Xw(xs):∀{vs L a},p0 xs vs L=some a->vs.length=xs.length:=by
 induction xs with
 |nil=>
  intro vs L a h;cases vs with
  |nil=>rfl
  |cons=>exact absurd h.symm (aa8 _)
 |cons x xs b=>
  intro vs L a h;cases vs with
  |nil=>exact absurd h.symm (aa8 _)
  |cons=>exact aaU _ (b h)
theorem Q1(R:Run g n Φ A env L β δ σ s)(d:mZ env.kindOf xs es=true)(p:RV s.heap β (.tup l) r)(i:p0 xs l L=some w):wp g A (assign (.Tuple es k pos) env r) (λJ=>PT g s β δ env xs σ w) s:=by
 apply fA p;intro x vs m q h;obtain⟨u,t⟩:=Zp env xs d;refine aaV (abL ?_);unfold unpack;rw[t,u,←Xw xs i,←ak.size h];refine aaV (abQ (wpAny_mono (nu (wpAny_unpackItems_tuple (Q:=λl s'=>∃a,Heap.ExtBut s.heap.objs.size s.heap a/\l=vs.toList/\s'={s with heap:=a}) R.room.hd ⟨_,q,Y,m,Y⟩ λa c=>⟨a,c,Y,Y⟩)) (λl s' hp=>?_) λJ J f=>f.2));obtain⟨hz,a,c,e1,e2⟩:=hp;subst e1 e2;have k:=λb o e=>c b o (abx (ab2 e)) e;have S:Step bB s.heap β δ a β δ:=Step.keeps hz k;exact wm (Zo xs es (R.next (R.at_.heap (R.at_.inv.keeps hz k)) S) d (h.step S) i) λJ j=>PT.trans (λJ m=>m) (λb o J=>k b o) (S.gp)
theorem wZ{t}{e v r d}(R:Run g n Φ A env L β δ σ s)(c:jq env.kindOf t e=true)(b:RV s.heap β v r)(a:qg t v L=some d):wp g A (assign e env r) (λJ=>PT g s β δ env t.vars σ d) s:=by
 cases t with
 |one x=>
  apply uA c;intro pos h;exact aa0 a▸Ac R h b
 |many xs=>
  apply m3 c;intro es k pos f;cases v with
  |tup l=>exact Q1 R f b a
  |_=>exact absurd a.symm (aa8 _)
end
end W
section
inductive Fl where
 |next|cont|ret(v:AV)
def vA(h:Heap)(β:List Addr)(x:Fl)(f:Flow):Prop:=match x with
 |.next=>f=.next
 |.cont=>f=.cont
 |.ret v=>∃r,f=.ret r/\RV h β v r
def tX(e:Expr):Bool:=j7 8 e&&(j7 9 e&&j7 10 e)
def Fb(e:Expr):Bool:=j7 25 e&&j7 24 e
theorem DS(t line env)(h:tX value=true):swapsWith value t line env=pure false:=by
 cases value<;>first|rfl|exact absurd h aaY
theorem rZ(c:swapsWithSole [t] value pos.line env=pure false)(b:swappedStores [t] value env=pure none)(a:assignEach [t] env=[(false,assign t env)]):exec (.Assign [t] value pos) env=(do
  standAt pos
  let v ←eval value env
  assign t env v
  pure .next):=by
 rw[arm_exec_Assign,c,a]
 rw[b]
 rfl
theorem J6(a:tX value=true):exec (.Assign [.Name x p] value pos) env=(do
  standAt pos
  let v ←eval value env
  assign (.Name x p) env v
  pure .next):=rZ (show swapsWith value (some (.Name x p)) pos.line env=pure false from DS _ _ _ a) Y Y
theorem Mn(b:tX value=true)(a:Fb value=true):exec (.Assign [.Tuple es k p] value pos) env=(do
  standAt pos
  let v ←eval value env
  assign (.Tuple es k p) env v
  pure .next):=rZ (show swapsWith value (some (.Tuple es k p)) pos.line env=pure false from DS _ _ _ b) (by cases value<;>first|rfl|exact absurd a aaY) Y
theorem Ot:exec (.Assign [.Attribute x a p] value pos) env=(do
  standAt pos
  let v ←eval value env
  assign (.Attribute x a p) env v
  pure .next):=rZ (by
   cases value<;>rfl) Y Y
theorem P0:exec (.Assign [.Subscript x i p] value pos) env=(do
  standAt pos
  let v ←eval value env
  assign (.Subscript x i p) env v
  pure .next):=rZ (by
   cases value<;>rfl) Y Y
namespace W
open Do
abbrev PS:=Fl->Loc->Sg->Prop
abbrev eW:=PS->Sg->Prop
inductive PE(g)(s:Shared)(β δ env)(Q:PS)(f s'):Prop
 |mk (fl L' aj ah ax) (a:At g ah ax aj s') (S:Step (Own env) s.heap β δ s'.heap ah ax) (F:Frame g.bF.heap s'.heap ah ax L' env) (o:vA s'.heap ah fl f) (q:Q fl L' aj)
def eA(den:aR->Loc->eW)(a:Kd->Stmt->Bool):Prop:=∀{g n c A env L β b σ s Q st},Run g n c A env L β b σ s->a env.kindOf st=true->den c L Q σ->wp g A (exec st env) (PE g s β b env Q) s
structure S where
 den:aR->Loc->eW
 aN:Kd->Stmt->Bool
 ok:eA den aN
def kS(k:Loc->eW)(Q:PS)(fl:Fl)(L:Loc)(σ:Sg):Prop:=match fl with
 |.next=>k L Q σ
 |fl=>Q fl L σ
def bH(a:aR):List S->Loc->eW
 |[],L=>λQ σ=>Q .next L σ
 |s::r,L=>λQ=>s.den a L (kS (bH a r) Q)
def iq(K:Kd)(l:List S):List Stmt->Bool:=l.rec (λst=>st.isEmpty) λs J q st=>match st with
 |[]=>false
 |t::r=>s.aN K t&&q r
def WS(L:Loc)(Q:PS)(v:AV):Sg->Prop:=Q (.ret v) L
def kEx(L:Loc)(Q:PS)(_:AV):Sg->Prop:=Q .next L
def Nc(Q:PS)(L:Loc):Sg->Prop:=Q .next L
def bd(t:Tg)(v:AV)(L:Loc)(Q:Loc->Sg->Prop)(σ:Sg):Prop:=match t with
 |.one x=>Q (aT L x v) σ
 |.many xs=>eF (qg (.many xs) v L) Q σ
def Ug(t:Tg)(L:Loc)(Q:PS)(v:AV):Sg->Prop:=bd t v L (Nc Q)
def Vi(a b:Loc->eW)(L:Loc)(Q:PS)(t:Bool)(σ:Sg):Prop:=match t with|true=>a L Q σ|false=>b L Q σ
def Xi(a b:Loc->eW)(L:Loc)(Q:PS)(v:AV):Sg->Prop:=eG v (Vi a b L Q)
section
variable{g:Gl}{n:Nat}{Φ:aR}{A:Around}{env:Env}{L:Loc}{β δ ah ax:List Addr}{σ aj:Sg}{s s' kR:Shared}{Q:PS}{f:Flow}
theorem PE.after(S:Step (Own env) s.heap β δ s'.heap ah ax)(p:PE g s' ah ax env Q f kR):PE g s β δ env Q f kR:=by
 obtain⟨fl,h,aj,b,d,a,c,F,o,q⟩:=p;exact⟨fl,h,aj,b,d,a,S.trans c,F,o,q⟩
theorem Run.pe(R:Run g n Φ A env L ah ax aj s')(S:Step bB s.heap β δ s'.heap ah ax)(x:vA s'.heap ah fl f)(q:Q fl L aj):PE g s β δ env Q f s':=⟨fl,L,aj,ah,ax,R.at_,S.gp,R.fr,x,q⟩
theorem PT.pe(p:PT g s β δ env xs σ a s')(q:Q .next a σ):PE g s β δ env Q .next s':=⟨.next,a,σ,β,δ,p.at_,p.st,p.fr,Y,q⟩
theorem xj{t v Q}(h:bd t v L Q σ):∃a,qg t v L=some a/\Q a σ:=by
 cases t with
 |one x=>exact⟨_,Y,h⟩
 |many xs=>exact gh h
theorem pU(l):∀(a){L β δ σ s Q},Run g n Φ A env L β δ σ s->iq env.kindOf l a=true->bH Φ l L Q σ->wp g A (execs a env) (PE g s β δ env Q) s:=by
 induction l with
 |nil=>
  exactλa L β δ σ s Q R w h=>(abD.mp w)▸wpAny_execs_nil (R.pe .refl (fl:=.next) Y h)
 |cons x l y=>
  intro a L β δ σ s Q R w h;cases a with
  |nil=>exact absurd w aaY
  |cons st a=>
   refine wpAny_execs_cons (wm (x.ok R (af w).1 h) λf s₁ p=>?_);obtain⟨fl,t,i,m,j,b,c,d,u,q⟩:=p;cases fl with
   |next=>exact(u)▸wm (y a (R.turn b d) (af w).2 q) λJ J=>.after c
   |cont=>exact(u)▸⟨.cont,t,i,m,j,b,c,d,Y,q⟩
   |ret v=>exact u.elim λr u=>u.1▸⟨.ret v,t,i,m,j,b,c,d,⟨r,Y,u.2⟩,q⟩
end
namespace S
theorem Mp:eA (λJ J J J=>False) (λJ J=>true):=λJ J h=>h.elim
noncomputable def gV:S:=⟨λJ J J J=>False,λJ J=>true,Mp⟩
theorem Uo:eA (λJ L Q=>Q .next L) (λJ st=>decide (st.ctorIdx=25)):=λ{g n d A env L β c σ s Q st}R b a=>Stmt.Pass.elim st (abl b) λpos=>(wpAny_Pass (R.pe .refl (fl:=.next) Y a))
noncomputable def pass:S:=⟨_,_,@Uo⟩
theorem Ni(x:X):eA (λb L Q=>x.den b L (WS L Q)) (λK st=>Fp st λo=>X.xW o (x.aN K)):=λ{g n b A env L β h σ s Q st}R d c=>by
 apply YV d;intro o pos a
 apply X.E7 a;intro e a
 exact wpAny_Return_some (cD R a c λ{v r}_ _ _ _ f S z q=>f.pe S (fl:=.ret v) ⟨r,Y,z⟩ q)
def ret(x:X):S:=⟨_,_,@Ni x⟩
theorem Z1{g A s P}(f)(l k p pos v)(h:P .next s):wp g A (dropValue (.Call f l k p) pos v) P s:=by
 cases v with
 |ref a=>exact aaV (abL (aaV (wpAny_runValue (codeAny_builtin entry_let_go (abh (abh h))))))
 |_=>exact abh h
theorem Vp(x:X):eA (λb L Q=>x.den b L (kEx L Q)) (λK st=>Ci st λe=>x.aN K e&&oI e λJ J J J=>true):=λ{g n b A env L β m σ s Q st}R i h=>by
 apply Kh i;intro e pos c
 have a:=(af c).1
 revert a;apply oQ (af c).2;intro f l k p _ a
 have d:interactive env=false:=by unfold interactive;rw[R.fr.kind];rfl
 rw[exec_Expr env _ pos d Y]
 exact aaV (abL (aaV (cD R a h λj S z q=>Z1 f l k p pos _ (j.pe S (fl:=.next) Y q))))
def ex(x:X):S:=⟨_,_,@Vp x⟩
def Pa(K:Kd)(t:Tg)(te e:Expr):Bool:=tX e&&match t with
 |.one x=>qC K x te
 |.many xs=>jq K (.many xs) te&&Fb e
theorem MY(t)(x:X):eA (λf L Q=>x.den f L (Ug t L Q)) (λK st=>ny st λh e=>one h λte=>Pa K t te e&&x.aN K e):=λ{g n f A env L β l σ s Q st}R B w=>by
 apply qy B;intro h e pos d
 apply fu d;intro te d
 obtain⟨a,m⟩:=af d
 have fin:jq env.kindOf t te=true->exec _ env=(do
  standAt pos
  let v ←eval e env
  PySem.assign te env v
  pure .next)->wp g A (exec (.Assign [te] e pos) env) (PE g s β l env Q) s:=λr u=>by
  rw[u]
  refine aaV (abL (aaV (cD R m w λc b z q=>?_)))
  obtain⟨j,D,q⟩:=xj q
  exact aaV (wm (wZ c r z D) λJ i p=>abh (.after b.gp (PT.pe p q)))
 cases t with
 |one y=>
  refine fin (af a).2 ?_;apply uA (af a).2;intro p _;exact J6 (af a).1
 |many H=>
  refine fin (af (af a).2).1 ?_;apply m3 (af (af a).2).1;intro es k p _;exact Mn (af a).1 (af (af a).2).2
def assign(t:Tg)(x:X):S:=⟨_,_,@MY t x⟩
theorem Sv(c:X)(a b):eA (λi L Q=>c.den i L (Xi (bH i a) (bH i b) L Q)) (λK st=>DB st λt x y=>c.aN K t&&(iq K a x&&iq K b y)):=λ{g n i A env L β p σ s Q st}R m l=>by
 apply U9 m;intro t x y pos j
 refine wpAny_If (kC R (af j).1 l (λJ J h=>h) λt=>λf d q=>?_)
 cases t
 .exact wm (pU b _ f (af (af j).2).2 q) λJ J q=>.after d.gp q
 .exact wm (pU a _ f (af (af j).2).1 q) λJ J q=>.after d.gp q
def aC(c:X)(a b:List S):S:=⟨_,_,@Sv c a b⟩
end S
end W
end
section
section
variable{prog:Program}{w:World}{A:Around}{s:Shared}{K:Frag}{C x dx:Addr}{R:Result->Shared->Prop}
theorem K4(name h t v es):(putL name h t v es).length<=es.length+1:=by
 induction es with
 |nil=>exact aaX _
 |cons e r a=>
  unfold putL;by_cases c:e.key.isStr name=true
  .rw[abn c];exact ab7 _
  .rw[aa_ c];exact abI a
theorem WR(X:K.In s.heap)(j:s.heap.get? x=some (instObj C dx))(a:s.heap.get? dx=some (dictOf es n))(hp:plainOver K C=true)(l:takerIn K C name=some none)(p:(clsIn K C).any (·.hasDict)=true)
  (m:es.any (·.refKey)=false)(hz:es.length<=900)
  (h:∀d,d.get? dx=some (dictOf (putL name (PyData.keyHash w.params name) (.str name s.toks) v es) (putN name es n))->Heap.SameBut dx s.heap d->R (.ok (.ret .none)) {s with heap:=d,toks:=s.toks+1}):
  codeAny (model prog w) A (.call (.builtin "object.__setattr__") ⟨[.ref x,.str name tk,v],[]⟩) R s:=by
 refine osa_open X (⟨j,Y,Y,a⟩:InstAt s.heap x _ C (some _)) hp l λb=>?_
 obtain⟨cd,q,i⟩:=any_some p
 have f:=Heap.get?_update_self (Obj.putName name (PyData.keyHash w.params name) (.str name s.toks) v) a (by rw[putName_dict];rfl)
 rw[putName_dict] at f
 refine aaV (abh (aaV (aaV (wpAny_loadPart j (aaV ((looks_clsIn X q).here ?_))))))
 rw[i]
 refine abh (aaV (abh (aaV ?_)))
 refine aaV (aaV (wpAny_askSetting (abh (aaV (wpAny_mkText (aaV (wpAny_loadPart a ?_)))))))
 dsimp only
 have c:(!es.toArray.any (·.key.isStr name)&&es.toArray.any (·.refKey))=false:=by
  rw[←Array.any_toList,←Array.any_toList];rw[m,Bool.and_false]
 rw[aRefKeyMayBeTheName_at,c]
 exact wpAny_updatePart a (aaV (wpAny_lookBehind f (pastItsLine_dict (aaS (K4 name _ _ v es) (aaS (abI hz) ()))) (abh (h _ f (Heap.SameBut.update ..)))))
end
section
variable{h:Heap}{β:List Addr}
theorem cx.put(b:RV h β v r)(fs):∀es,cx h β fs es->cx h β (aT fs x v) (putL (nm x) hs (.str (nm x) t) r es):=by
 induction fs with
 |nil=>exactλes e=>(e)▸⟨_,_,t,Y,Y,b,Y⟩
 |cons p fs i=>
  intro es z;apply z.e;intro e f u k a d;show cx h β (if p.1=x then(x,v)::fs else p::aT fs x v) _;unfold putL;rw[k,AG];by_cases c:p.1=x
  .rw[abn c,aba c];exact⟨_,_,u,Y,c▸Y,b,d⟩
  .rw[aa_ c,abf c];exact⟨_,_,u,Y,k,a,i f d⟩
theorem ZJ(x v)(fs:List (V×AV)):(fs.map (·.1)).Nodup->((aT fs x v).map (·.1)).Nodup/\∀y,y∈(aT fs x v).map (·.1)->y=x\/y∈fs.map (·.1):=by
 induction fs with
 |nil=>exactλJ=>⟨abv.mpr ⟨abo,ab6⟩,λy m=>.inl (aaT.mp m)⟩
 |cons p fs d=>
  intro h;obtain⟨b,h⟩:=abv.mp h;obtain⟨f,a⟩:=d h;show((if p.1=x then(x,v)::fs else p::aT fs x v).map _).Nodup/\∀y,y∈(if p.1=x then(x,v)::fs else p::aT fs x v).map (·.1)->_;by_cases c:p.1=x
  .rw[abn c];exact⟨abv.mpr ⟨c▸b,h⟩,λy m=>.inr ((show(p::fs).map _=x::fs.map (·.1) from c▸Y)▸m)⟩
  .rw[aa_ c];exact⟨abv.mpr ⟨λm=>(a p.1 m).elim c b,f⟩,λy m=>(aa5.mp m).elim (λe=>.inr (e▸.head _)) λm=>(a y m).imp id (.tail _)⟩
theorem ak.set(l):∀vs k x v,ak h β l vs->RV h β x v->ak h β (l.set k x) (vs.set k v):=by
 induction l with
 |nil=>exactλvs k x v e J=>(e)▸Y
 |cons y l c=>
  intro vs k x v z a;apply z.e;intro u r d b;cases k with
  |zero=>exact⟨v,r,Y,a,b⟩
  |succ k=>exact⟨u,_,Y,d,c r k x v b a⟩
end
theorem Vc{prog w A E}{s l items ne}{k:Int}{t v Q}(b:s.heap.get? l=some (cZ items ne))(f:0<=k)(a:k<2^63)(i:k<items.size)
  (m:∀d h,d.get? l=some (cZ (items.setIfInBounds k.toNat v) h)->Heap.SameBut l s.heap d->Q ⟨⟩ {s with heap:=d}):wpAny (model prog w) A (setItem (.ref l) (.int k t) v) Q E s:=by
 have c:=eD b
 unfold setItem
 try with_reducible refine abQ ?_
 refine aaV (wpAny_sequenceKey c.typeIs () ?_)
 refine aaV (wpAny_callSpecial?_slot c.typeIs slot_list_setitem
  (wpAny_call_entry slot_list_setitem c.typeIs entry_list_setitem ?_ (args_list_setitem ..)))
 show wpAny _ _ (Builtin.List.listSubscript? _>>=_) _ _ s
 refine aaV (wpAny_listSubscript_int (fitsIndex_of f a) ?_)
 clear a
 obtain⟨j,rfl⟩:=Int.eq_ofNat_of_zero_le f
 refine aaV (aaV (wpAny_seqItemAt b Y (abh ?_)))
 rw[Array.getElem?_eq_getElem (Int.ofNat_lt.mp i)]
 refine aaV (wpAny_setSeqItemAt b Y ?_)
 first
  |assumption
  |exact abh ⟨.none,Y,abh (m _ _ (IsL.update b (·.setIfInBounds j v)) (Heap.SameBut.update ..))⟩
namespace W
open Do
def sA(n:Nat)(a:V)(v:AV)(o:AO):Do AV:=match o with
  |.inst C fs=>λQ σ=>(isField C a=true/\fs.length<500)/\Q .none (σ.set n (.inst C (aT fs a v)))
  |_=>no
def qY(x:AV)(a:V)(v:AV):Do AV:=match x with
 |.loc n=>hp n (sA n a v)
 |_=>no
def sI(n:Nat)(i v:AV)(o:AO):Do AV:=match o with
  |.list l=>(match i with
   |.int k=>λQ σ=>(0<=k/\k<l.length/\k<2^62)/\Q .none (σ.set n (.list (l.set k.toNat v)))
   |_=>no)
  |.dict ks es=>λQ σ=>(ks.ok i=true/\es.length<=sizeLine)/\Q .none (σ.set n (.dict ks (aM es i v)))
  |_=>no
def FX(x i v:AV):Do AV:=match x with
 |.loc n=>hp n (sI n i v)
 |_=>no
section
variable{g:Gl}{n:Nat}{A:Around}{β δ:List Addr}{σ:Sg}{s:Shared}{Q:PX}{x v:AV}{o r:Value}
theorem F8(a:At g β δ σ s)(h:qY x f v Q σ)(u:RV s.heap β x o)(w:RV s.heap β v r):wp g A (setAttr o (nm f) r) (λJ s'=>PU g s β δ (Q .none) s') s:=by
 cases x with
 |loc k=>
  apply cI u;intro q b;obtain⟨o,e1,h⟩:=ej h;cases o with
  |inst C fs=>
   obtain⟨p,hp,z⟩:=Ar h.1.1;obtain⟨F,l,_⟩:=qm (g.ct _ _ hp);obtain⟨d,arr,m,j,I,i,c,t⟩:=a.inst e1 b;have y:takerIn g.K C (nm f)=some none:=by unfold takerIn;rw[l _ z];rfl
   refine set_plain a.X I F.sa (WR a.X i.1 i.2 F.po y F.hd (cx.noRef _ _ c) (cx.length _ _ c▸aaS (abG h.1.2) ()) λH B hs=>?_);obtain⟨D,S⟩:=a.yL (ao:=.inst C _) b j.1 (.inr Y) hs λS=>⟨j.2,(hs.2 q j.2).trans i.1,⟨_,_,B,cx.mono S.tup S.pre _ _ (cx.put w fs arr c)⟩,(ZJ _ _ _ t).1⟩;exact⟨_,β,δ,D.toks _,S,h.2⟩
  |_=>exact h.elim
 |_=>exact h.elim
theorem Ld{i j}(a:At g β δ σ s)(R:dI A n)(h:FX x i v Q σ)(u:RV s.heap β x o)(p:RV s.heap β i j)(d:RV s.heap β v r):wp g A (setItem o j r) (λJ s'=>PU g s β δ (Q .none) s') s:=by
 cases x with
 |loc k=>
  apply cI u;intro L b;obtain⟨o,e1,h⟩:=ej h;cases o with
  |list l=>
   cases i with
   |int k=>
    obtain⟨⟨H,D,B⟩,q⟩:=h;apply eL p;intro t;obtain⟨vs,m,w,f⟩:=a.list e1 b;refine Vc w H (Int.lt_trans B ()) (ak.size f▸D) λz M y hs=>?_;obtain⟨c,S⟩:=At.rL a e1 b hs y (Array.toList_setIfInBounds▸ak.set _ _ _ _ _ f d);exact⟨_,β,δ,c,S,q⟩
   |_=>exact h.elim
  |dict ks es=>exact(qj R a e1 b h.1.1 p).put _ _ _ d h.1.2 λz t c S=>⟨_,β,δ,c,S,h.2⟩
  |_=>exact h.elim
 |_=>exact h.elim
end
def P8(a:V)(L:Loc)(Q:PS)(v u:AV):Sg->Prop:=qY u a v (kEx L Q)
def TX(o:X)(a:V)(b:aR)(L:Loc)(Q:PS)(v:AV):Sg->Prop:=o.den b L (P8 a L Q v)
def UA(L:Loc)(Q:PS)(v u k:AV):Sg->Prop:=FX u k v (kEx L Q)
def Rf(i:X)(a:aR)(L:Loc)(Q:PS)(v u:AV):Sg->Prop:=i.den a L (UA L Q v u)
def wg(o i:X)(a:aR)(L:Loc)(Q:PS)(v:AV):Sg->Prop:=o.den a L (Rf i a L Q v)
theorem PU.pe(R:Run g n r A env L d c m s')(S:Step bB s.heap β l s'.heap d c)(p:PU g s' d c (kEx L Q v) f):PE g s β l env Q .next f:=by
 obtain⟨h,j,i,a,b,q⟩:=p;exact(R.next a b).pe (S.trans b) (fl:=.next) Y q
namespace S
theorem Z0(o a)(x:X):eA (λl L Q=>x.den l L (TX o a l L Q)) (λK st=>ny st λm e=>one m λte=>x.aN K e&&oq te λb c J=>c==nm a&&o.aN K b):=λ{g n l A env L β B σ s Q st}R y w=>by
 apply qy y;intro m e pos j
 apply fu j;intro te j
 apply qO (af j).2;intro b c pos' r
 rw[Ot,abc.mp (af r).1]
 exact aaV (abL (aaV (cD R ((af j).1) w λi h z q=>aaV (aaV (abQ (cD i (af r).2 q λf d u q=>aaV (abL (aaV (abQ (wm (F8 f.at_ q u (z.step d)) λJ t p=>wpAny_release (abh (PU.pe f (h.trans d) p))))))))))))
def setattr(o:X)(a:V)(x:X):S:=⟨_,_,@Z0 o a x⟩
theorem Xb(o i x:X):eA (λr L Q=>x.den r L (wg o i r L Q)) (λK st=>ny st λt e=>one t λte=>x.aN K e&&kH te λb c=>o.aN K b&&i.aN K c):=λ{g n r A env L β M σ s Q st}R H D=>by
 apply qy H;intro t e pos m
 apply fu m;intro te m
 apply nB (af m).2;intro b c pos' u
 rw[P0]
 exact aaV (abL (aaV (cD R ((af m).1) D λl h z q=>aaV (aaV (abQ (cD l (af u).1 q λj f y q=>aaV (abQ (cD j (af u).2 q λd a B q=>aaV (abL (aaV (abQ (wm (Ld d.at_ d.room q (y.step a) B (z.step (f.trans a))) λJ w p=>wpAny_release (abh (PU.pe d (h.trans (f.trans a)) p))))))))))))))
def c9(o i x:X):S:=⟨_,_,@Xb o i x⟩
end S
end W
end
section
theorem ZV:seqSlot? (.type "list") (dunderI "add")=pure (some (.builtin "list.__iadd__")):=PySem.seqSlot_of PySem.F.slot_list_iadd.lookup (by decide+kernel)
theorem MM:fillsInplaceSlot (.type "list") "add" (Operator.Add==.Add)=pure false:=by
 show(typeLookup _ _>>=λa=>pure _)=pure false;rw[PySem.F.slot_list_iadd.lookup];show _=pure false;rfl
theorem LX(d:s.heap.get? l=some (cZ vs m))(f:s.heap.get? b=some (cZ ws k))(hz:vs.size+ws.size<=sizeLine)
  (h:P (.ref l) {s with heap:=s.heap.update l (Obj.mapSeq λx=>x++ws)}):W.wp g A (inplaceOp .Add (.ref l) (.ref b)) P s:=by
 have c:s.TypeIs (.ref l) "list":=⟨_,d,Y⟩
 refine abQ (aaV (wpAny_typeOf c (aaV (wpAny_of_eq MM ?_))))
 refine aaV (wpAny_binaryOp1_none c ⟨_,f,Y⟩ noFill_list_add (aaV (wpAny_of_eq ZV (aaV (wpAny_rule ?_)))))
 have a:¬((!vs.isEmpty&&Builtin.List.listTooLong (vs.size+ws.size))=true):=by
  unfold Builtin.List.listTooLong;rw[abf (ab0.mpr (aaS (sizeLine_eq▸hz) ())),Bool.and_false];exact aaY
 exact call_meets PySem.F.slot_list_iadd c PySem.F.entry_list_iadd (PySem.F.args_list_iadd_2 ..) (AutoSeq1.list___iadd___list_list_0 l vs m b ws k a (by omega) (by omega)) ⟨d,f,h⟩
namespace W
open Do
def Av(n m:Nat):Do AV:=λQ σ=>∃a b,(n≠m/\σ[n]?=some (.list a)/\σ[m]?=some (.list b)/\a.length+b.length<=sizeLine)/\Q (.loc n) (σ.set n (.list (a++b)))
def Ab(x y:AV):Do AV:=match x with
 |.int a=>match y with
  |.int b=>ret (.int (a+b))
  |_=>no
 |.loc n=>match y with
  |.loc m=>pr (Av n m)
  |_=>no
 |_=>no
theorem Gi:jZ .Add Ab:=λ{g n A β N σ s Q x y r t}a R h H D=>by
 cases x with
 |int i=>
  cases y with
  |int j=>
   apply eL H;intro u;apply eL D;intro w;exact PySem.P.iadd_int (.tok (v:=.int _) a _ ⟨_,Y⟩ h)
  |_=>exact h.elim
 |loc i=>
  cases y with
  |loc j=>
   apply cI H;intro B b;apply cI D;intro U f;obtain⟨l,l',c,q⟩:=f_ h;obtain⟨vs,m,L,M⟩:=a.list c.2.1 b;obtain⟨us,k,p,d⟩:=a.list c.2.2.1 f;refine LX L p (by rw[ak.size M,ak.size d];exact c.2.2.2) ?_
   obtain⟨T,S⟩:=At.rL a c.2.1 b (Heap.SameBut.update s.heap B _) (IsL.update L λz=>z++us) (ak.z5 M d);exact⟨.loc i,_,β,N,T,S,⟨B,b,Y⟩,q⟩
  |_=>exact h.elim
 |_=>exact h.elim
def Ws(x:V)(L:Loc)(Q:PS)(v:AV):Sg->Prop:=Q .next (aT L x v)
def L0(f:AV->AV->Do AV)(x:V)(L:Loc)(Q:PS)(a b:AV):Sg->Prop:=f a b (Ws x L Q)
def XM(f:AV->AV->Do AV)(x:V)(y:X)(b:aR)(L:Loc)(Q:PS)(a:AV):Sg->Prop:=y.den b L (L0 f x L Q a)
def PR(a:V)(L:Loc)(Q:PS)(u v:AV):Sg->Prop:=qY u a v (kEx L Q)
def P'(f:AV->AV->Do AV)(a:V)(L:Loc)(Q:PS)(u x b:AV):Sg->Prop:=f x b (PR a L Q u)
def KV(f:AV->AV->Do AV)(a:V)(y:X)(b:aR)(L:Loc)(Q:PS)(u x:AV):Sg->Prop:=y.den b L (P' f a L Q u x)
def T6(f:AV->AV->Do AV)(a:V)(y:X)(b:aR)(L:Loc)(Q:PS)(u:AV):Sg->Prop:=jX u a (KV f a y b L Q u)
theorem Run.pv{g}{n h A env}{L β f σ s s'}{Q:PX}{r}{P:Prop}(R:Run g n h A env L β f σ s)(p:PV g s β f Q r s')(k:∀{v c b d},Run g n h A env L b d c s'->Step bB s.heap β f s'.heap b d->RV s'.heap b v r->Q v c->P):P:=by
 obtain⟨v,c,b,d,a,S,z,q⟩:=p;exact k (R.next a S) S z q
namespace S
theorem MH{op f}(ok:jZ op f)(x y):eA (λl L Q=>of (L.lookup x) (XM f x y l L Q)) (λK st=>yQ st λte o e=>(o==op&&y.aN K e)&&qC K x te):=λ{g n l A env L β U σ s Q st}R T N=>by
 apply Ft T;intro te o e pos H
 obtain⟨m,D⟩:=af H
 rw[abc.mp (af m).1]
 apply uA D;intro p t
 obtain⟨a,M,q⟩:=yb N
 exact aaV (abL (aaV (Jk R (Bool.or_eq_true_iff.mpr (.inl t)) M λr z=>aaV (abQ (cD R (af m).2 q λb c h q=>aaV (abL (aaV (wpAny_operating (wm (ok b.at_ b.room q (z.step c) h) λB w q=>b.pv q λj i d q=>(aaV (abL (aaV (wpAny_bindName (wm (uF j t d) λJ u p=>abh (.after ((c.trans i).gp) (PT.pe p q))))))))))))))))
def aug{op}(f)(ok:jZ op f)(x:V)(y:X):S:=⟨_,_,@MH op f @ok x y⟩
theorem KN{op}{f:AV->AV->Do AV}(ok:jZ op f)(o:X)(a y):eA (λu L Q=>o.den u L (T6 f a y u L Q)) (λK st=>yQ st λte p e=>(p==op&&y.aN K e)&&oq te λb c J=>c==nm a&&o.aN K b):=λ{g n u A env L β δ σ s Q st}R hc U=>by
 apply Ft hc;intro te p e pos T
 obtain⟨x,N⟩:=af T
 rw[abc.mp (af x).1]
 apply qO N;intro b c pos' z
 rw[abc.mp (af z).1]
 refine aaV (abL (aaV (cD R (af z).2 U λj r w q=>aaV (abQ (aaV (abL (aaV (wm (Ap j.at_ q w) λrx H q=>j.pv q λt m zx q=>?_))))))))
 refine aaV (abQ (cD t (af x).2 q λd h M q=>aaV (abL (wpAny_operating (wm (ok d.at_ d.room q (zx.step h) M) λrv D q=>d.pv q λi l zv q=>?_)))))
 have S:=m.trans (h.trans l)
 exact aaV (abL (aaV (abQ (wm (F8 i.at_ q (w.step S) zv) λJ B p=>aaV (wpAny_release (abh (PU.pe i (r.trans S) p)))))))
def I0{op}(f)(ok:jZ op f)(o:X)(a:V)(y:X):S:=⟨_,_,@KN op f @ok o a y⟩
abbrev iadd:=aug Ab Gi
abbrev JA:=I0 Ab Gi
abbrev T4:=I0 X.HW Us
abbrev ior:=aug X.BA NI
end S
end W
end
section
def gO(es:List (AV×AV))(k:AV):List (AV×AV):=es.filter λp=>!decide (p.1=k)
section
variable{prog:Program}{w:World}{K:Type}[DecidableEq K]{knd:HeapKind prog w K}{A:Around}{E:Value->Shared->Prop}{s:Shared}{d a:Addr}{k:K}{xs:List (K×Addr×Value)}
noncomputable def kv(xs:List (K×Addr×Value))(k:K):List (K×Addr×Value):=xs.filter λx=>!decide (x.1=k)
theorem HA(h:x.1=k):kv (x::r) k=kv r k:=List.filter_cons_of_neg (by rw[aba h];decide)
theorem Fw(h:x.1≠k):kv (x::r) k=x::kv r k:=List.filter_cons_of_pos (by rw[abf h];rfl)
theorem QW(k)(p:Addr×Value)(xs:List (K×Addr×Value)):∀j:Nat,(xs.map (·.1)).Nodup->xs[j]?=some (k,p)->xs.eraseIdx j=kv xs k:=by
 induction xs with
 |nil=>exactλj J h=>absurd h.symm (aa8 _)
 |cons x r f=>
  intro j b h;obtain⟨c,b⟩:=abv.mp b;cases j with
  |zero=>
   have e:x.1=k:=aaU Prod.fst (aa0 h);exact(HA e)▸(List.filter_eq_self.mpr λy m=>by rw[abf λz:y.1=k=>c (aa6.mpr ⟨y,m,z.trans e.symm⟩)];rfl).symm
  |succ j=>
   rw[Fw λe=>c (aa6.mpr ⟨_,abk h,e.symm⟩),List.eraseIdx_cons_succ,f j b h]
theorem Xs(f:b->β)(l:List b):∀j,(l.map f).eraseIdx j=(l.eraseIdx j).map f:=by
 induction l with
 |nil=>exactλJ=>Y
 |cons x l c=>
  intro j;cases j with
  |zero=>rfl
  |succ j=>rw[abM,List.eraseIdx_cons_succ,List.eraseIdx_cons_succ,abM,c]
theorem Ow(u:knd.room A)(b:knd.is s.heap k a)(B:s.heap.DictOfH knd d xs)(y:(atKey xs k).isSome=true)
  (H:∀e r,r.DictOfH knd d (kv xs k)->Heap.SameBut d s.heap r->Q (some e) {s with heap:=r,toks:=s.toks+knd.draws k})
  (hsz:xs.length<=sizeLine):wpAny (model prog w) A (Builtin.Dict.takeOut d (.ref a)) Q E s:=by
 obtain⟨o,es,L,f,D,c,l,h,m⟩:=B
 unfold Builtin.Dict.takeOut
 try with_reducible refine abQ ?_
 refine aaV (knd.pyHash u b (aaV (wpAny_dictFind_heap u b f c l h m (λt=>?_) λj p q=>?_)))
 .rw[atKey_none_of_get t] at y;exact absurd y aaY
 .refine aaV (wpAny_dictEntries f c ?_);rw[entry_at l j,q];have i:=size_of_entries l;refine aaV (wpAny_updateDictKeys (hz:=i▸hsz) f c (abh (H _ _ ⟨_,_,L+1,Heap.get?_update_self _ f (Obj.isFreed_of_dict (Obj.data_mapDictKeys c _)),
   D.mapDictKeys _,Obj.data_mapDictKeys c _,?_,λx z=>knd.keeps (h x (abZ.mp z).1) f c (Heap.SameBut.update ..),List.Nodup.sublist (List.Sublist.map _ List.filter_sublist) m⟩ (Heap.SameBut.update ..))))
  rw[←QW k p xs j m q,←Xs,←l];rw[Array.eraseIdxIfInBounds,dif_pos (i▸dv q),Array.toList_eraseIdx]
theorem Qg(j:knd.room A.in1)(c:knd.is s.heap k a)(f:s.heap.DictOfH knd d xs)(l:(atKey xs k).isSome=true)
  (m:∀b,b.DictOfH knd d (kv xs k)->Heap.SameBut d s.heap b->Q ⟨⟩ {s with heap:=b,toks:=s.toks+knd.draws k})
  (hsz:xs.length<=sizeLine):wpAny (model prog w) A (delItem (.ref d) (.ref a)) Q E s:=by
 refine wpAny_delItem_slot f.typeIs () PySem.F.slot_dict_delitem ?_
 refine wpAny_call_entry PySem.F.slot_dict_delitem f.typeIs PySem.F.entry_dict_delitem ?_ (PySem.F.args_dict_delitem_2 ..)
 refine aaV ?_
 refine aaV (wpAny_notOrdered_dict f.typeIs ?_)
 refine abh ?_
 show wpAny _ _ (Builtin.Dict.takeOut d _>>=_) _ _ s
 exact aaV (Ow (hsz:=hsz) j c f l λe b i h=>aaV (wpAny_letGo (abh ⟨.none,Y,m b i h⟩)))
end
theorem VX.del(k es):∀xs,VX h β es xs->VX h β (gO es k) (kv xs k):=by
 induction es with
 |nil=>intro xs e;apply e.n;rfl
 |cons p es a=>
  intro xs x;apply x.e;intro c r e1 z x;have i:=a r x;by_cases q:p.1=k
  .rw[HA (e1▸q),show gO _ k=gO es k from List.filter_cons_of_neg (by rw[aba q];decide)]
   exact i
  .rw[Fw (e1▸q),show gO _ k=p::gO es k from List.filter_cons_of_pos (by rw[abf q];rfl)]
   exact⟨c,_,Y,e1,z,i⟩
theorem L_(k)(h:(es.map (·.1)).Nodup):((gO es k).map (·.1)).Nodup:=h.sublist ((List.filter_sublist).map _)
theorem set_same(l:List b):∀n,l[n]?=some x->l.set n x=l:=by
 induction l with
 |nil=>exactλJ e=>absurd e.symm (aa8 _)
 |cons y l a=>
  intro n e;cases n with
  |zero=>exact aaU _ (aa0 e).symm
  |succ n=>exact aaU _ (a n e)
theorem aaa(f:s.heap.get? l=some (cZ #[] m))(hs:s.heap.IsSliceOf sl (.int i t) .none .none)
  (h:∀j m',j.get? l=some (cZ #[] m')->Heap.SameBut l s.heap j->Q ⟨⟩ {s with heap:=j}):W.wp g A (delItem (.ref l) (.ref sl)) Q s:=by
 obtain⟨os,a,p,b⟩:=hs
 have c:s.TypeIs (.ref sl) "slice":=⟨os,a,p⟩
 have d:s.TypeIs (.ref l) "list":=⟨_,f,Y⟩
 refine wpAny_delItem_slot d () PySem.F.slot_list_delitem ?_
 refine wpAny_call_entry PySem.F.slot_list_delitem d PySem.F.entry_list_delitem ?_ (PySem.F.args_list_delitem_2 ..)
 show wpAny _ _ (Builtin.List.listSubscript? _>>=_) _ _ s
 exact aaV (aaV (wpAny_specialOf c slice_no_index (abh (aaV (wpAny_typeOf c (aaV (aaV (wpAny_field a b Y (aaV (wpAny_listPart .none (aaV (wpAny_field a b Y (aaV (wpAny_listPart (.int i t) (aaV (wpAny_field a b Y (aaV (wpAny_listPart .none (abh (aaV (aaV (wpAny_seqItems f Y (abh (aaV (wpAny_of_eq (sliceIndices_raw _ none none 0 ()) (aaV (wpAny_rule (aaV (wpAny_updateSeq f Y (aaV (wpAny_letGo (abh ⟨_,Y,h _ _ (IsL.update f _) (Heap.SameBut.update ..)⟩))) (aa9 _) (aa9 _))))))))))))))))))))))))))))))
namespace W
open Do
def Ul(n:Nat)(k:AV)(o:AO):Do AV:=match o with
 |.dict ks es=>match ks with
  |.tup=>λQ σ=>(KS.ok .tup k=true/\es.length<=sizeLine/\(aO es k).isSome=true)/\Q .none (σ.set n (.dict .tup (gO es k)))
  |_=>no
 |_=>no
def Fh(x k:AV):Do AV:=match x with
 |.loc n=>hp n (Ul n k)
 |_=>no
def PL(k:AV)(o:AO):Do AV:=match o with
 |.list l=>match l with
  |[]=>match k with
   |.int _=>ret .none
   |_=>no
  |_=>no
 |_=>no
def E_(x k:AV):Do AV:=match x with
 |.loc n=>hp n (PL k)
 |_=>no
section
variable{g:Gl}{n:Nat}{A:Around}{β δ:List Addr}{σ:Sg}{s:Shared}{Q:PX}{x k:AV}{o j:Value}
theorem VH(a:At g β δ σ s)(R:dI A n)(h:Fh x k Q σ)(f:RV s.heap β x o)(m:RV s.heap β k j):wp g A (delItem o j) (λJ s'=>PU g s β δ (Q .none) s') s:=by
 cases x with
 |loc i=>
  apply cI f;intro L b;obtain⟨o,e1,h⟩:=ej h;cases o with
  |dict ks es=>
   cases ks with
   |tup=>
    obtain⟨⟨D,B,z⟩,q⟩:=h;obtain⟨xs,y,c⟩:=a.Ha e1 b;obtain⟨M,e2,d⟩:=vJ (prog:=g.prog) (w:=g.w) D m;rw[e2];have l:(atKey xs k).isSome=true:=(sG c k).elim (λp=>absurd z (by rw[p.1];decide)) λp=>p.elim λv p=>p.elim λu p=>by rw[p.2.1];rfl
    exact Qg (m8 (k:=21) R ()) d y l (λN r hs=>a.Dl (P:=λJ=>PU g s β δ _) e1 b hs r (VX.del k es xs c) (L_ _ (a.nodup e1)) λh t H S=>⟨_,β,δ,H,S,q⟩) (c.length▸B)
   |_=>exact h.elim
  |_=>exact h.elim
 |_=>exact h.elim
theorem Su(a:At g β δ σ s)(h:E_ x k Q σ)(f:RV s.heap β x o)(r:RV s.heap β k j):wp g A (delItem o (.ref s.heap.objs.size)) (λJ s'=>PU g s β δ (Q .none) s') {s with heap:=s.heap.push (jo j .none .none)}:=by
 cases x with
 |loc i=>
  apply cI f;intro y b;obtain⟨o,e1,h⟩:=ej h;cases o with
  |list l=>
   cases l with
   |nil=>
    cases k with
    |int c=>
     apply eL r;intro t;obtain⟨vs,m,p,q⟩:=a.list e1 b;have d:=Array.eq_empty_of_size_eq_zero (ak.size q);subst d;refine aaa (eg _ _ p) (Heap.IsSliceOf.new ..) λz m' u hs=>?_;obtain⟨w,S⟩:=At.rL (a.heap (a.inv.push _)) e1 b hs u (l':=[]) Y;exact⟨_,β,δ,((set_same _ _ e1)▸w),(Step.push _).trans S,h⟩
    |_=>exact h.elim
   |cons=>exact h.elim
  |_=>exact h.elim
 |_=>exact h.elim
end
def UO(f:AV->AV->Do AV)(L:Loc)(Q:PS)(u k:AV):Sg->Prop:=f u k (kEx L Q)
def Ju(f:AV->AV->Do AV)(i:X)(a:aR)(L:Loc)(Q:PS)(u:AV):Sg->Prop:=i.den a L (UO f L Q u)
namespace S
theorem Yb(o i:X):eA (λl L Q=>o.den l L (Ju Fh i l L Q)) (λK st=>yz st λm=>one m λte=>kH te λb c=>o.aN K b&&i.aN K c):=λ{g n l A env L β y σ s Q st}R x w=>by
 apply Jc x;intro m pos f
 apply fu f;intro te f
 apply nB f;intro b c pos' f
 exact wpAny_Delete (wpAny_deleteEach_cons (wpAny_delete_Subscript (cD R (af f).1 w λj h u q=>cD j (af f).2 q λa d t q=>wm (VH a.at_ a.room q (u.step d) t) λJ r p=>wpAny_deleteEach_nil (PU.pe a (h.trans d) p))))
def Il(o i:X):S:=⟨_,_,@Yb o i⟩
theorem XR(o i:X):eA (λm L Q=>o.den m L (Ju E_ i m L Q)) (λK st=>yz st λx=>one x λte=>kH te λb c=>o.aN K b&&v9 c λl u t=>o5 K (some i) l&&(u.isNone&&t.isNone)):=λ{g n m A env L β M σ s Q st}R H D=>by
 apply Jc H;intro x pos f
 apply fu f;intro te f
 apply nB f;intro b c pos' f
 apply CP (af f).2;intro l u t w r
 rw[Option.isNone_iff_eq_none.mp (af (af r).2).1,Option.isNone_iff_eq_none.mp (af (af r).2).2]
 exact wpAny_Delete (wpAny_deleteEach_cons (wpAny_delete_Subscript (cD R ((af f).1) D λj h B q=>wpAny_Slice (sv j (af r).1 q λd a z q=>(abh (abh (wm (Su d.at_ q (B.step a) z) λJ y p=>wpAny_deleteEach_nil (PU.pe d (h.trans a) p))))))))
def K8(o i:X):S:=⟨_,_,@XR o i⟩
end S
end W
end
section
section
variable{g:Gl}{n:Nat}{A:Around}{env:Env}{L:Loc}{β δ ah ax:List Addr}{σ aj:Sg}{s s':Shared}{I:Addr}{src:Src}{St:Nat->Heap->List Addr->Prop}{i:Nat}{P:Option Value->Shared->Prop}
theorem dS.lay(a:dS g A I src St)(st:St i s.heap β)(k:Kb I s.heap b)(hz:s.heap.objs.size<=b.objs.size):Lay I s.heap b:=.but k hz λc vs n e=>(a.here st).elim λo q=>aa0 (q.1.symm.trans e)▸q.2 vs n
theorem dS.nx(b:dS g A I src St)(a:At g β δ σ s)(st:St i s.heap β)(ok:src.at_ σ)(m:src.items[i]?=some x)(k:∀r c tk,RV s.heap β x r->St (i+1) c β->Lay I s.heap c->P (some r) {s with heap:=c,toks:=tk}):W.wp g A (pyNext (.ref I)) P s:=by
 refine wpAny_mono (nu (b.item (Q:=λo h=>∃r c tk,o=some r/\RV s.heap β x r/\St (i+1) c β/\Kb I s.heap c/\h={s with heap:=c,toks:=tk}) a st ok m λr c tk j d l=>⟨r,c,tk,Y,j,d,l,Y⟩)) (λo h q=>?_) λJ J f=>f.2;obtain⟨hz,r,c,tk,e1,j,d,l,e2⟩:=q;subst e1 e2;exact k r c tk j d (b.lay st l hz)
theorem dS.nd(b:dS g A I src St)(a:At g β δ σ s)(st:St i s.heap β)(ok:src.at_ σ)(j:src.items[i]?=none)(k:∀c tk,Lay I s.heap c->P none {s with heap:=c,toks:=tk}):W.wp g A (pyNext (.ref I)) P s:=by
 refine wpAny_mono (nu (b.done (Q:=λo d=>∃c tk,o=none/\Kb I s.heap c/\d={s with heap:=c,toks:=tk}) a st ok j λc tk h=>⟨c,tk,Y,h,Y⟩)) (λo d q=>?_) λJ J f=>f.2;obtain⟨hz,c,tk,e1,h,e2⟩:=q;subst e1 e2;exact k c tk (b.lay st h hz)
structure Apart(g:Gl)(env)(h₀:Heap)(I)(β δ:List Addr):Prop where
 num:I∉β++δ
 own:¬Own env I
 new:h₀.objs.size<=I
 base:g.bF.heap.objs.size<=I
theorem Apart.step(x:Apart g env a I β δ)(S:Step Z h β δ c ah ax)(b:I<h.objs.size):Apart g env a I ah ax:=
 ⟨λm=>(S.fresh I m).elim x.num λl=>absurd b (ab0.mpr l),x.own,x.new,x.base⟩
theorem Tt(a:Nat->Shared->Prop)
  (turn:∀n s,a n s->W.wp g A (pyNext (.ref I)) (λr s₁=>match r with
   |none=>W.wp g A (execs orelse env) (λf b=>R (.ok f) b) s₁
   |some v=>W.wp g A (letOwnedTupleGo target (.ref I) v) (λJ d=>W.wp g A (assign target env v) (λJ j=>W.wp g A (execs body env) (λf b=>match f with
     |.next|.cont=>∃m,m<n/\a m b
     |.brk=>R (.ok .next) b
     |.ret v=>R (.ok (.ret v)) b) j) d) s₁) s)
  (n)(h:a n s):codeAny (model g.prog g.w) A (.forLoop target (.ref I) body orelse env) R s:=by
 refine codeAny_loop' Y a (λn s u=>?_) n h
 refine wpAny_noted ?_
 refine aaV (abL (aaV (wpAny_onRaise (wpAny_mono (turn n s u) (λr s₁ l=>?_) λJ J f=>f.elim))))
 cases r with
 |none=>exact abh (.inr ⟨Y,codeAny_block (wpAny_mono l (λJ J q=>q) λJ J f=>f.elim)⟩)
 |some v=>
  refine aaV (wpAny_mono l (λJ d p=>?_) λJ J f=>f.elim);refine aaV (wpAny_mono p (λJ j t=>aaV (wpAny_mono t (λf b c=>?_) λJ J f=>f.elim)) λJ J f=>f.elim);cases f with
  |next=>exact abh (.inl ⟨Y,c⟩)
  |cont=>exact abh (.inl ⟨Y,c⟩)
  |_=>exact abh c
theorem B4{a:Type}{l:List a}{i x}(h:l[i]?=some x):l.drop i=x::l.drop (i+1):=by
 rw[List.drop_eq_getElem_cons (dv h),(abg.mp h).2]
end
namespace W
open Do
def so(src:Src)(σ:Sg)(P:Prop):Prop:=match src with
 |.seq _=>P
 |.loc n l=>σ[n]?=some (.list l)/\P
theorem sZ(h:so src σ P):src.at_ σ/\P:=by
 cases src with
 |seq l=>exact⟨trivial,h⟩
 |loc n l=>exact h
def kL(k:Loc->eW)(Q:PS)(fl:Fl)(L:Loc)(σ:Sg):Prop:=match fl with
 |.ret v=>Q (.ret v) L σ
 |_=>k L Q σ
def Qs(a:aR)(body:List S)(k:Loc->eW)(Q:PS)(L:Loc):Sg->Prop:=bH a body L (kL k Q)
def bU(a:aR)(t:Tg)(body:List S)(src:Src):List AV->Loc->eW
 |[],L=>λQ σ=>so src σ (Q .next L σ)
 |x::r,L=>λQ σ=>so src σ (bd t x L (Qs a body (bU a t body src r) Q) σ)
def kFor(t:Tg)(body:List S)(a:aR)(L:Loc)(Q:PS)(src:Src):Sg->Prop:=bU a t body src src.items L Q
inductive FJ(g)(n Φ A env)(s:Shared)(β δ I src)(St:Nat->Heap->List Addr->Prop)(t)(body Q k s'):Prop
 |mk (i L σ ah ax) (e:k=src.items.length-i) (R:Run g n Φ A env L ah ax σ s') (S:Step (Own env) s.heap β δ s'.heap ah ax) (st:St i s'.heap ah) (ap:Apart g env s.heap I ah ax) (q:bU Φ t body src (src.items.drop i) L Q σ)
section
variable{g:Gl}{n:Nat}{Φ:aR}{A:Around}{env:Env}{L:Loc}{β δ ah ax:List Addr}{σ aj:Sg}{s s':Shared}{I:Addr}{src:Src}{St:Nat->Heap->List Addr->Prop}{Q:PS}{t:Tg}{body:List S}
theorem Run.lay(R:Run g n Φ A env L β δ σ s)(a:Apart g env b I β δ)(l:Lay I s.heap c):Run g n Φ A env L β δ σ {s with heap:=c,toks:=tk}:=⟨R.iX,R.room,(R.at_.lay l a.num a.base).toks tk,R.fr.lay l a.own⟩
theorem PE.fl{f}{P:Prop}(p:PE g s β δ env Q f s')(k:∀{fl c aj ah ax},At g ah ax aj s'->Step (Own env) s.heap β δ s'.heap ah ax->Frame g.bF.heap s'.heap ah ax c env->vA s'.heap ah fl f->Q fl c aj->P):P:=by
 obtain⟨fl,c,aj,b,d,a,S,F,o,q⟩:=p;exact k a S F o q
theorem sub_lt(h:i<a):a-(i+1)<a-i:=Nat.sub_lt_sub_left h (ab3 i)
theorem V6{te}{b:List Stmt}(a:dS g A I src St)(ht:jq env.kindOf t te=true)(hb:iq env.kindOf body b=true)(k)(j:FJ g n Φ A env s β δ I src St t body Q k s'):
  wp g A (pyNext (.ref I)) (λr s₁=>match r with
   |none=>wp g A (execs [] env) (λf c=>PE g s β δ env Q f c) s₁
   |some v=>wp g A (letOwnedTupleGo te (.ref I) v) (λJ yE=>wp g A (assign te env v) (λJ fI=>wp g A (execs b env) (λf c=>match f with
     |.next|.cont=>∃m,m<k/\FJ g n Φ A env s β δ I src St t body Q m c
     |.brk=>PE g s β δ env Q .next c
     |.ret v=>PE g s β δ env Q (.ret v) c) fI) yE) s₁) s':=by
 obtain⟨i,L,σ,ah,ax,rfl,R,S,st,B,q⟩:=j
 cases hx:src.items[i]? with
 |none=>
  rw[List.drop_eq_nil_of_le (List.getElem?_eq_none_iff.mp hx)] at q;obtain⟨ok,q⟩:=sZ q;exact a.nd R.at_ st ok hx λh' tk l=>wpAny_execs_nil ⟨.next,L,σ,ah,ax,(R.lay B l).at_,S.lay l B.new,R.fr.lay l B.own,Y,q⟩
 |some x=>
  rw[B4 hx] at q;obtain⟨ok,q⟩:=sZ q;obtain⟨iM,We,q⟩:=xj q;refine a.nx R.at_ st ok hx λr h' tk hr U l=>a.own U ?_;have N:=R.lay (tk:=tk) B l;refine wm (wZ N ht (RV.mono l.tup (λJ J e=>e) _ _ hr) We) λJ aaH p=>?_;have M:=N.turn p.at_ p.fr;obtain⟨o,Rk,_⟩:=a.here U;have kI:=λo=>p.keep I o λz=>B.own z.own;refine wm (pU body _ M hb q) λf Sq p'=>p'.fl λ{fl u h y w}D d T hf q=>?_;have H:=((S.lay l B.new).trans p.st).trans d;have go:bU Φ t body src _ u Q h->∃m,m<src.items.length-i/\FJ g n Φ A env s β δ I src St t body Q m Sq:=λq=>⟨_,sub_lt (dv hx),i+1,u,h,y,w,Y,M.turn D T,H,a.frame (a.frame U p.st.tup kI p.st.pre) d.tup (λo e=>d.keep I o e B.num B.own) d.pre,B.step d (ab2 (kI _ Rk)),q⟩;cases fl with
  |next=>exact hf▸go q
  |cont=>exact hf▸go q
  |ret v=>obtain⟨r,e,hf⟩:=hf;exact e▸⟨.ret v,u,h,y,w,D,H,T,⟨r,Y,hf⟩,q⟩
end
namespace S
theorem WM(t)(it:It)(body):eA (λd L Q=>it.den d L (kFor t body d L Q)) (λK st=>Io st λte f b o=>(jq K t te&&it.aN K f)&&(iq K body b&&o.isEmpty)):=λ{g n d A env L β u σ s Q st}R l j=>by
 apply N4 l;intro te f b o pos c
 rw[abD.mp (af (af c).2).2]
 refine wpAny_For (wm (it.ok R (af (af c).1).2 j) λw s₁ i=>wm i λiv h hp=>?_) λx=>Jq _ _ (it.ns (af (af c).1).2)
 obtain⟨I,src,m,St,r,p,rfl,W,a,S,st,num,new,q⟩:=hp
 exact Tt _ (λk s'=>V6 W (af (af c).1).1 (af (af c).2).1 k) _ ⟨0,L,_,_,_,Y,R.next a S,S.gp,st,⟨num,λo=>absurd (R.fr.own o).2.1 (ab0.mpr new),new,aaS R.at_.inv.size new⟩,q⟩
def ck(t:Tg)(it:It)(body:List S):S:=⟨_,_,@WM t it body⟩
end S
def Oi(m:eW)(k:Loc->eW)(L:Loc)(Q:PS)(b:Bool)(σ:Sg):Prop:=match b with
 |true=>m (kL k Q) σ
 |false=>Q .next L σ
def kW(m:eW)(k:Loc->eW)(L:Loc)(Q:PS)(v:AV):Sg->Prop:=eG v (Oi m k L Q)
def lB(a:aR)(c:X)(body:List S):Nat->Loc->eW
 |0,_=>λJ J=>False
 |n+1,L=>λQ=>c.den a L (kW (bH a body L) (lB a c body n) L Q)
@[irreducible] def o7(a:aR)(c:X)(body:List S)(n:Nat)(L:Loc):eW:=lB a c body n L
theorem Et(h:lB a c body n L Q σ):o7 a c body n L Q σ:=by unfold o7;exact h
theorem Pn(h:o7 a c body n L Q σ):lB a c body n L Q σ:=by unfold o7 at h;exact h
namespace S
inductive WJ(g)(n Φ A env)(s:Shared)(β δ c)(body Q k s'):Prop
 |mk (L σ ah ax) (R:Run g n Φ A env L ah ax σ s') (S:Step (Own env) s.heap β δ s'.heap ah ax) (q:lB Φ c body k L Q σ)
theorem aad(m c body):eA (λU L=>o7 U c body m L) (λK st=>HB st λte b o=>c.aN K te&&(iq K body b&&o.isEmpty)):=λ{g n U A env L β T σ s Q st}R hc hd=>by
 apply J5 hc;intro te b o pos hq
 rw[abD.mp (af (af hq).2).2]
 refine wpAny_While (codeAny_mono (codeAny_whileLoop (R:=λr s'=>∃f,r=.ok f/\PE g s β T env Q f s') (WJ g n U A env s β T c body Q) (λk s' j=>?_) m ⟨L,σ,β,T,R,.refl,Pn hd⟩) λr s' q=>q.elim λf q=>q.1▸q.2)
 obtain⟨N,ek,dP,eN,M,B,h⟩:=j
 cases k with
 |zero=>exact h.elim
 |succ k=>
  refine wpAny_mono (kC M (af hq).1 h (λJ J h=>h) λt=>λ{fi fI aaw aax}a z q=>?_) (λJ J q=>q) λJ J f=>f.elim;cases t with
  |false=>exact wpAny_execs_nil ⟨_,Y,.next,N,_,_,_,a.at_,B.trans z.gp,a.fr,Y,q⟩
  |true=>
   refine wpAny_mono (pU body _ a (af (af hq).2).1 q) (λf X8 p=>p.fl λ{fl x d l i}u H y D q=>?_) λJ J f=>f.elim;have w:=(B.trans z.gp).trans H;cases fl with
   |next=>exact D▸⟨k,ab3 _,x,d,l,i,a.turn u y,w,q⟩
   |cont=>exact D▸⟨k,ab3 _,x,d,l,i,a.turn u y,w,q⟩
   |ret v=>obtain⟨r,e,D⟩:=D;exact e▸⟨_,Y,.ret v,x,d,l,i,u,w,y,⟨r,Y,D⟩,q⟩
def GC(n:Nat)(c:X)(body:List S):S:=⟨_,_,@aad n c body⟩
end S
end W
end
noncomputable abbrev yc:Obj:={cls:=.type "cell",data:=.cell none}
abbrev iY(y:Str)(names:List (Str×NameKind)):Prop:=(y,NameKind.cell)∈names
structure CF(h h':Heap)(names)(acc cs:List (Str×Addr)):Prop where
 keep:∀b o,h.get? b=some o->h'.get? b=some o
 size:h.objs.size<=h'.objs.size
 of:∀y c,cs.lookup y=some c->(acc.lookup y=some c/\¬iY y names)\/(h.objs.size<=c/\iY y names)
 to:∀y,iY y names->∃c,cs.lookup y=some c/\h.objs.size<=c/\h'.IsCell c none
 old:∀y c,acc.lookup y=some c->¬iY y names->cs.lookup y=some c
 inj:∀y y' c,cs.lookup y=some c->cs.lookup y'=some c->y=y'
theorem oM{a β:Type}[BEq a][LawfulBEq a]{n y:a}{b c:β}{l}(e:((n,b)::l).lookup y=some c):(y=n/\b=c)\/(y≠n/\l.lookup y=some c):=by
 rw[abX] at e;cases q:y==n with
 |true=>rw[q] at e;exact .inl ⟨abc.mp q,aa0 e⟩
 |false=>rw[q] at e;exact .inr ⟨abJ.mp q,e⟩
theorem o8{a β:Type}[BEq a][LawfulBEq a]{n:a}{b:β}{l}:((n,b)::l).lookup n=some b:=by rw[abX,beq_self_eq_true]
theorem oe{a β:Type}[BEq a][LawfulBEq a]{n y:a}{b:β}{l}(h:y≠n):((n,b)::l).lookup y=l.lookup y:=by rw[abX,abJ.mpr h]
theorem Yf(F:CF (h.push yc) d r ((n,h.objs.size)::acc) f):CF h d ((n,.cell)::r) acc f:=by
 have ge:∀{c},(h.push yc).objs.size<=c->h.objs.size<=c:=λe=>Nat.le_of_succ_le (aaS (aa7 (ab1 ..).symm) e);have tl:∀{y},¬iY y ((n,.cell)::r)->y≠n/\¬iY y r:=λm=>⟨λq=>m (q▸.head _),λz=>m (.tail _ z)⟩;refine⟨λb o e=>F.keep b o (eg b o e),ge F.size,λy c e=>(F.of y c e).elim (λq=>(oM q.1).elim (λz=>.inr ⟨aa7 z.2,z.1▸.head _⟩) λz=>.inl ⟨z.2,λm=>(aa5.mp m).elim (λe=>z.1 (aaU Prod.fst e)) q.2⟩) λq=>.inr ⟨ge q.1,.tail _ q.2⟩,λy m=>?_,λy c e nm=>F.old y c ((oe (tl nm).1).trans e) (tl nm).2,F.inj⟩;by_cases a:iY y r
 .exact(F.to y a).imp λc q=>⟨q.1,ge q.2.1,q.2.2⟩
 .have e:y=n:=(aa5.mp m).elim (aaU Prod.fst) λz=>absurd z a;exact⟨_,F.old y _ (e▸o8) a,aaX _,_,F.keep _ _ (abU _ Y),Y⟩
theorem UP(a:k≠.cell)(F:CF h b r acc d):CF h b ((n,k)::r) acc d:=
 have dn:∀{y},iY y _->iY y r:=λm=>(aa5.mp m).elim (λe=>absurd (aaU Prod.snd e).symm a) id
 ⟨F.keep,F.size,λy c e=>(F.of y c e).imp (λq=>⟨q.1,λm=>q.2 (dn m)⟩) λq=>⟨q.1,.tail _ q.2⟩,λy m=>F.to y (dn m),λy c e nm=>F.old y c e λm=>nm (.tail _ m),F.inj⟩
theorem A6(names):∀(h:Heap)(acc:List (Str×Addr)),(∀y c,acc.lookup y=some c->h.objs.size>c)->(∀y f c,acc.lookup y=some c->acc.lookup f=some c->y=f)->CF h (pushCells h names) names acc (cellsFrom h.objs.size names acc):=by
 induction names with
 |nil=>exactλh acc J d=>⟨λJ J e=>e,aaX _,λy c e=>.inl ⟨e,abo⟩,λy m=>absurd m abo,λJ J e J=>e,d⟩
 |cons p r i=>
  intro h acc b d;obtain⟨n,k⟩:=p;unfold pushCells cellsFrom;by_cases q:(k==NameKind.cell)=true
  .rw[abc.mp q];have hs:(h.push yc).objs.size=h.objs.size+1:=ab1 ..;exact Yf (hs▸(i _ _ (λy c e=>hs▸(oM e).elim (λz=>z.2▸ab3 _) λz=>Nat.lt_succ_of_lt (b y c z.2)) λy f c e j=>(oM e).elim (λz=>(oM j).elim (λa=>z.1.trans a.1.symm) λa=>absurd (b _ _ a.2) (z.2▸Nat.lt_irrefl _)) λz=>(oM j).elim (λa=>absurd (b _ _ z.2) (a.2▸Nat.lt_irrefl _)) λa=>d _ _ _ z.2 a.2))
  .rw[aa_ q,aa_ q];exact UP (λe=>q (abc.mpr e)) (i h acc b d)
def eJ(cells:List (Str×Addr))(l:List (Str×NameKind)):List (Str×Addr)->List (Str×Addr):=l.rec (λacc=>acc) λp J q acc=>bif p.2==.free then(match cells.lookup p.1 with
  |some c=>q ((p.1,c)::acc)
  |none=>acc) else q acc
theorem FC(q:(k==.free)=true)(h:cells.lookup n=some c):eJ cells ((n,k)::r) acc=eJ cells r ((n,c)::acc):=by
 show(bif k==.free then(match cells.lookup n with
  |some c=>eJ cells r ((n,c)::acc)
  |none=>acc) else eJ cells r acc)=_
 rw[q,h];rfl
theorem Dr(q:(k==.free)=false):eJ cells ((n,k)::r) acc=eJ cells r acc:=by
 show(bif k==.free then(match cells.lookup n with
  |some c=>eJ cells r ((n,c)::acc)
  |none=>acc) else eJ cells r acc)=_
 rw[q];rfl
theorem Xk(env names):∀acc,(∀y,(y,NameKind.free)∈names->(env.cells.lookup y).isSome=true)->
   (forIn names acc λ(x r)=>(if(x.2==NameKind.free)=true then do
     let a ←cellOf env x.1
     pure (ForInStep.yield ((x.1,a)::r)) else pure (ForInStep.yield r):Sem (ForInStep (List (Str×Addr)))))=pure (eJ env.cells names acc):=by
 induction names with
 |nil=>exactλacc J=>Y
 |cons p r d=>
  intro acc b;obtain⟨n,k⟩:=p;rw[List.forIn_cons];cases q:k==NameKind.free with
  |true=>
   obtain⟨c,f⟩:=Option.isSome_iff_exists.mp (b n (abc.mp q▸.head _));rw[FC q f];unfold cellOf;exact f▸d _ λy m=>b y (.tail _ m)
  |false=>
   rw[Dr q];exact d _ λy m=>b y (.tail _ m)
theorem RB(scope env)(h:∀y,(y,NameKind.free)∈scope.names->(env.cells.lookup y).isSome=true):closureFor scope env=pure (eJ env.cells scope.names []):=by
 have:=Xk env scope.names [] h
 unfold closureFor;first
  |exact this
  |(simp only[bind_pure];exact this)
  |(rw[←this])
theorem YX(cells y names):∀acc,(∀y,(y,NameKind.free)∈names->(cells.lookup y).isSome=true)->
  ((y,NameKind.free)∈names->(eJ cells names acc).lookup y=cells.lookup y)/\((y,NameKind.free)∉names->(eJ cells names acc).lookup y=acc.lookup y):=by
 induction names with
 |nil=>exactλacc J=>⟨nofun,λJ=>Y⟩
 |cons p r i=>
  intro acc f;obtain⟨n,k⟩:=p;cases q:k==NameKind.free with
  |true=>
   have h:=abc.mp q;obtain⟨c,j⟩:=Option.isSome_iff_exists.mp (f n (h▸.head _));rw[FC q j];obtain⟨d,a⟩:=i ((n,c)::acc) λy m=>f y (.tail _ m);refine⟨λm=>?_,λm=>(a λz=>m (.tail _ z)).trans (oe λe=>m (e▸h▸.head _))⟩;by_cases b:(y,NameKind.free)∈r
   .exact d b
   .have e:y=n:=(aa5.mp m).elim (aaU Prod.fst) λz=>absurd z b;rw[a b,e,j];exact o8
  |false=>
   rw[Dr q];obtain⟨d,a⟩:=i acc λy m=>f y (.tail _ m);exact⟨λm=>d ((aa5.mp m).elim (λe=>absurd (aaU Prod.snd e).symm (abJ.mp q)) id),λm=>a λz=>m (.tail _ z)⟩
noncomputable def fQ(L:Loc)(xs:List V):Loc:=L.filter λp=>!xs.contains p.1
theorem xT(xs L y):(fQ L xs).lookup y=if y∈xs then none else L.lookup y:=by
 induction L with
 |nil=>exact(ite_self _).symm
 |cons p r a=>
  by_cases m:p.1∈xs
  .rw[show fQ _ xs=fQ r xs from List.filter_cons_of_neg (by rw[List.contains_iff_mem.mpr m];decide),a]
   by_cases c:y∈xs
   .rw[abn c,abn c]
   .rw[aa_ c,aa_ c];exact(oe λe:y=p.1=>c (e▸m)).symm
  .rw[show fQ _ xs=p::fQ r xs from List.filter_cons_of_pos (by rw[(Bool.not_eq_true _).mp λz=>m (List.contains_iff_mem.mp z)];rfl)]
   by_cases c:y=p.1
   .rw[aa_ (c▸m),c];exact(o8).trans (o8).symm
   .exact(oe c).trans (a.trans (by rw[oe c]))
theorem ME(x):nm x≠".0":=by
 unfold nm;cases h:names[x]? with
 |some s=>exact abl (abd.mp (by kernel_rfl:names.all (λs=>decide (s≠".0"))=true) s (abk h))
 |none=>
  intro e;have e:=aaU (λs:Str=>s.cps.size) e;rw[(by kernel_rfl:(Str.ofString ".0").cps.size=2)] at e
  simp at e
def HK(l:List (Str×NameKind)):Bool:=l.rec true λp r q=>!r.any (λz=>z.1==p.1)&&q
theorem XN(names):HK names=true->(y,k)∈names->names.lookup y=some k:=by
 induction names with
 |nil=>exact nofun
 |cons p r a=>
  intro h m;rcases aa5.mp m with e|m
  .exact e▸o8
  .refine(oe λe=>?_).trans (a (af h).2 m);exact absurd ((List.any_eq_true (p:=λz:Str×NameKind=>z.1==p.1)).mpr ⟨_,m,(abc.mpr e)⟩) λz=>aaY ((W.gJ (af h).1).symm.trans z)
def Y3(K:Kd)(xs:List V)(p:Str×NameKind):Bool:=match p.2 with
 |.free=>K p.1==some .cell||K p.1==some .free
 |.local=>p.1==".0"||xs.any λx=>nm x==p.1
 |.cell=>p.1==".0"||xs.any λx=>nm x==p.1
 |_=>true
def uB(K:Kd)(a:Scope)(xs:List V):Bool:=(a.kind==.function&&HK a.names)&&(a.names.all (Y3 K xs)&&xs.all λx=>a.names.lookup (nm x)==some .local||a.names.lookup (nm x)==some .cell)
structure GX(K:Kd)(sc:Scope)(xs:List V):Prop where
 kind:sc.kind=.function
 lk:∀{y k},(y,k)∈sc.names->sc.names.lookup y=some k
 free:∀y,(y,NameKind.free)∈sc.names->K y=some .cell\/K y=some .free
 Fj:∀x k,(nm x,k)∈sc.names->(k=.local\/k=.cell)->x∈xs
 tg:∀x,x∈xs->sc.names.lookup (nm x)=some .local\/sc.names.lookup (nm x)=some .cell
theorem Fi{K c xs}(h:uB K c xs=true):GX K c xs:=by
 obtain⟨d,a⟩:=af h;obtain⟨a,f⟩:=af a;have b:=abd.mp a;exact⟨abc.mp (af d).1,XN _ (af d).2,λy m=>(W.kQ (b _ m)).imp abc.mp abc.mp,λx k m e=>(λx e=>(W.kQ e).elim (λe=>absurd (abc.mp e) (ME x)) λe=>(List.any_eq_true.mp e).elim λz q=>pH (abc.mp q.2)▸q.1) x (e.elim (λe=>by rw[e] at m;exact b _ m) λe=>by rw[e] at m;exact b _ m),λx m=>(W.kQ (abd.mp f x m)).imp abc.mp abc.mp⟩
noncomputable def gH(K:Kd)(a:Scope):Kd:=λy=>(a.names.lookup y).map λk=>if k==.free&&K y==some .cell then .cell else k
theorem Cj{K b y k}(h:gH K b y=some k):∃k',b.names.lookup y=some k'/\((k'=.free/\k=.cell)\/k=k'):=by
 obtain⟨k',d,a⟩:=Option.map_eq_some_iff.mp h;refine⟨k',d,?_⟩;by_cases c:(k'==NameKind.free&&K y==some .cell)=true
 .rw[abn c] at a;exact .inl ⟨abc.mp (af c).1,a.symm⟩
 .rw[aa_ c] at a;exact .inr a.symm
theorem Ym{f:Str->NameKind->Bool}(y)(l:List (Str×NameKind)):(l.map λx=>if f x.1 x.2=true then(x.1,NameKind.cell) else(x.1,x.2)).lookup y=(l.lookup y).map λk=>if f y k=true then .cell else k:=by
 induction l with
 |nil=>rfl
 |cons p r a=>
  have e:(if f p.1 p.2=true then(p.1,NameKind.cell) else(p.1,p.2))=(p.1,if f p.1 p.2=true then .cell else p.2):=by cases f p.1 p.2<;>rfl
  rw[abM,e,abX,abX];by_cases q:y=p.1
  .rw[abc.mpr q,q];rfl
  .rw[abJ.mpr q];exact a
theorem Gm(b env)(c:env.scope.kind=.function)(a:Env)(d:a.scope=relabel b env):a.kindOf=gH env.kindOf b:=by
 funext y;show(a.scope.names).lookup y=_;rw[d];unfold relabel;dsimp only;rw[c];refine(Ym (f:=λn k=>k==NameKind.free&&ScopeKind.function==ScopeKind.function&&env.kindOf n==some NameKind.cell) y b.names).trans ?_;unfold gH;rw[show(λk=>if _=true then NameKind.cell else k)=λk=>if _=true then .cell else k from funext λk=>by rw[show(ScopeKind.function==ScopeKind.function)=true from Y,Bool.and_true]]
structure Y4(g:Gl)(env bw)(h h':Heap)(β δ L xs):Prop where
 old:∀b o,h.get? b=some o->h'.get? b=some o
 size:h.objs.size<=h'.objs.size
 fr:Frame g.bF.heap h' β δ (fQ L xs) bw
 zt:∀b,Zt bw xs b->h.objs.size<=b
 own:∀b,Own bw b->Own env b\/h.objs.size<=b
noncomputable abbrev ub:Obj:={cls:=.type "dict",data:=.dict #[]}
theorem vd(h:(fQ L xs).lookup x=some v):x∉xs/\L.lookup x=some v:=by
 rw[xT] at h;by_cases m:x∈xs
 .rw[abn m] at h;exact absurd h.symm (aa8 _)
 .rw[aa_ m] at h;exact⟨m,h⟩
theorem W4(R:W.Run g n Φ A env L β M σ s)(C:GX env.kindOf h xs)
  (H:d.scope=relabel h env)(j:d.locals=s.heap.objs.size)(h3:d.globals=env.globals)(U:d.builtins=env.builtins)
  (T:d.cells=cellsFrom (s.heap.objs.size+1) h.names (eJ env.cells h.names [])):Y4 g env d s.heap (pushCells (s.heap.push ub) h.names) β M L xs:=by
 have p:=λy=>YX env.cells y h.names [] λy m=>(R.fr.cell y (C.free y m)).elim λc q=>q.elim λo q=>by rw[q.look];rfl
 have f:∀{y c},(eJ env.cells h.names []).lookup y=some c->_∈h.names/\env.cells.lookup y=some c:=λ{y c}e=>by
  by_cases m:(y,NameKind.free)∈h.names
  .exact⟨m,((p y).1 m).symm.trans e⟩
  .exact absurd (((p y).2 m).symm.trans e).symm (aa8 _)
 have hs:(s.heap.push ub).objs.size=s.heap.objs.size+1:=ab1 ..
 have F:=A6 h.names _ _ (λy c e=>hs▸Nat.lt_succ_of_lt ((λe=>(R.fr.own (.inr ⟨_,C.free _ (f e).1,(f e).2⟩)).2.1) e)) λy y' c e e'=>R.fr.apart _ _ _ (f e).2 (f e').2
 rw[hs,←T] at F
 have keep:=λb o e=>F.keep b o (eg b o e)
 have ge:∀{c},(s.heap.push ub).objs.size<=c->s.heap.objs.size<c:=abb (hs▸ab3 _)
 have B:=Gm h env R.fr.kind d H
 have mem:∀{y k},h.names.lookup y=some k->(y,k)∈h.names:=iV
 refine⟨keep,aaS jH F.size,⟨by exact H▸C.kind,h3.trans R.fr.glob,U.trans R.fr.blt,⟨λJ=>none,j▸(Heap.Ns.new s.heap _).keeps F.keep,λx v t u=>?_⟩,λy i=>?_,F.inj,j▸wW R.at_,j▸R.at_.inv.size⟩,λb z=>?_,λb z=>?_⟩
 .rw[B] at u;obtain⟨k,a,e⟩:=Cj u;exact absurd (C.Fj x k (mem a) (e.elim (λe=>NameKind.noConfusion e.2) λe=>.inl e.symm)) (vd t).1
 .have i:∃k,h.names.lookup y=some k/\(k=.cell\/k=.free):=by
   rw[B] at i;rcases i with i|i<;>obtain⟨k,a,e⟩:=Cj i
   .exact⟨k,a,e.elim (λe=>.inr e.1) λe=>.inl e.symm⟩
   .exact⟨k,a,e.elim (λe=>.inr e.1) λe=>.inr e.symm⟩
  obtain⟨k,a,e⟩:=i;rcases e with e|e<;>rw[e] at a
  .obtain⟨c,c1,c2,c3⟩:=F.to y (mem a);have g:=ge c2;exact⟨c,none,c1,c3,λm=>absurd (R.at_.inv.new c m).2 (ab0.mpr (abG g)),aaS R.at_.inv.size (abG g),j▸Nat.ne_of_gt g,λx v e t=>absurd (C.Fj x .cell (e▸mem a) (.inr Y)) (vd t).1⟩
  .have m:=mem a;obtain⟨c,o,D⟩:=R.fr.cell y (C.free y m);exact⟨c,o,F.old y c (((p y).1 m).trans D.look) λN=>NameKind.noConfusion (aa0 (a.symm.trans (C.lk N))),D.cell.keeps keep,D.num,D.low,j▸abx D.cell.lt,λx v e t=>(D.val x v e (vd t).2).imp λr z=>z.imp id (RV.mono (λb J J=>keep b _) (λJ J e=>e) _ _)⟩
 .rcases z with z|⟨x,Q,hkk,w⟩
  .rw[z,j];exact aaX _
  .rcases F.of _ _ w with q|q
   .have l:=C.lk (f q.1).1;exact(C.tg x Q).elim (λe=>NameKind.noConfusion (aa0 (l.symm.trans e))) λe=>NameKind.noConfusion (aa0 (l.symm.trans e))
   .exact abG (ge q.1)
 .rcases z with z|⟨y,i,w⟩
  .exact .inr (by rw[z,j];exact aaX _)
  .exact(F.of _ _ w).elim (λq=>.inl (.inr ⟨y,C.free y (f q.1).1,(f q.1).2⟩)) λq=>.inr (abG (ge q.1))
section
section
variable{g:Gl}{A:Around}{env:Env}{s:Shared}{I:Addr}
theorem MZ(a:Nat->Shared->Prop)
  (turn:∀n s,a n s->W.wp g A (pyNext (.ref I)) (λr s₁=>match r with
   |none=>R (.ok .next) s₁
   |some v=>W.wp g A (letOwnedTupleGo target (.ref I) v) (λJ d=>W.wp g A (assign target env v) (λJ j=>
     W.wp g A (forIn ifs true λc r=>if r=true then do let ok ←isTrue c env (eval c env);pure (ForInStep.yield ok) else pure (ForInStep.yield r)) (λok b=>
      if ok=true then W.wp g A (eval elt env) (λx i=>
       W.wp g A (PySem.call (.builtin "list.append") [acc,x]) (λJ f=>∃m,m<n/\a m f) i) b
      else∃m,m<n/\a m b) j) d) s₁) s)
  (n)(h:a n s):codeAny (model g.prog g.w) A (.compLoop (.ListComp elt [⟨target,iter,ifs,0⟩] scope pos) 0 (.ref I) acc env) R s:=by
 refine codeAny_loop Y a (λn s y=>?_) n h
 refine wpAny_noted ?_
 rw[compTurn_list]
 refine aaV (abL (aaV (wpAny_mono (turn n s y) (λr s₁ p=>?_) nofun)))
 cases r with
 |none=>exact abh p
 |some v=>
  refine aaV (wpAny_mono p (λJ d q=>?_) nofun);refine aaV (wpAny_mono q (λJ j w=>aaV (wpAny_mono w (λok b l=>?_) nofun)) nofun);cases ok with
  |false=>exact abh ⟨Y,l⟩
  |true=>exact aaV (aaV (wpAny_mono l (λx i u=>aaV (wpAny_mono u (λJ f t=>abh (abh ⟨Y,t⟩)) nofun)) nofun))
end
theorem HS(e:L.lookup y=some u)(h:y≠x):(aT L x v).lookup y=some u:=by rw[mD,aa_ h];exact e
theorem S8(xs):∀vs L a,p0 xs vs L=some a->y∉xs->L.lookup y=some u->a.lookup y=some u:=by
 induction xs with
 |nil=>
  intro vs L a h _ e;cases vs with
  |nil=>exact aa0 h▸e
  |cons=>exact absurd h.symm (aa8 _)
 |cons x xs c=>
  intro vs L a h b e;cases vs with
  |nil=>exact absurd h.symm (aa8 _)
  |cons v vs=>exact c vs _ a h (λm=>b (.tail _ m)) (HS e λq=>b (q▸.head _))
theorem Sd(h:qg t v L=some a)(y u)(b:y∉t.vars)(e:L.lookup y=some u):a.lookup y=some u:=by
 cases t with
 |one x=>exact aa0 h▸HS e λq=>b (aaT.mpr q)
 |many xs=>
  cases v with
  |tup l=>exact S8 xs _ L a h b e
  |_=>exact absurd h.symm (aa8 _)
theorem Step.since{c h i f d β j}(S:Step bB c f d h β j){a:Addr->Prop}(hz:h.objs.size<=i.objs.size)(tk:fc h i)(k:∀b o,¬a b->h.get? b=some o->i.get? b=some o)(l:∀b,a b->c.objs.size<=b):Step bB c f d i β j:=
 ⟨aaS S.size hz,λb o e m z=>k b o (λy=>kX e (l b y)) (S.keep b o e m z),λb vs n e=>tk b vs n (S.tup b vs n e),S.pre,S.fresh⟩
namespace W
open Do
def Fq(m:Do AV)(k:Do (List AV))(Q:List AV->Sg->Prop)(b:Bool)(σ:Sg):Prop:=match b with
 |true=>m (kD k Q) σ
 |false=>k Q σ
def Wx(m:Do AV)(k:Do (List AV))(Q:List AV->Sg->Prop)(v:AV):Sg->Prop:=eG v (Fq m k Q)
def BB(a:aR)(elt:X)(c:Option X)(k:Do (List AV))(Q:List AV->Sg->Prop)(L:Loc):Sg->Prop:=match c with
 |none=>elt.den a L (kD k Q)
 |some c=>c.den a L (Wx (elt.den a L) k Q)
def bK(a:aR)(elt:X)(t:Tg)(c:Option X)(src:Src)(L:Loc):List AV->Do (List AV)
 |[]=>λQ σ=>so src σ (Q [] σ)
 |x::r=>λQ σ=>so src σ (bd t x L (BB a elt c (bK a elt t c src L r) Q) σ)
def rq(K:Kd)(c:Option X)(es:List Expr):Bool:=match c with
 |none=>es.isEmpty
 |some c=>one es (c.aN K)
section
variable{g:Gl}{n:Nat}{Φ:aR}{A:Around}{env:Env}{L:Loc}{β δ ah ax:List Addr}{σ aj:Sg}{s s':Shared}
theorem XG(R:Run g n Φ A env L β δ σ s)(a:rq env.kindOf c ifs=true)(f:BB Φ elt c k Q L σ)
  (d:∀b{aj s' ah ax},Run g n Φ A env L ah ax aj s'->Step bB s.heap β δ s'.heap ah ax->Fq (elt.den Φ L) k Q b aj->P b s'):
  wp g A (forIn ifs true λc r=>if r=true then do let ok ←isTrue c env (eval c env);pure (ForInStep.yield ok) else pure (ForInStep.yield r)) P s:=by
 cases c with
 |none=>
  exact(abD.mp a)▸wpAny_tests_nil (d true R .refl f)
 |some c=>
  apply fu a;intro e a;exact wpAny_tests_one (kC R a f (λJ J h=>h) d)
inductive CE(g)(s:Shared)(β δ)(Q:List AV->Sg->Prop)(D C s'):Prop
 |mk (vs aj) (ah ax ys m mC) (a:At g ah ax aj s') (S:Step bB s.heap β δ s'.heap ah ax) (hD:s'.heap.get? D=some (cZ ys m)) (hv:ak s'.heap ah vs ys.toList)
  (nD:D∉ah++ax) (nC:C∉ah++ax) (gD:s.heap.objs.size<=D) (gC:s.heap.objs.size<=C) (ne:D≠C) (bs:g.bF.heap.objs.size<=s.heap.objs.size) (ns:s'.heap.Ns C mC) (q:Q vs aj)
structure CO(g A bw hG)(h₀:Heap)(I D src St)(elt:X)(t:Tg)(c te ee ifs):Prop where
 it:dS g A I src St
 ne:D≠I
 zt:∀b,Zt bw t.vars b->h₀.objs.size<=b
 ht:jq bw.kindOf t te=true
 Ti:rq bw.kindOf c ifs=true
 he:elt.aN bw.kindOf ee=true
 hL:∀v iM,qg t v hG=some iM->∀x u,hG.lookup x=some u->iM.lookup x=some u
 hz:src.items.length<=sizeLine
structure CI(g)(bw h₀ gN hE I D)(St:Nat->Heap->List Addr->Prop)(i av)(ys m h β δ):Prop where
 S:Step bB h₀ gN hE h β δ
 st:St i h β
 iN:Apart g bw h₀ I β δ
 hD:h.get? D=some (cZ ys m)
 jT:Apart g bw h₀ D β δ
 pq:ak h β av ys.toList
inductive CJ(g n)(Φ A bw hG)(h₀ gN hE I D src)(St elt t c)(Q:List AV->Sg->Prop)(k s'):Prop
 |mk (i σ β δ) (ys m av Qi) (e:k=src.items.length-i) (R:Run g n Φ A bw hG β δ σ s') (C:CI g bw h₀ gN hE I D St i av ys m s'.heap β δ) (le:av.length<=i) (q:bK Φ elt t c src hG (src.items.drop i) Qi σ) (hQ:∀r σ,Qi r σ->Q (av++r) σ)
variable{bw:Env}{hG:Loc}{h₀ h h':Heap}{gN hE:List Addr}{I D:Addr}{src:Src}{St:Nat->Heap->List Addr->Prop}{elt:X}{t:Tg}{c:Option X}{te ie ee:Expr}{ifs:List Expr}{i m:Nat}{av:List AV}{ys:Array Value}
theorem CI.step(C:CI g bw h₀ gN hE I D St i av ys m h β δ)(a:dS g A I src St)(S:Step bB h β δ h' ah ax):CI g bw h₀ gN hE I D St i av ys m h' ah ax:=
 ⟨C.S.trans S,a.frame C.st S.tup (λo e=>S.keep I o e C.iN.num id) S.pre,(a.here C.st).elim λo q=>C.iN.step S (ab2 q.1),S.keep D _ C.hD C.jT.num id,C.jT.step S (ab2 C.hD),C.pq.step S⟩
theorem W_(O:CO g A bw hG h₀ I D src St elt t c te ee ifs){Q:List AV->Sg->Prop}{RR:Result->Shared->Prop}
  (kk:∀{s' ah ax aj ys m vs},At g ah ax aj s'->Step bB h₀ gN hE s'.heap ah ax->s'.heap.get? D=some (cZ ys m)->ak s'.heap ah vs ys.toList->D∉ah++ax->Frame g.bF.heap s'.heap ah ax hG bw->Q vs aj->RR (.ok .next) s')
  (k)(j:CJ g n Φ A bw hG h₀ gN hE I D src St elt t c Q k s'):wp g A (pyNext (.ref I)) (λr s₁=>match r with
   |none=>RR (.ok .next) s₁
   |some v=>wp g A (letOwnedTupleGo te (.ref I) v) (λJ yE=>wp g A (assign te bw v) (λJ fI=>
     wp g A (forIn ifs true λc r=>if r=true then do let ok ←isTrue c bw (eval c bw);pure (ForInStep.yield ok) else pure (ForInStep.yield r)) (λok B=>
      if ok=true then wp g A (eval ee bw) (λx f=>
       wp g A (PySem.call (.builtin "list.append") [.ref D,x]) (λJ y=>∃m,m<k/\CJ g n Φ A bw hG h₀ gN hE I D src St elt t c Q m y) f) B
      else∃m,m<k/\CJ g n Φ A bw hG h₀ gN hE I D src St elt t c Q m B) fI) yE) s₁) s':=by
 obtain⟨i,σ,β,δ,ys,m,av,Qi,rfl,R,C,le,q,hQ⟩:=j
 cases hx:src.items[i]? with
 |none=>
  rw[List.drop_eq_nil_of_le (List.getElem?_eq_none_iff.mp hx)] at q;obtain⟨ok,q⟩:=sZ q;exact O.it.nd R.at_ C.st ok hx λh' tk l=>kk (R.lay C.iN l).at_ (C.S.lay l C.iN.new) (l.keep D _ O.ne C.hD) (ak.mono l.tup (λJ J e=>e) _ _ C.pq) C.jT.num (R.fr.lay l C.iN.own) (abO av▸hQ _ _ q)
 |some x=>
  rw[B4 hx] at q;obtain⟨ok,q⟩:=sZ q;obtain⟨iM,hb,q⟩:=xj q;refine O.it.nx R.at_ C.st ok hx λr h' tk hr E5 l=>O.it.own E5 ?_;have H:=R.lay (tk:=tk) C.iN l;refine wm (wZ H O.ht (RV.mono l.tup (λJ J e=>e) _ _ hr) hb) λJ f p=>?_;have nz:∀{b},¬Own bw b->¬Zt bw t.vars b:=λo z=>o z.own;refine XG (H.turn p.at_ p.fr) O.Ti q λb=>λ{T y JU WK}d R_ q=>?_;have M:=(⟨(C.S.lay l C.iN.new).since p.st.size p.st.tup p.keep O.zt,O.it.frame E5 p.st.tup (λo=>p.keep I o (nz C.iN.own)) p.st.pre,C.iN,p.keep D _ (nz C.jT.own) (l.keep D _ O.ne C.hD),C.jT,ak.mono p.st.tup p.st.pre _ _ (ak.mono l.tup (λJ J e=>e) _ _ C.pq)⟩:CI g bw h₀ gN hE I D St (i+1) av ys m f.heap β δ).step O.it R_;have lt:=sub_lt (dv hx);cases b with
  |false=>exact⟨_,lt,i+1,T,JU,WK,ys,m,av,Qi,Y,d.turn d.at_ (d.fr.weak (O.hL _ _ hb)),M,Nat.le_succ_of_le le,q,hQ⟩
  |true=>
   refine cD d O.he q λ{v rv N w Pr U}u ZM zv q=>?_;have a:=M.step O.it ZM;refine call_meets PySem.F.slot_list_append (eD a.hD).typeIs PySem.F.entry_list_append (PySem.F.args_list_append_2 ..) (list_append D ys m rv (ak.size a.pq▸aaS le (aaS (abG (dv hx)) O.hz))) ⟨a.hD,?_⟩;have sb:=Heap.SameBut.update w.heap D (Obj.mapSeq λz=>z.push rv);have ly:Lay D w.heap _:=⟨λb o ne e=>(sb.2 b ne).trans e,aa7 sb.1.symm,λb vs n e=>(sb.2 b λq=>qL (((q)▸a.hD).symm.trans e) Y Y ()).trans e⟩;exact⟨_,lt,i+1,N,Pr,U,ys.push rv,_,av++[v],_,Y,(u.turn u.at_ (u.fr.weak (O.hL _ _ hb))).lay a.jT ly,
    ⟨a.S.lay ly a.jT.new,O.it.frame a.st ly.tup (λo=>ly.keep I o O.ne.symm) λJ J e=>e,a.iN,IsL.update a.hD λz=>z.push rv,a.jT,Array.toList_push▸ak.append _ _ _ _ (ak.mono ly.tup (λJ J e=>e) _ _ a.pq) ⟨_,_,Y,RV.mono ly.tup (λJ J e=>e) _ _ zv,Y⟩⟩,
    aa4▸abI le,q,λr σ=>List.append_assoc av [v] r▸hQ _ _⟩
end
end W
end
section
namespace W
open Do
noncomputable abbrev n8:Obj:={cls:=.type "list",data:=.seq #[]}
section
variable{g:Gl}{n:Nat}{Φ:aR}{A:Around}{env bw:Env}{L:Loc}{β δ ah ax:List Addr}{σ aj:Sg}{s s' s₁:Shared}
variable{dP eN:List Addr}{I:Addr}{src:Src}{St:Nat->Heap->List Addr->Prop}{elt:X}{t:Tg}{c:Option X}{te ie ee:Expr}{ifs:List Expr}{sc:Scope}{pos:Pos}{Q:List AV->Sg->Prop}
theorem Qv(h:Run g n Φ A env L β δ σ s)(S:Step bB s.heap β δ s₁.heap dP eN)(a:At g dP eN aj s₁)(d:dS g A I src St)(st:St 0 s₁.heap dP)(hI:I∉dP++eN)(hIn:s.heap.objs.size<=I)
  (hc:uB env.kindOf sc t.vars=true)(ht:jq (gH env.kindOf sc) t te=true)(M:rq (gH env.kindOf sc) c ifs=true)(he:elt.aN (gH env.kindOf sc) ee=true)(hz:src.items.length<=sizeLine)(hm:bK Φ elt t c src (fQ L t.vars) src.items Q aj)
  (N:bw.scope=relabel sc env)(H:bw.locals=(s₁.heap.push n8).objs.size)(B:bw.globals=env.globals)(h4:bw.builtins=env.builtins)(h5:bw.cells=cellsFrom ((s₁.heap.push n8).objs.size+1) sc.names (eJ env.cells sc.names []))
  (k:∀{s'},CE g s β δ Q s₁.heap.objs.size (s₁.heap.push n8).objs.size s'->U (.ok .next) s'):
  codeAny (model g.prog g.w) A (.compStart (.ListComp ee [⟨te,ie,ifs,0⟩] sc pos) 0 (.ref I) (.ref s₁.heap.objs.size) bw) U {s₁ with heap:=pushCells ((s₁.heap.push n8).push ub) sc.names}:=by
 have y:Run g n Φ A env L dP eN aj s₁:=⟨h.iX,h.room,a,h.fr.step S⟩
 have p:Run g n Φ A env L dP eN aj {s₁ with heap:=s₁.heap.push n8}:=y.next (a.heap (a.inv.push _)) (Step.push _)
 have C:=W4 p (Fi hc) N H B h4 h5
 have D:=Gm sc env y.fr.kind bw N
 generalize pushCells _ sc.names=B at C⊢
 have i:=S.size
 have bs:=h.at_.inv.size
 have sz:(s₁.heap.push n8).objs.size=s₁.heap.objs.size+1:=ab1 ..
 have old:=λb o e=>C.old b o (eg b o e)
 have j:Step bB s₁.heap dP eN B dP eN:=Step.keeps (aaS jH C.size) old
 have w:=(d.here st).elim λo q=>ab2 q.1
 have r:∀{b},s.heap.objs.size<=b->b<=s₁.heap.objs.size->¬Own bw b:=λl u o=>(C.own _ o).elim (λo=>absurd (h.fr.own o).2.1 (ab0.mpr l)) λz=>absurd (abb (sz▸ab3 _) z) (ab0.mpr u)
 have fin:codeAny _ A (.compLoop (.ListComp ee [⟨te,ie,ifs,0⟩] sc pos) 0 _ _ bw) U {s₁ with heap:=B}:=
  MZ _ (λk' s'=>W_ ⟨d,(Nat.ne_of_gt w),λb z=>aaS i (aaS jH (C.zt b z)),D▸ht,D▸M,D▸he,λv iM hb x u e=>Sd hb x u (vd e).1 e,hz⟩ (λ{s' ah ax aj ys m vs}a T hd hv hn F q=>F.ns.elim λmC z=>k ⟨vs,aj,ah,ax,ys,m,mC,a,T,hd,hv,hn,H▸F.rG,i,aaS i jH,abx (sz▸ab3 _),bs,H▸z.1,q⟩) k') _
   ⟨0,aj,dP,eN,#[],0,[],Q,Y,⟨h.iX,h.room,p.at_.heap (p.at_.inv.keeps C.size C.old),C.fr⟩,⟨S.trans j,d.frame st j.tup (old I) λJ J e=>e,⟨hI,r hIn (abG w),hIn,aaS bs hIn⟩,C.old _ _ (abU _ Y),⟨wW a,r i (aaX _),i,aaS bs i⟩,Y⟩,aaX _,hm,λJ J q=>q⟩
 exact codeAny_compStart_list fin (wpAny_mono (d.self (d.frame st j.tup (old I) λJ J e=>e) fin) (λJ J q=>q) λJ J f=>f.elim)
theorem Pu{l:Value->Addr->Result->Shared->Prop}(h:Run g n Φ A env L β δ σ s)(S:Step bB s.heap β δ s₁.heap dP eN)(a:At g dP eN aj s₁)(b:dS g A I src St)(st:St 0 s₁.heap dP)(u:I∉dP++eN)(hIn:s.heap.objs.size<=I)
  (r:uB env.kindOf sc t.vars=true)(m:jq (gH env.kindOf sc) t te=true)(j:rq (gH env.kindOf sc) c ifs=true)(q:elt.aN (gH env.kindOf sc) ee=true)(hz:src.items.length<=sizeLine)(p:bK Φ elt t c src (fQ L t.vars) src.items Q aj)
  (k:∀{D C s'},CE g s β δ Q D C s'->l (.ref D) C (.ok .next) s'):
  wp g A (newList []) (λacc f=>wp g A (newFunctionEnv sc env.globals (eJ env.cells sc.names []) [] env.qual none .none (some env)) (λbw d=>
   codeAny (model g.prog g.w) A (.compStart (.ListComp ee [⟨te,ie,ifs,0⟩] sc pos) 0 (.ref I) acc {bw with scope:=relabel sc env}) (l acc bw.locals) d) f) s₁:=by
 refine wpAny_newObj_type ?_
 refine aaV (wpAny_alloc (aaV (wpAny_layCells _ (λname kind cells=>by cases i:kind==NameKind.cell<;>simp[i]) _ _ _ _ ?_)))
 dsimp only
 exact aaV (abh (abh (Qv h S a b st u hIn r m j q hz p Y Y Y Y (aaU (λz=>cellsFrom z sc.names _) (ab1 ..)) k)))
theorem CE.num(q:CE g s β δ Q D C s'):∃vs b dP eN,At g dP eN (b++[.list vs]) s'/\Step bB s.heap β δ s'.heap dP eN/\RV s'.heap dP (.loc b.length) (.ref D)/\C∉dP++eN/\Q vs b:=by
 obtain⟨vs,b,ah,ax,j,m,r,a,T,h,p,i,l,d,u,ne,bs,ns,q⟩:=q;exact⟨vs,b,_,_,a.heap (a.inv.more i i ⟨aaS bs d,ab2 h⟩ ⟨aaS bs d,ab2 h⟩ ⟨Y,j,m,h,p.keeps (λJ J e=>e) λJ J=>i_⟩),
  ⟨T.size,T.keep,T.tup,λn x e=>i_ (T.pre n x e),λx f=>(vi f).elim (T.fresh x) λe=>.inr (e.elim (λe=>e▸d) λe=>e▸d)⟩,
  ⟨D,a.inv.g_▸List.getElem?_concat_length ..,Y⟩,λf=>(vi f).elim l λe=>e.elim ne.symm ne.symm,q⟩
theorem CE.ns(q:CE g s β δ Q D C s'):(∃m,s'.heap.Ns C m)/\s.heap.objs.size<=C/\g.bF.heap.objs.size<=C:=by
 obtain⟨vs,b,ah,ax,h,m,f,a,T,p,l,i,j,r,d,ne,bs,ns,q⟩:=q;exact⟨⟨f,ns⟩,d,aaS bs d⟩
theorem oL(ns:h.Ns C m)(hs:Heap.SameBut C h d):Lay C h d:=.but (λb o a=>(hs.2 b a).trans) (aa7 hs.1.symm) λf vs n e z=>ns.elim λo q=>q.elim λes q=>q.elim λi q=>Data.noConfusion ((q.2.1.symm.trans (aaU Obj.data (aa0 (q.1.symm.trans e)))).trans z)
end
def vQ(elt:X)(t:Tg)(c:Option X)(a:aR)(L:Loc)(Q:List AV->Sg->Prop)(src:Src)(σ:Sg):Prop:=src.items.length<=sizeLine/\bK a elt t c src (fQ L t.vars) src.items Q σ
def yA(elt:X)(t:Tg)(i:It)(c:Option X)(a:aR)(L:Loc):Do (List AV):=λQ=>i.den a L (vQ elt t c a L Q)
def tn(elt:X)(t:Tg)(i:It)(c:Option X)(K:Kd)(ee:Expr)(b:List Comprehension)(a:Scope):Bool:=one b λg=>(g.is_async==0&&uB K a t.vars)&&((i.aN K g.iter&&jq (gH K a) t g.target)&&(rq (gH K a) c g.ifs&&elt.aN (gH K a) ee))
theorem Eb
  (R:Run g n H A env L β B σ s)(U:tn elt t i c env.kindOf ee l d=true)(T:yA elt t i c H L Q σ)(k:∀{D C s'},CE g s β B Q D C s'->compPost (model g.prog g.w) A qd use P (.ref D) C (.ok .next) s'):
  wp g A (comprehension (.ListComp ee l d p2) d env pos (newList []) (firstAsync l) (firstIter l env) use) P s:=by
 apply fu U;intro cg f
 obtain⟨te,ie,ifs,ac⟩:=cg
 obtain⟨j,f⟩:=af f
 obtain⟨h,w⟩:=af f
 have e:=abc.mp (af j).1
 subst e
 have C:=Fi (af j).2
 refine wpAny_comprehension_free Y (λx=>Jq env x (i.ns (af h).1)) (RB d env λy m=>(R.fr.cell y (C.free y m)).elim λc q=>q.elim λo q=>by rw[q.look];rfl) C.kind (λx m e=>C.lk (e▸m)) ?_
 refine wm (i.ok R (af h).1 T) λx s₁ p=>wm p λit z q=>?_
 obtain⟨I,src,aj,St,u,r,rfl,b,a,S,st,M,N,hz,q⟩:=q
 exact Pu R S a b st M N (af j).2 (af h).2 (af w).1 (af w).2 hz q k
namespace X
theorem Q7(elt t i c):bY (λl L Q=>yA elt t i c l L (w9 Q)) (λK e=>wk e λee p m=>tn elt t i c K ee p m):=λ{g n l A env L β H σ s Q e}R y x=>by
 apply wV y;intro ee p m pos w
 refine Eb R w x λ{D C s'}q=>?_
 obtain⟨⟨u,ns⟩,z,B⟩:=q.ns
 obtain⟨vs,j,b,a,f,h,d,r,q⟩:=q.num
 exact⟨u,ns,λM hs=>⟨.loc _,_,b,a,f.lay (oL ns hs) r B,h.lay (oL ns hs) z,RV.mono (oL ns hs).tup (λJ J e=>e) _ _ d,q⟩⟩
def comp(elt:X)(t:Tg)(i:It)(c:Option X):X:=.by (@Q7 elt t i c) λh=>by apply wV h;intros;exactλJ J=>Y
end X
theorem KR(j:env.scope.kind=.function)(i:env.kindOf (nm x)=some .local)(h:(b.line==c.line)=true)
  (f:(a.names.any λ(n,k)=>n==nm x&&(k==.local||k==.cell))=false):swapsWith (.ListComp ee l a c) (some (.Name (nm x) b)) ln env=pure true:=by
 have d:env.blockKind=.function:=by unfold Env.blockKind;rw[j];rfl
 unfold swapsWith
 dsimp only
 rw[d,i,show(b.line==(Expr.ListComp ee l a c).pos.line)=true from h,f]
 rfl
def Js(x:V)(L:Loc)(Q:PS)(vs:List AV)(σ:Sg):Prop:=Q .next (aT L x (.loc σ.length)) (σ++[.list vs])
namespace S
def N2(x:V)(elt:X)(t:Tg)(i:It)(c:Option X)(K:Kd)(b:Pos)(e:Expr):Bool:=wk e λee d a=>((K (nm x)==some .local&&b.line==e.pos.line)&&!(a.names.any λ(n,k)=>n==nm x&&(k==.local||k==.cell)))&&tn elt t i c K ee d a
noncomputable def tU(e:Expr)(p:Str->Pos->Bool):Bool:=if h:e.ctorIdx=23 then Expr.Name.elim e h (λa b=>p a b) else false
theorem yO{e p}{M:Expr->Prop}(h:tU e p=true)(k:∀a b,p a b=true->M (.Name a b)):M e:=(cu h).elim (Expr.Name.elim (motive_1:=λe=>∀x,Expr.Name.elim e x (p)=true->M e) e (cy h) λa b J=>k a b)
theorem Xz(x elt t i c):eA (λB L Q=>yA elt t i c B L (Js x L Q)) (λK st=>ny st λH e=>one H λte=>tU te λy m=>y==nm x&&N2 x elt t i c K m e):=λ{g n B A env L β δ σ s Q st}R hc hd=>by
 apply qy hc;intro H e pos a
 apply fu a;intro te a
 apply yO a;intro y m a
 have N:=(af a).2
 rw[abc.mp (af a).1]
 have r:=N
 revert r;apply wV N;intro ee gs sc p2 _ a
 obtain⟨a,u⟩:=af (show(((env.kindOf _==some .local&&m.line==p2.line)&&!_)&&tn elt t i c env.kindOf ee gs sc)=true from a)
 have T:=abc.mp (af (af a).1).1
 rw[exec_Assign_Name_used _ _ _ _ (KR R.fr.kind T (af (af a).1).2 (gJ (af a).2))]
 refine aaV (abL (aaV ?_))
 refine aaV (wm (Eb R u hd λ{D C s'}q=>?_) λJ s' a=>abh (abh a))
 obtain⟨⟨mC,ns⟩,U,bC⟩:=q.ns
 obtain⟨vs,w,h,f,l,d,j,nC,q⟩:=q.num
 have M:¬Own env C:=λo=>absurd (R.fr.own o).2.1 (ab0.mpr U)
 refine wm (Ac (R.next l d) (Bool.or_eq_true_iff.mpr (.inl (abc.mpr T))) j) λJ fI p=>?_
 have b:=ns.imp λo q=>q.imp λes q=>q.imp λep q=>q.imp (p.keep C o λz=>M z.own) id
 exact⟨mC,b,λh' hs=>⟨.next,_,_,h,f,p.at_.lay (oL b hs) nC bC,(d.gp.trans p.st).lay (oL b hs) U,p.fr.lay (oL b hs) M,Y,q⟩⟩
def jy(x:V)(elt:X)(t:Tg)(i:It)(c:Option X):S:=⟨_,_,@Xz x elt t i c⟩
end S
end W
end
section
def I2{a}(l:List a)(p:a->a->Bool):Bool:=match l with
 |[]=>false
 |x::r=>one r (p x)
theorem Sz{a p l}{M:List a->Prop}(h:I2 l p=true)(k:∀x y,p x y=true->M [x,y]):M l:=by
 cases l with
 |nil=>exact absurd h aaY
 |cons x r=>apply fu h;exactλy b=>k x y b
theorem Vz{f e1 e2}{P:Prop}(b:notStar e1=true)(a:notStar e2=true)(z:[e1,e2].any f=true)(h:∀e,notStar e=true->f e=false):P:=by
 rw[List.any_cons,List.any_cons,h e1 b,h e2 a] at z;exact absurd z aaY
structure CG(env:Env)(x y)(p1 p2:Pos)(e1 e2):Prop where
 hx:env.kindOf (nm x)=some .local
 hy:env.kindOf (nm y)=some .local
 hl:(p2.line==p1.line)=true
 hn:(nm x==nm y)=false
 s1:notStar e1=true
 s2:notStar e2=true
 f1:([e1,e2].all (foldedForSure 8))=false
 f2:([e1,e2].all (constantsAlone 8))=false
theorem ON{x y c d l j m k2 e1 e2 env}(i:env.scope.kind=.function)(C:CG env x y c d e1 e2):
  swappedStores [.Tuple [.Name (nm x) c,.Name (nm y) d] m l] (.Tuple [e1,e2] k2 j) env=pure (some [nm x,nm y]):=by
 have p:env.blockKind=.function:=by unfold Env.blockKind;rw[i];rfl
 delta swappedStores
 rw[p]
 have ed:[nm x,nm y].eraseDups=[nm x,nm y]:=by
  simp[List.eraseDups_cons,(abJ.mpr (Ne.symm (abJ.mp C.hn)))]
 refine(aa_ λz=>Vz C.s1 C.s2 z λe h=>by cases e<;>first|rfl|exact absurd h aaY).trans ?_
 rw[C.f1,C.f2]
 have r:(env.kindOf (nm x)==some NameKind.local&&c.line==c.line)=true:=by rw[C.hx,beq_self_eq_true c.line];rfl
 have q:(env.kindOf (nm y)==some NameKind.local&&d.line==c.line)=true:=by rw[C.hy,C.hl];rfl
 have i:∀f,f (.Name (nm x) c)=some _->f (.Name (nm y) d)=some _->[Expr.Name _ c,.Name _ d].filterMap f=[nm x,nm y]:=λf a b=>by rw[List.filterMap_cons_some a,List.filterMap_cons_some b];rfl
 rw[i _ (abn r) (abn q),ed]
 rfl
namespace W
open Do
def Jg(x y:V)(L:Loc)(Q:PS)(v u:AV):Sg->Prop:=Q .next (aT (aT L y u) x v)
def ZD(x y:V)(b:X)(a:aR)(L:Loc)(Q:PS)(v:AV):Sg->Prop:=b.den a L (Jg x y L Q v)
def O8(x y:V)(L:Loc)(Q:PS)(l:List AV)(σ:Sg):Prop:=match l with
 |[]=>False
 |v::r=>match r with
  |[]=>False
  |u::r=>match r with
   |[]=>Jg x y L Q v u σ
   |_=>False
def AM(x y:V)(L:Loc)(Q:PS)(w:AV)(σ:Sg):Prop:=match w with
 |.tup l=>O8 x y L Q l σ
 |_=>False
namespace S
def KG(x y:V)(a b:X)(K:Kd)(f es:List Expr):Bool:=I2 f λt u=>tU t λd i=>tU u λc h=>((d==nm x&&c==nm y)&&((K (nm x)==some .local&&K (nm y)==some .local)&&(h.line==i.line&&!(nm x==nm y))))&&((!(es.all (foldedForSure 8))&&!(es.all (constantsAlone 8)))&&fz K [a,b] es)
theorem XA{x y c b d a pos f k2 e1 e2}{env:Env}(h:env.scope.kind=.function)(C:CG env x y c b e1 e2):exec (.Assign [.Tuple [.Name (nm x) c,.Name (nm y) b] f d] (.Tuple [e1,e2] k2 a) pos) env=(do
      standAt pos
      let v ←eval (.Tuple [e1,e2] k2 a) env
      rule "assign.swapped-stores"
      let items ←unpackItems v 2 none
      assignInOrder [bindName env (nm y),bindName env (nm x)] items.reverse
      pure .next):=by
 rw[arm_exec_Assign]
 rw[ON h C]
 rfl
theorem KY{g n}{T A env L}{β c:List Addr}{σ s Q}{x y:V}{w r}(R:Run g n T A env L β c σ s)(kx:jE env.kindOf x=true)(ky:jE env.kindOf y=true)(z:RV s.heap β w r)(q:AM x y L Q w σ):
  wp g A (do
      rule "assign.swapped-stores"
      let items ←unpackItems r 2 none
      assignInOrder [bindName env (nm y),bindName env (nm x)] items.reverse
      pure Flow.next) (PE g s β c env Q) s:=by
 cases w with
 |tup l=>
  cases l with
  |nil=>exact q.elim
  |cons v l=>
   cases l with
   |nil=>exact q.elim
   |cons u l=>
    cases l with
    |cons=>exact q.elim
    |nil=>
     apply fA z;intro ta vs m ho j;rw[show(2:Nat)=vs.size from(ak.size j).symm];refine aaV (wpAny_rule (aaV (wpAny_mono (nu (wpAny_unpackItems_tuple (Q:=λl s'=>∃a,Heap.ExtBut s.heap.objs.size s.heap a/\l=vs.toList/\s'={s with heap:=a}) R.room.hd (items:=vs) ⟨_,ho,Y,m,Y⟩ λa t=>⟨a,t,Y,Y⟩)) (λl s' hp=>?_) λJ J f=>f.2)));obtain⟨hz,a,t,e1,e2⟩:=hp;subst e1 e2;have k:∀b o,s.heap.get? b=some o->a.get? b=some o:=λb o e=>t b o (abx (ab2 e)) e;have d:Step bB s.heap β c a β c:=Step.keeps hz k;have H:=R.next (s':={s with heap:=a}) (R.at_.heap (R.at_.inv.keeps hz k)) d;generalize vs.toList=ws at j⊢;apply j.e;intro h r' hv hr;apply hr.e;intro U B hu D;rw[show B=[] from D];show wp _ _ (do(do holding [h] (bindName env (nm y) U);assignInOrder [bindName env (nm x)] [h]);pure Flow.next) ..
     refine aaV (aaV (abQ (wpAny_bindName (wm (uF H ky (hu.step d)) λJ N p=>?_))));show wp _ _ (do holding [] (bindName env (nm x) h);assignInOrder [] []) ..
     exact aaV (abQ (wpAny_bindName (wm (uF (H.turn p.at_ p.fr) kx ((hv.step d).step p.st)) λJ M i=>abh (abh ⟨.next,_,_,_,_,i.at_,(d.gp.trans p.st).trans i.st,i.fr,Y,q⟩))))
 |_=>exact q.elim
theorem To(x y a b):eA (λm L Q=>a.den m L (ZD x y b m L Q)) (λK st=>ny st λf e=>one f λte=>pj te λf=>pj e λes=>KG x y a b K f es):=λ{g n m A env L β δ σ s Q st}R d N=>by
 apply qy d;intro f e pos c
 apply fu c;intro te c
 apply m3 c;intro f k1 q1 c
 apply m3 c;intro es k2 q2 c
 apply Sz c;intro t u c
 apply yO c;intro x' p1 c
 apply yO c;intro y' p2 c
 obtain⟨U,T⟩:=af c
 obtain⟨D,j⟩:=af U
 obtain⟨l,d⟩:=af T
 rw[abc.mp (af D).1,abc.mp (af D).2]
 have w:=d
 revert l w;apply p9 d;intro e1 r M c1 p
 apply p9 p;intro e2 r H c2 p
 rw[abD.mp p]
 intro l d
 have kx:=(af (af j).1).1
 have B:=(af (af j).1).2
 rw[XA R.fr.kind ⟨abc.mp kx,abc.mp B,(af (af j).2).1,gJ (af (af j).2).2,M,H,gJ (af l).1,gJ (af l).2⟩]
 exact aaV (abL (aaV (cD (x:=X.tup [a,b] (():2<=sizeLine)) (Q:=AM x y L Q) R d N λi h z q=>wm (KY i (Bool.or_eq_true_iff.mpr (.inl kx)) (Bool.or_eq_true_iff.mpr (.inl B)) z q) λJ J=>.after h.gp)))
def swap(x y:V)(a b:X):S:=⟨_,_,@To x y a b⟩
end S
end W
end
section
def hS(ps:List V):List AV->Loc:=ps.rec (λJ=>[]) λx J q vs=>match vs with
 |[]=>[]
 |v::vs=>(x,v)::q vs
def gm(ps:List V):List Value->List (Str×Value):=ps.rec (λJ=>[]) λx J q a=>match a with
 |[]=>[]
 |r::a=>(nm x,r)::q a
noncomputable def Ml(x:Fl):AV:=match x with
 |.ret v=>v
 |_=>.none
section
variable{h:Heap}{β:List Addr}
theorem Hb{c:Str->Prop}{F:List (Str×Value)->(Str->Option Value)->Str->Option Value}{st:Str->Value->(Str->Option Value)->Str->Option Value}(Q:∀m,F [] m=m)(N:∀n r t m,F ((n,r)::t) m=F t (st n r m))(w:∀n r m y,(y=n/\c n/\st n r m y=some r)\/((y=n->¬c n)/\st n r m y=m y))
  (ps):∀vs b m,ps.Nodup->ak h β vs b->vs.length=ps.length->
  (∀y,(∀x∈ps,nm x≠y)->F (gm ps b) m y=m y)/\∀x v,(hS ps vs).lookup x=some v->c (nm x)->∃r,F (gm ps b) m (nm x)=some r/\RV h β v r:=by
 induction ps with
 |nil=>exactλvs b m J J J=>⟨λJ J=>congrFun (Q m) _,λx v e=>absurd e.symm (aa8 _)⟩
 |cons p ps B=>
  intro vs b m f z s;cases vs with
  |nil=>cases(Nat.succ_ne_zero _).symm s
  |cons v vs=>
   obtain⟨hp,f⟩:=abv.mp f;apply z.e;intro r a L M;show(∀y,_->F (_::gm ps a) m y=m y)/\∀x u,((p,v)::hS ps vs).lookup x=some u->c _->∃i,F (_::gm ps a) m _=some i/\RV h β u i;rw[N];obtain⟨l,D⟩:=B vs a (st (nm p) r m) f M (Nat.succ.inj s);refine⟨λy d=>(l y λx H=>d x (.tail _ H)).trans ((w _ r m y).elim (λq=>absurd q.1.symm (d p (.head _))) λq=>q.2),λx u e k=>(oM e).elim (λq=>?_) λq=>D x u q.2 k⟩;obtain⟨j,A⟩:=q;rw[j,←A];exact⟨r,(l _ λy d z=>hp ((pH z)▸d)).trans ((w _ r m _).elim (λq=>q.2.2) λq=>absurd (j▸k) (q.1 Y)),L⟩
theorem JX{a}(ps vs b m)(c:ps.Nodup)(z:ak h β vs b)(d:vs.length=ps.length):∀x v,(hS ps vs).lookup x=some v->a (nm x)=some .local->∃r,bindL a (gm ps b) m (nm x)=some r/\RV h β v r:=
 (Hb (F:=bindL a) (λJ=>Y) (λJ J J J=>Y) (λn r m y=>by
  by_cases k:a n=some .local
  .rw[abn k];by_cases q:y=n
   .exact .inl ⟨q,k,abn q⟩
   .exact .inr ⟨λz=>absurd z q,aa_ q⟩
  .rw[aa_ k];exact .inr ⟨λJ=>k,Y⟩) ps vs b m c z d).2
theorem QT{a}(ps vs b m)(d:ps.Nodup)(z:ak h β vs b)(f:vs.length=ps.length):∀x v,(hS ps vs).lookup x=some v->a (nm x)≠some .local->∃r,bindC a (gm ps b) m (nm x)=some r/\RV h β v r:=
 (Hb (c:=λn=>a n≠some .local) (λJ=>Y) (λJ J J J=>Y) (λn r m y=>by
  by_cases k:a n=some .local
  .rw[abn k];exact .inr ⟨λJ z=>z k,Y⟩
  .rw[aa_ k];by_cases q:y=n
   .exact .inl ⟨q,k,abn q⟩
   .exact .inr ⟨λz=>absurd z q,aa_ q⟩) ps vs b m d z f).2
theorem Qp(ps):∀{a p},p∈gm ps a->∃x∈ps,p.1=nm x:=by
 induction ps with
 |nil=>exact nofun
 |cons x ps b=>
  intro a p e;cases a with
  |nil=>cases abo e
  |cons r a=>exact(aa5.mp e).elim (λe=>⟨x,.head _,aaU Prod.fst e⟩) λe=>(b e).imp λy q=>q.imp (.tail _) id
end
namespace W
open Do
structure Fn where
 params:List V
 defs:List AV
 body:List S
def cL(Q:PX)(fl:Fl)(_:Loc):Sg->Prop:=Q (Ml fl)
structure FnAt(g:Gl)(a)(fn:Fn)where
 fd:FuncData
 o:Obj
 body:List Stmt
 obj:g.bF.heap.get? a=some o
 data:o.data=.func fd
 bd:fd.body=.stmts body
 co:fd.scope.isCoroutine=false
 gen:fd.scope.isGenerator=false
 kind:fd.scope.kind=.function
 vK:fd.closure=[]
 glob:fd.globals=mainGlobals
 blt:fd.builtins=builtinsNs
 code:g.bF.heap.CodeRec fd.code fd.qualname
 nodup:fn.params.Nodup
 pk:∀x∈fn.params,fd.scope.names.lookup (nm x)=some .local\/fd.scope.names.lookup (nm x)=some .cell
 zB:∀y,fd.scope.names.lookup y≠some .free
 ds:List Value
 wo:ak g.bF.heap [] fn.defs ds
 binds:∀rs:List Value,rs.length+fn.defs.length=fn.params.length->∀s:Shared,(∀b o,g.bF.heap.get? b=some o->s.heap.get? b=some o)->BindsTo s fd ⟨rs,[]⟩ (gm fn.params (rs++ds))
 aN:iq (λy=>fd.scope.names.lookup y) fn.body body=true
section
variable{g:Gl}{n:Nat}{Φ:aR}{A:Around}{β δ:List Addr}{σ:Sg}{s:Shared}{a:Addr}{fn:Fn}{Q:PX}
theorem VV(F:FnAt g a fn)(at_:At g β δ σ s)(z:ak s.heap β vs r)(D:vs.length=fn.params.length)(i:env=newEnv F.fd.scope s.heap.objs.size F.fd.globals (cellsFrom (s.heap.objs.size+1) F.fd.scope.names []) (F.fd.qualname++Str.ofString ".<locals>.") (some a) F.fd.code none F.fd.builtins)
  (C:CF (s.heap.push {cls:=.type "frame",data:=.dict #[]}) (pushCells (s.heap.push {cls:=.type "frame",data:=.dict #[]}) F.fd.scope.names) F.fd.scope.names [] (cellsFrom (s.heap.objs.size+1) F.fd.scope.names []))
  (x:InCallC s env.locals (bindL env.kindOf (gm fn.params r) λJ=>none) env.cells (bindC env.kindOf (gm fn.params r) λJ=>none) s₁):
  (At g β δ σ s₁/\s.heap.objs.size<=s₁.heap.objs.size)/\(∀b,Own env b->s.heap.objs.size<=b)/\Frame g.bF.heap s₁.heap β δ (hS fn.params vs) env:=by
 have keep:=x.toInCall.keep
 have t:env.kindOf=λy=>F.fd.scope.names.lookup y:=by rw[i];rfl
 have loc:env.locals=s.heap.objs.size:=by rw[i];rfl
 have d:env.cells=cellsFrom (s.heap.objs.size+1) F.fd.scope.names []:=by rw[i];rfl
 have ge:∀{c},(s.heap.push {cls:=.type "frame",data:=.dict #[]}).objs.size<=c->s.heap.objs.size<c:=abb (ab1 .. ▸ab3 _)
 have hsz:=x.toInCall.ns.elim λo q=>q.elim λes q=>q.elim λT q=>abG (loc▸ab2 q.1)
 have f:=z.keeps keep λJ J e=>e
 have cK:∀{c},s.heap.objs.size<=c->c∉β++δ:=λM m=>absurd (at_.inv.new _ m).2 (ab0.mpr M)
 refine⟨⟨?_,hsz⟩,λb o=>?_,⟨i▸F.kind,i▸F.glob,i▸F.blt,⟨_,x.toInCall.ns,JX fn.params _ _ _ F.nodup f D⟩,λy h=>?_,d▸C.inj,cK (aa7 loc.symm),loc▸at_.inv.size⟩⟩
 .obtain⟨L,tk,rfl⟩:=x.toInCall.same;exact(at_.toks tk).heap (at_.inv.keeps hsz keep)
 .rcases o with j|⟨y,_,j⟩
  .exact aa7 (j.trans loc).symm
  .exact(C.of _ _ (d▸j)).elim (λq=>absurd q.1.symm (aa8 _)) λq=>abG (ge q.1)
 .rw[t] at h;rcases h with h|h
  .obtain⟨c,H,N,U⟩:=C.to _ (iV h);have l:=ge N;exact⟨c,_,d▸H,x.cell y c (d▸H),cK (abG l),aaS at_.inv.size (abG l),loc▸Nat.ne_of_gt l,λw u B p=>B▸QT fn.params _ _ _ F.nodup f D w u p (by rw[t,B];exactλz=>NameKind.noConfusion (aa0 (h.symm.trans z)))⟩
  .exact absurd h (F.zB y)
theorem R8(r:dI A (n+1))(u:B.handled=A.handled/\B.depth=A.depth+1/\B.units<=A.units+12):dI B n:=⟨u.1.trans r.hd,u.2.1▸(abT A.depth 1 n▸r.dp),aaS (aa2 (aaS (aa2 u.2.2 _) (aa7 (abT A.units 12 _))) 60) r.un⟩
theorem Xq(F:FnAt g a fn)(T:qx g n Φ)(R:dI A (n+1))(hlen:vs.length+fn.defs.length=fn.params.length)(e:bH Φ fn.body (hS fn.params (vs++fn.defs)) (cL Q) σ)(at_:At g β δ σ s)(z:ak s.heap β vs L):
  codeAny (model g.prog g.w) A (.call (.ref a) ⟨L,[]⟩) (CM (PV g s β δ Q)) s:=by
 refine codeAny_call_function (aaZ (aaW ..) R.dp) (at_.keep _ _ F.obj) F.data F.co F.gen F.bd (F.code.imp λc q=>q.imp λo q=>q.imp λvs q=>q.imp λt q=>q.imp id λq=>q.imp (at_.keep _ _) id) ?_
 refine F.binds L ((ak.length _ _ z)▸hlen) s at_.keep _ _ _ _ ?_
 rw[F.vK]
 have C:=A6 F.fd.scope.names (s.heap.push {cls:=.type "frame",data:=.dict #[]}) [] (λy c e=>absurd e.symm (aa8 _)) λy y' c e=>absurd e.symm (aa8 _)
 rw[ab1 ..] at C
 refine wpAny_newFunctionEnv_cells F.kind (λx hx=>?_) λenv M s₁ x=>?_
 .obtain⟨y,hy,q⟩:=Qp _ hx;exact q▸(F.pk y hy).imp id λh=>⟨h,(C.to _ (iV h)).elim λc q=>by rw[q.1];rfl⟩
 obtain⟨⟨w,hsz⟩,own,fr⟩:=VV F at_ (ak.append _ _ _ _ z (F.wo.keeps at_.keep λJ J e=>absurd e.symm (aa8 _))) (aa4.trans hlen) M C x
 refine⟨at_.lim.keeps x.toInCall.keep,codeAny_func ?_⟩
 have U:env.kindOf=λy=>F.fd.scope.names.lookup y:=by rw[M];rfl
 refine wpAny_mono (pU fn.body _ (⟨T,R8 R ⟨Y,Y,aa3 () A.units⟩,w,fr⟩) (U▸F.aN) e) (λf B p=>p.fl λ{fl L' m l j}d D N H q=>?_) λJ J f=>f.elim
 have i:Step bB s.heap β δ B.heap l j:=D.from hsz x.toInCall.keep λb o=>.inr (own b o)
 cases fl with
 |next=>exact H▸⟨.none,m,l,j,d,i,Y,q⟩
 |cont=>exact H▸⟨.none,m,l,j,d,i,Y,q⟩
 |ret u=>obtain⟨r,e,hr⟩:=H;exact e▸⟨u,m,l,j,d,i,hr,q⟩
end
def Fg(T:Addr->Option Fn)(n:Nat):aR:=n.rec (λJ J J J J=>False) λJ a k f vs Q σ=>match k with
 |0=>∃fn,(T f=some fn/\vs.length+fn.defs.length=fn.params.length)/\bH a fn.body (hS fn.params (vs++fn.defs)) (cL Q) σ
 |k+1=>a k f vs Q σ
@[irreducible] def gL(T:Addr->Option Fn)(n:Nat):Addr->List AV->Do AV:=Fg T n 0
theorem Ja(T n):Fg T n=λk=>gL T (n-k):=by
 induction n with
 |zero=>exact funext λk=>by rw[Nat.zero_sub];unfold gL;rfl
 |succ n a=>
  refine funext λk=>?_;cases k with
  |zero=>unfold gL;rfl
  |succ k=>rw[Nat.succ_sub_succ];exact congrFun a k
theorem T9(h:gL T n f vs Q σ):∃m fn,n=m+1/\(T f=some fn/\vs.length+fn.defs.length=fn.params.length)/\bH (λk=>gL T (m-k)) fn.body (hS fn.params (vs++fn.defs)) (cL Q) σ:=by
 unfold gL at h;cases n with
 |zero=>exact h.elim
 |succ m=>
  obtain⟨fn,e,h⟩:=h;exact⟨m,fn,Y,e,by rw[←Ja];exact h⟩
theorem XH(fn)(h:T f=some fn)(a:vs.length+fn.defs.length=fn.params.length)(k:bH (λk=>gL T (n-k)) fn.body (hS fn.params (vs++fn.defs)) (cL Q) σ):gL T (n+1) f vs Q σ:=by
 unfold gL;rw[←Ja] at k;exact⟨fn,⟨h,a⟩,k⟩
theorem RG(H:∀a fn,T a=some fn->Nonempty (FnAt g a fn))(n):qx g n (λk=>gL T (n-k)):=by
 induction n using Nat.strongRecOn with
 |_ n b=>
  intro k f vs Q σ e;obtain⟨m,fn,q,⟨d,c⟩,e⟩:=T9 e;exact⟨Nat.lt_of_sub_pos (q▸Nat.succ_pos m),λA R β h s i=>(H f fn d).elim λF=>Xq F (b m (abb (q▸ab3 m) (Nat.sub_le n k))) (q▸R) c e⟩
end W
end
noncomputable def yX:AV:=.tup [.tup [.int 1,.str "any"],.tup [.int 1,.str "unknown"],.tup [.int 1,.str "never"],.tup [.int 1,.str "void"],.tup [.int 1,.str "undefined"],.tup [.int 1,.str "null"],.tup [.int 1,.str "string"],.tup [.int 1,.str "number"],.tup [.int 2,.int 0,.int 0],.tup [.int 2,.int 1,.int 0],.tup [.int 1,.str "object"],.tup [.int 8,.tup [],.tup [],.tup [],.tup [],.tup [],.int 0],.tup [.int 6,.tup [.int 8,.int 9]],.tup [.int 1,.str "error"],.tup [.int 2,.int 0,.int 1],.tup [.int 2,.int 1,.int 1]]
noncomputable def HR:AV:=.tup [.int 2,.int 3,.int 4,.int 5,.int 8]
noncomputable def Ls:AV:=.tup [.int 2,.int 3,.int 4,.int 5]
noncomputable def HZ:AV:=.tup [.int 1,.int 2,.int 3,.int 4,.int 5]
noncomputable def xr:AV:=.tup [.int 1,.int 2,.int 3,.int 4,.int 5]
noncomputable def I8:AV:=.tup [.int 10,.int 14,.int 15,.int 16,.int 17,.int 18,.int 19]
noncomputable def Gs:AV:=.tup [.int 11,.int 12]
noncomputable def HJ:AV:=.tup [.int 8,.int 9]
noncomputable def o3:AV:=.tup [.tup [.int 1,.tup []],.tup [.int 2,.tup []],.tup [.int 0,.tup [.tup [.int 4,.tup []]]],.tup [.int 0,.tup [.tup [.int 3,.tup []]]],.tup [.int 128,.tup []],.tup [.int 9,.tup []],.tup [.int 0,.tup [.tup [.int 2,.tup [.tup [.int 1,.tup []]]]]],.tup [.int 32,.tup []],.tup [.int 8,.tup [.tup [.int 3,.tup []]]],.tup [.int 0,.tup []],.tup [.int 4,.tup []],.tup [.int 64,.tup []],.tup [.int 136,.tup []],.tup [.int 10,.tup []],.tup [.int 1,.tup [.tup [.int 4,.tup []]]],.tup [.int 0,.tup [.tup [.int 2,.tup [.tup [.int 0,.tup [.tup [.int 3,.tup []]]]]]]]]
namespace W
def JI:Fn:=⟨[237],[],[
  S.setattr (X.v 237) 226 (X.list [])]⟩
def yR:List S:=[S.ex (X.bh (X.v 237) 212 [(X.v 225)])]
def C':Fn:=⟨[237],[],[
  S.setattr (X.v 237) 226 (X.list []),
  S.setattr (X.v 237) 143 (X.g9 .tup),
  S.setattr (X.v 237) 121 (X.list [X.none]),
  S.setattr (X.v 237) 109 (X.list []),
  S.setattr (X.v 237) 124 (X.list []),
  S.setattr (X.v 237) 178 (X.list []),
  S.setattr (X.v 237) 192 (X.g9 .tup),
  S.setattr (X.v 237) 221 (X.g9 .tup),
  S.setattr (X.v 237) 241 (X.int 0),
  S.setattr (X.v 237) 213 (X.int 0),
  S.ck (.one 225) (It.val (X.g 7 yX)) yR]⟩
def vM:Fn:=⟨[237,225],[],[
  S.aC (X.cv (X.v 225) (X.attr (X.v 237) 143)) [S.ret (X.ix (X.attr (X.v 237) 143) (X.v 225))] [],
  S.assign (.one 256) (X.len (X.attr (X.v 237) 226)),
  S.ex (X.bh (X.attr (X.v 237) 226) 93 [(X.v 225)]),
  S.c9 (X.attr (X.v 237) 143) (X.v 225) (X.v 256),
  S.ret (X.v 256)]⟩
def Az:Fn:=⟨[237,125,156,177],[],[
  S.setattr (X.v 237) 125 (X.v 125),
  S.setattr (X.v 237) 156 (X.v 156),
  S.setattr (X.v 237) 177 (X.v 177),
  S.setattr (X.v 237) 200 (X.tup []),
  S.setattr (X.v 237) 106 (X.neg (X.int 1)),
  S.setattr (X.v 237) 104 (X.tup []),
  S.setattr (X.v 237) 251 (X.neg (X.int 1)),
  S.setattr (X.v 237) 128 (X.int 0),
  S.setattr (X.v 237) 88 (X.bool false),
  S.setattr (X.v 237) 170 (X.list []),
  S.setattr (X.v 237) 276 (X.list []),
  S.setattr (X.v 237) 110 (X.int 0),
  S.setattr (X.v 237) 101 (X.int 0),
  S.setattr (X.v 237) 129 (X.str ""),
  S.setattr (X.v 237) 181 (X.int 0)]⟩
def AS:List S:=[S.c9 (X.v 133) (X.ix (X.v 210) (X.int 0)) (X.v 210)]
def Iv:Fn:=⟨[211],[],[
  S.assign (.one 133) (X.g9 .str),
  S.ck (.one 210) (It.val (X.v 211)) AS,
  S.ret (X.tupleOf (X.comp (X.ix (X.v 133) (X.v 177)) (.one 177) (It.val (X.sorted (X.v 133))) none))]⟩
def Hs:Fn:=⟨[257,211,113,117,244,182,134],[.tup [],.tup [],.tup [],.tup [],.int 0],[
  S.ret (X.bh (X.v 257) 212 [(X.tup [(X.g 57 (.int 8)),(X.call 248 210 [(X.v 211)]),(X.tupleOf (X.v 113)),(X.tupleOf (X.v 117)),(X.v 244),(X.v 182),(X.v 134)])])]⟩
def HO:Fn:=⟨[257,177,108,123],[.int (-1),.int (-1)],[
  S.assign (.one 204) (X.len (X.attr (X.v 257) 109)),
  S.ex (X.bh (X.attr (X.v 257) 109) 93 [(X.v 108)]),
  S.ex (X.bh (X.attr (X.v 257) 124) 93 [(X.v 123)]),
  S.ex (X.bh (X.attr (X.v 257) 178) 93 [(X.v 177)]),
  S.ret (X.bh (X.v 257) 212 [(X.tup [(X.g 58 (.int 10)),(X.v 204)])])]⟩
def CH:Fn:=⟨[257,156,177],[],[
  S.assign (.one 120) (X.new 3 201 198 [(X.len (X.attr (X.v 257) 121)),(X.v 156),(X.v 177)]),
  S.ex (X.bh (X.attr (X.v 257) 121) 93 [(X.v 120)]),
  S.ret (X.v 120)]⟩
def IJ:Fn:=⟨[257,256],[],[
  S.aC (X.eq (X.v 256) (X.g 21 (.int 2))) [S.ret (X.tup [])] [],
  S.assign (.one 225) (X.ix (X.attr (X.v 257) 226) (X.v 256)),
  S.aC (X.eq (X.ix (X.v 225) (X.int 0)) (X.g 63 (.int 6))) [S.ret (X.ix (X.v 225) (X.int 1))] [],
  S.ret (X.tup [(X.v 256)])]⟩
def E3:Fn:=⟨[225],[],[
  S.assign (.one 156) (X.ix (X.v 225) (X.int 0)),
  S.aC (X.b4 [(X.eq (X.v 156) (X.g 61 (.int 3))),(X.eq (X.v 156) (X.g 62 (.int 18)))]) [S.ret (X.g 46 (.int 6))] [],
  S.aC (X.eq (X.v 156) (X.g 56 (.int 4))) [S.ret (X.g 23 (.int 7))] [],
  S.aC (X.eq (X.v 156) (X.g 54 (.int 5))) [S.ret (X.ite X.gV (X.g 46 (.int 6)) (X.g 23 (.int 7)))] [],
  S.ret (X.neg (X.int 1))]⟩
def GN:Fn:=⟨[257,256],[],[
  S.assign (.one 225) (X.ix (X.attr (X.v 257) 226) (X.v 256)),
  S.aC (X.and_ [(X.cv (X.ix (X.v 225) (X.int 0)) (X.g 13 HR)),(X.eq (X.ix (X.v 225) (X.neg (X.int 1))) (X.int 1))]) [S.ret (X.bh (X.attr (X.v 257) 143) 136 [(X.add (X.slice (X.v 225) none (some (X.neg (X.int 1))) none) (X.tup [(X.int 0)])),(X.neg (X.int 1))])] [],
  S.ret (X.neg (X.int 1))]⟩
def Hi:Fn:=⟨[138],[],[
  S.aC (X.and_ [(X.b4 [(X.cv (X.g 6 (.int 8)) (X.v 138)),(X.cv (X.g 8 (.int 14)) (X.v 138))]),(X.b4 [(X.cv (X.g 47 (.int 9)) (X.v 138)),(X.cv (X.g 9 (.int 15)) (X.v 138))])]) [S.c9 (X.v 138) (X.g 6 (.int 8)) (X.int 1),S.c9 (X.v 138) (X.g 47 (.int 9)) (X.int 1)] []]⟩
def HL:Fn:=⟨[257,138,256],[],[
  S.aC (X.cv (X.call 218 265 [(X.v 257),(X.v 256)]) (X.v 138)) [S.ret (X.bool false)] [],
  S.ret (X.cK (X.call 281 258 [(X.ix (X.attr (X.v 257) 226) (X.v 256))]) (X.v 138))]⟩
def N3:List S:=[S.aC (X.cv (X.v 256) (X.v 138)) [S.ret (X.v 256)] []]
def Iw:Fn:=⟨[138],[],[
  S.ck (.one 256) (It.val (X.tup [(X.g 0 (.int 0)),(X.g 5 (.int 13)),(X.g 51 (.int 1))])) N3,
  S.ret (X.neg (X.int 1))]⟩
def Vt:List S:=[S.c9 (X.v 138) (X.v 201) (X.int 1)]
def TN:List S:=[S.ck (.one 201) (It.val (X.call 203 251 [(X.v 257),(X.v 256)])) Vt]
def oU:Fn:=⟨[257,202],[],[
  S.assign (.one 138) (X.g9 .int),
  S.ck (.one 256) (It.val (X.v 202)) TN,
  S.assign (.one 266) (X.call 267 286 [(X.v 138)]),
  S.aC (X.ge (X.v 266) (X.int 0)) [S.ret (X.v 266)] [],
  S.ex (X.call 152 272 [(X.v 138)]),
  S.jy 154 (X.v 256) (.one 256) (It.val (X.sorted (X.v 138))) (some (X.call 252 279 [(X.v 257),(X.v 138),(X.v 256)])),
  S.aC (X.not_ (X.v 154)) [S.ret (X.g 21 (.int 2))] [],
  S.aC (X.eq (X.len (X.v 154)) (X.int 1)) [S.ret (X.ix (X.v 154) (X.int 0))] [],
  S.aC (X.gt (X.len (X.v 154)) (X.g 16 (.int 400))) [S.gV] [],
  S.ret (X.bh (X.v 257) 212 [(X.tup [(X.g 63 (.int 6)),(X.tupleOf (X.v 154))])])]⟩
def BN:Fn:=⟨[257,256],[],[
  S.ret (X.call 274 291 [(X.v 257),(X.tup [(X.v 256),(X.g 50 (.int 4))])])]⟩
def BK:Fn:=⟨[257,256],[],[
  S.ret (X.cv (X.ix (X.ix (X.attr (X.v 257) 226) (X.v 256)) (X.int 0)) (X.g 12 Ls))]⟩
def FN:Fn:=⟨[257,256],[],[
  S.assign (.one 225) (X.ix (X.attr (X.v 257) 226) (X.v 256)),
  S.ret (X.and_ [(X.cv (X.ix (X.v 225) (X.int 0)) (X.g 13 HR)),(X.eq (X.ix (X.v 225) (X.neg (X.int 1))) (X.int 1))])]⟩
def Dj:Fn:=⟨[257,256],[],[
  S.aC (X.call 148 319 [(X.v 257),(X.v 256)]) [S.ret (X.bh (X.v 257) 212 [(X.add (X.slice (X.ix (X.attr (X.v 257) 226) (X.v 256)) none (some (X.neg (X.int 1))) none) (X.tup [(X.int 0)]))])] [],
  S.ret (X.v 256)]⟩
def WV:List S:=[S.aC (X.lt (X.v 256) (X.int 0)) [S.gV] [],S.assign (.one 225) (X.ix (X.attr (X.v 257) 226) (X.v 256)),S.aC (X.eq (X.ix (X.v 225) (X.int 0)) (X.g 57 (.int 8))) [S.ret (X.v 256)] [],S.aC (X.eq (X.ix (X.v 225) (X.int 0)) (X.g 60 (.int 13))) [S.ret (X.call 135 229 [(X.v 257),(X.v 256)])] [],S.aC (X.cv (X.ix (X.v 225) (X.int 0)) (X.g 25 HZ)) [S.ret (X.g 4 (.int 11))] [],S.aC (X.b4 [(X.ne (X.ix (X.v 225) (X.int 0)) (X.g 59 (.int 9))),(X.ix (X.v 225) (X.int 2)),(X.attr (X.ix (X.attr (X.v 257) 121) (X.ix (X.v 225) (X.int 1))) 104)]) [S.gV] [],S.assign (.one 256) (X.attr (X.ix (X.attr (X.v 257) 121) (X.ix (X.v 225) (X.int 1))) 106)]
def Af:Fn:=⟨[257,256],[],[
  S.ck (.one 271) (It.range (X.g 18 (.int 40))) WV,
  S.gV]⟩
def pG:Fn:=⟨[257,256,167],[],[
  S.assign (.one 225) (X.ix (X.attr (X.v 257) 226) (X.v 256)),
  S.aC (X.eq (X.ix (X.v 225) (X.int 0)) (X.g 58 (.int 10))) [S.ret (X.bh (X.v 167) 136 [(X.ix (X.v 225) (X.int 1)),(X.v 256)])] [],
  S.aC (X.eq (X.ix (X.v 225) (X.int 0)) (X.g 63 (.int 6))) [S.ret (X.call 274 291 [(X.v 257),(X.comp (X.call 107 339 [(X.v 257),(X.v 201),(X.v 167)]) (.one 201) (It.val (X.ix (X.v 225) (X.int 1))) none)])] [],
  S.aC (X.eq (X.ix (X.v 225) (X.int 0)) (X.g 59 (.int 9))) [S.ret (X.bh (X.v 257) 212 [(X.tup [(X.g 59 (.int 9)),(X.ix (X.v 225) (X.int 1)),(X.tupleOf (X.comp (X.call 107 339 [(X.v 257),(X.v 94),(X.v 167)]) (.one 94) (It.val (X.ix (X.v 225) (X.int 2))) none))])])] [],
  S.aC (X.cK (X.ix (X.v 225) (X.int 0)) (X.g 25 HZ)) [S.gV] [],
  S.ret (X.v 256)]⟩
def UE:List S:=[S.c9 (X.v 167) (X.ix (X.attr (X.v 120) 200) (X.v 205)) (X.ix (X.ix (X.v 225) (X.int 2)) (X.v 205))]
def xh:Fn:=⟨[140,225],[],[
  S.assign (.one 257) (X.attr (X.v 140) 257),
  S.assign (.one 120) (X.ix (X.attr (X.v 257) 121) (X.ix (X.v 225) (X.int 1))),
  S.aC (X.b4 [(X.attr (X.v 120) 104),(X.lt (X.attr (X.v 120) 106) (X.int 0))]) [S.gV] [],
  S.assign (.one 106) (X.ix (X.attr (X.v 257) 226) (X.attr (X.v 120) 106)),
  S.aC (X.b4 [(X.ne (X.ix (X.v 106) (X.int 0)) (X.g 57 (.int 8))),(X.ne (X.slice (X.v 106) (some (X.int 2)) (some (X.int 6)) none) (X.tup [(X.tup []),(X.tup []),(X.tup []),(X.tup [])]))]) [S.gV] [],
  S.assign (.one 167) (X.g9 .int),
  S.ck (.one 205) (It.range (X.len (X.attr (X.v 120) 200))) UE,
  S.assign (.one 211) (X.tupleOf (X.comp (X.tup [(X.ix (X.v 210) (X.int 0)),(X.call 107 339 [(X.v 257),(X.ix (X.v 210) (X.int 1)),(X.v 167)]),(X.ix (X.v 210) (X.int 2)),(X.ix (X.v 210) (X.int 3))]) (.one 210) (It.val (X.ix (X.v 106) (X.int 1))) none)),
  S.ret (X.bh (X.v 257) 212 [(X.tup [(X.g 57 (.int 8)),(X.v 211),(X.tup []),(X.tup []),(X.tup []),(X.tup []),(X.ix (X.v 106) (X.int 6))])])]⟩
def GU:List S:=[S.assign (.one 225) (X.ix (X.attr (X.attr (X.v 140) 257) 226) (X.v 256)),S.aC (X.b4 [(X.ne (X.ix (X.v 225) (X.int 0)) (X.g 59 (.int 9))),(X.not_ (X.ix (X.v 225) (X.int 2)))]) [S.c9 (X.attr (X.v 140) 146) (X.tup [(X.neg (X.int 2)),(X.tup [(X.v 130)])]) (X.call 208 334 [(X.attr (X.v 140) 257),(X.v 256)]),S.ret (X.ix (X.attr (X.v 140) 146) (X.tup [(X.neg (X.int 2)),(X.tup [(X.v 130)])]))] [],S.assign (.one 155) (X.tup [(X.neg (X.int 2)),(X.tup [(X.v 256)])]),S.assign (.one 256) (X.ite (X.cv (X.v 155) (X.attr (X.v 140) 146)) (X.ix (X.attr (X.v 140) 146) (X.v 155)) (X.call 207 344 [(X.v 140),(X.v 225)]))]
def tM:Fn:=⟨[140,256],[],[
  S.assign (.one 130) (X.v 256),
  S.ck (.one 271) (It.range (X.g 18 (.int 40))) GU,
  S.gV]⟩
def Hu:Fn:=⟨[237,256],[],[
  S.ret (X.v 256)]⟩
def Fy:Fn:=⟨[237,257],[],[
  S.setattr (X.v 237) 257 (X.v 257),
  S.setattr (X.v 237) 122 (X.int 0),
  S.setattr (X.v 237) 175 (X.g 19 (.int 200)),
  S.setattr (X.v 237) 174 (X.g 20 (.int 40)),
  S.setattr (X.v 237) 146 (X.g9 .tup)]⟩
def Ct:Fn:=⟨[237,256],[],[
  S.ret (X.call 95 351 [(X.v 237),(X.v 256)])]⟩
def G':Fn:=⟨[257,210],[],[
  S.ret (X.ite (X.band (X.ix (X.v 210) (X.int 2)) (X.g 27 (.int 1))) (X.call 89 298 [(X.v 257),(X.ix (X.v 210) (X.int 1))]) (X.ix (X.v 210) (X.int 1)))]⟩
def AH:Fn:=⟨[237,140,172],[],[
  S.setattr (X.v 237) 140 (X.v 140),
  S.setattr (X.v 237) 172 (X.v 172),
  S.setattr (X.v 237) 229 (X.g9 .int),
  S.setattr (X.v 237) 100 (X.g9 .tup),
  S.setattr (X.v 237) 158 (X.g9 .tup),
  S.setattr (X.v 237) 268 (X.list []),
  S.setattr (X.v 237) 224 (X.list []),
  S.setattr (X.v 237) 122 (X.int 0),
  S.setattr (X.v 237) 166 (X.int 0),
  S.setattr (X.v 237) 184 (X.new 24 120 96 []),
  S.setattr (X.v 237) 258 (X.bool true),
  S.setattr (X.v 237) 272 X.none,
  S.setattr (X.v 237) 171 (X.str ""),
  S.setattr (X.v 237) 101 (X.int 0)]⟩
def BC:Fn:=⟨[237,230,256],[],[
  S.ret (X.call 98 738 [(X.v 237),(X.v 230),(X.v 256)])]⟩
def BG:Fn:=⟨[237],[],[
  S.ret (X.tup [(X.len (X.attr (X.attr (X.v 237) 184) 226)),(X.len (X.attr (X.v 237) 268))])]⟩
def BF:Fn:=⟨[219,185,230,256],[],[
  S.assign (.one 227) (X.bh (X.attr (X.v 219) 229) 136 [(X.v 185)]),
  S.ret (X.and_ [(X.NG (X.v 227) X.none),(X.bh (X.v 227) 139 [(X.v 219),(X.v 230),(X.v 256)])])]⟩
def BJ:List S:=[S.Il (X.attr (X.v 219) 100) (X.bh (X.attr (X.v 219) 268) 209 [])]
def Am:Fn:=⟨[219,249],[],[
  S.K8 (X.attr (X.attr (X.v 219) 184) 226) (X.ix (X.v 249) (X.int 0)),
  S.GC 1000000 (X.gt (X.len (X.attr (X.v 219) 268)) (X.ix (X.v 249) (X.int 1))) BJ]⟩
def Hm:Fn:=⟨[140,256],[],[
  S.assign (.one 256) (X.bh (X.v 140) 131 [(X.v 256)]),
  S.aC (X.call 149 305 [(X.attr (X.v 140) 257),(X.v 256)]) [S.ret (X.call 217 326 [(X.attr (X.v 140) 257),(X.v 256)])] [],
  S.ret (X.v 256)]⟩
def xI:Fn:=⟨[219,230,256],[],[
  S.aC (X.eq (X.v 230) (X.v 256)) [S.ret (X.bool true)] [],
  S.assign (.one 230) (X.call 238 731 [(X.attr (X.v 219) 140),(X.v 230)]),
  S.assign (.one 256) (X.call 238 731 [(X.attr (X.v 219) 140),(X.v 256)]),
  S.aC (X.eq (X.v 230) (X.v 256)) [S.ret (X.bool true)] [],
  S.aC (X.eq (X.attr (X.v 219) 172) (X.g 40 (.int 3))) [S.assign (.one 226) (X.attr (X.attr (X.attr (X.v 219) 140) 257) 226),S.aC (X.b4 [(X.eq (X.v 230) (X.g 5 (.int 13))),(X.eq (X.v 256) (X.g 5 (.int 13)))]) [S.ret (X.bool true)] [],S.aC (X.b4 [(X.cv (X.ix (X.ix (X.v 226) (X.v 230)) (X.int 0)) (X.g 53 xr)),(X.cv (X.ix (X.ix (X.v 226) (X.v 256)) (X.int 0)) (X.g 53 xr))]) [S.ret (X.bool false)] [],S.ret (X.call 220 745 [(X.v 219),(X.v 230),(X.v 256)])] [],
  S.assign (.one 264) (X.call 243 787 [(X.v 219),(X.v 230),(X.v 256)]),
  S.aC (X.b4 [(X.eq (X.v 264) (X.int 1)),(X.and_ [(X.eq (X.attr (X.v 219) 172) (X.g 39 (.int 2))),(X.ne (X.v 256) (X.g 21 (.int 2))),(X.eq (X.call 243 787 [(X.v 219),(X.v 256),(X.v 230)]) (X.int 1))])]) [S.ret (X.bool true)] [],
  S.ret (X.and_ [(X.lt (X.v 264) (X.int 0)),(X.call 220 745 [(X.v 219),(X.v 230),(X.v 256)])])]⟩
def Ex:Fn:=⟨[219,230,256],[],[
  S.assign (.one 155) (X.tup [(X.v 230),(X.v 256)]),
  S.aC (X.cv (X.v 155) (X.attr (X.v 219) 158)) [S.ret (X.ix (X.attr (X.v 219) 158) (X.v 155))] [],
  S.aC (X.cv (X.v 155) (X.attr (X.v 219) 100)) [S.ret (X.bool true)] [],
  S.aC (X.and_ [(X.ge (X.attr (X.v 219) 166) (X.g 17 (.int 20000))),(X.not_ (X.call 259 759 [(X.v 219)]))]) [S.ret (X.bool false)] [],
  S.aC (X.b4 [(X.ge (X.attr (X.v 219) 122) (X.g 14 (.int 60))),(X.ge (X.attr (X.v 219) 166) (X.g 17 (.int 20000)))]) [S.ex (X.bh (X.v 219) 183 [(X.g 52 (.int 15))]),S.ret (X.bool true)] [],
  S.JA (X.v 219) 166 (X.int 1),
  S.assign (.one 249) (X.bh (X.v 219) 168 []),
  S.c9 (X.attr (X.v 219) 100) (X.v 155) (X.int 1),
  S.ex (X.bh (X.attr (X.v 219) 268) 93 [(X.v 155)]),
  S.JA (X.v 219) 122 (X.int 1),
  S.assign (.one 92) (X.ite (X.eq (X.attr (X.v 219) 172) (X.g 40 (.int 3))) (X.call 231 871 [(X.v 219),(X.v 230),(X.v 256)]) (X.call 255 829 [(X.v 219),(X.v 230),(X.v 256)])),
  S.T4 (X.v 219) 122 (X.int 1),
  S.aC (X.not_ (X.v 92)) [S.ex (X.call 118 724 [(X.v 219),(X.v 249)]),S.aC (X.b4 [(X.eq (X.ix (X.v 249) (X.int 1)) (X.int 0)),(X.ne (X.attr (X.v 219) 172) (X.g 41 (.int 4)))]) [S.c9 (X.attr (X.v 219) 158) (X.v 155) (X.bool false)] []] [S.aC (X.eq (X.ix (X.v 249) (X.int 1)) (X.int 0)) [S.ex (X.call 115 752 [(X.v 219),(X.eq (X.len (X.attr (X.attr (X.v 219) 184) 226)) (X.ix (X.v 249) (X.int 0)))])] []],
  S.ret (X.v 92)]⟩
def Dh:List S:=[S.Il (X.attr (X.v 219) 100) (X.v 155),S.aC (X.v 114) [S.c9 (X.attr (X.v 219) 158) (X.v 155) (X.bool true)] []]
def Ep:Fn:=⟨[219,114],[],[
  S.ck (.one 155) (It.val (X.attr (X.v 219) 268)) Dh,
  S.setattr (X.v 219) 268 (X.list [])]⟩
def Hq:List S:=[S.aC (X.not_ (X.bh (X.v 219) 97 [(X.ix (X.v 250) (X.v 205)),(X.ix (X.v 269) (X.v 205))])) [S.ret (X.bool false)] []]
def Ik:Fn:=⟨[219,250,269],[],[
  S.ck (.one 205) (It.range (X.len (X.v 250))) Hq,
  S.ret (X.bool true)]⟩
def Fe:Fn:=⟨[87,102],[],[
  S.aC (X.b4 [(X.eq (X.v 87) (X.g 55 (.int 7))),(X.eq (X.v 102) (X.g 55 (.int 7)))]) [S.ret (X.g 35 (.int 1))] [],
  S.aC (X.b4 [(X.cv (X.v 87) (X.g 2 I8)),(X.cv (X.v 102) (X.g 2 I8))]) [S.ret (X.g 32 (.int 2))] [],
  S.aC (X.and_ [(X.eq (X.v 87) (X.g 60 (.int 13))),(X.eq (X.v 102) (X.g 60 (.int 13)))]) [S.ret (X.g 38 (.int 3))] [],
  S.aC (X.and_ [(X.cv (X.v 87) (X.g 11 Gs)),(X.cv (X.v 102) (X.g 11 Gs))]) [S.ret (X.g 34 (.int 4))] [],
  S.ret (X.g 36 (.int 5))]⟩
def D_:List S:=[S.assign (.one 249) (X.bh (X.v 219) 168 []),S.aC (X.bh (X.v 219) 97 [(X.v 230),(X.v 201)]) [S.aC (X.eq (X.len (X.attr (X.attr (X.v 219) 184) 226)) (X.ix (X.v 249) (X.int 0))) [S.ret (X.bool true)] [],S.aC (X.AU (X.v 162) X.none) [S.assign (.one 162) (X.tup [(X.slice (X.attr (X.attr (X.v 219) 184) 226) (some (X.ix (X.v 249) (X.int 0))) none none),(X.slice (X.attr (X.v 219) 268) (some (X.ix (X.v 249) (X.int 1))) none none)])] [],S.ex (X.bh (X.v 219) 103 [(X.v 249)])] []]
def F7:Fn:=⟨[219,230,202],[],[
  S.assign (.one 162) X.none,
  S.ck (.one 201) (It.val (X.v 202)) D_,
  S.aC (X.AU (X.v 162) X.none) [S.ret (X.bool false)] [],
  S.ex (X.call 163 857 [(X.v 219),(X.v 162)]),
  S.ret (X.bool true)]⟩
def uV:Fn:=⟨[219,230,256],[],[
  S.assign (.one 226) (X.attr (X.attr (X.attr (X.v 219) 140) 257) 226),
  S.assign (.one 87) (X.ix (X.v 226) (X.v 230)),
  S.assign (.one 102) (X.ix (X.v 226) (X.v 256)),
  S.aC (X.and_ [(X.eq (X.ix (X.v 87) (X.int 0)) (X.ix (X.v 102) (X.int 0))),(X.b4 [(X.eq (X.ix (X.v 87) (X.int 0)) (X.g 63 (.int 6))),(X.eq (X.ix (X.v 87) (X.int 0)) (X.g 55 (.int 7)))])]) [S.ret (X.and_ [(X.call 127 878 [(X.v 219),(X.ix (X.v 87) (X.int 1)),(X.ix (X.v 102) (X.int 1))]),(X.call 127 878 [(X.v 219),(X.ix (X.v 102) (X.int 1)),(X.ix (X.v 87) (X.int 1))])])] [],
  S.aC (X.b4 [(X.cv (X.ix (X.v 87) (X.int 0)) (X.tup [(X.g 63 (.int 6)),(X.g 55 (.int 7))])),(X.cv (X.ix (X.v 102) (X.int 0)) (X.tup [(X.g 63 (.int 6)),(X.g 55 (.int 7))]))]) [S.ret (X.bool false)] [],
  S.ret (X.call 111 703 [(X.v 219),(X.call 228 836 [(X.ix (X.v 87) (X.int 0)),(X.ix (X.v 102) (X.int 0))]),(X.v 230),(X.v 256)])]⟩
def I5:List S:=[S.aC (X.not_ (X.call 246 850 [(X.v 219),(X.v 230),(X.v 269)])) [S.ret (X.bool false)] []]
def H0:Fn:=⟨[219,250,269],[],[
  S.ck (.one 230) (It.val (X.v 250)) I5,
  S.ret (X.bool true)]⟩
def Jn:Fn:=⟨[225],[],[
  S.ret (X.ite (X.eq (X.ix (X.v 225) (X.int 0)) (X.g 59 (.int 9))) (X.ix (X.v 225) (X.int 1)) (X.int 0))]⟩
def vP:List S:=[S.aC (X.and_ [(X.eq (X.ix (X.v 253) (X.v 242)) (X.v 125)),(X.gt (X.ix (X.v 253) (X.add (X.v 242) (X.int 1))) (X.v 160))]) [S.assign (.one 160) (X.ix (X.v 253) (X.add (X.v 242) (X.int 1))),S.iadd 116 (X.int 1)] []]
def F3:Fn:=⟨[224,242,125,185],[],[
  S.assign (.one 160) (X.neg (X.int 1)),
  S.assign (.one 116) (X.int 0),
  S.ck (.one 253) (It.val (X.v 224)) vP,
  S.ret (X.and_ [(X.gt (X.v 125) (X.int 0)),(X.ge (X.v 116) (X.int 3)),(X.gt (X.v 185) (X.v 160))])]⟩
def Eh:Fn:=⟨[219,230,256],[],[
  S.aC (X.ge (X.len (X.attr (X.v 219) 224)) (X.g 15 (.int 24))) [S.ret (X.bool true)] [],
  S.assign (.one 226) (X.attr (X.attr (X.attr (X.v 219) 140) 257) 226),
  S.aC (X.not_ (X.call 223 915 [(X.attr (X.v 219) 224),(X.int 0),(X.call 126 908 [(X.ix (X.v 226) (X.v 230))]),(X.v 230)])) [S.ret (X.bool false)] [],
  S.ret (X.call 223 915 [(X.attr (X.v 219) 224),(X.int 2),(X.call 126 908 [(X.ix (X.v 226) (X.v 256))]),(X.v 256)])]⟩
def I':Fn:=⟨[219,230,256,280],[],[
  S.aC (X.call 265 922 [(X.v 219),(X.v 230),(X.v 256)]) [S.ex (X.bh (X.v 219) 183 [(X.g 52 (.int 15))]),S.ret (X.bool true)] [],
  S.assign (.one 226) (X.attr (X.attr (X.attr (X.v 219) 140) 257) 226),
  S.ex (X.bh (X.attr (X.v 219) 224) 93 [(X.tup [(X.call 126 908 [(X.ix (X.v 226) (X.v 230))]),(X.v 230),(X.call 126 908 [(X.ix (X.v 226) (X.v 256))]),(X.v 256)])]),
  S.aC (X.eq (X.attr (X.v 219) 172) (X.g 40 (.int 3))) [S.assign (.one 92) (X.call 234 1030 [(X.v 219),(X.v 230),(X.v 256)])] [S.assign (.one 92) (X.call 240 964 [(X.v 219),(X.v 230),(X.v 256),(X.v 280)])],
  S.ex (X.bh (X.attr (X.v 219) 224) 209 []),
  S.ret (X.v 92)]⟩
def Gk:Fn:=⟨[210],[],[
  S.ret (X.ne (X.band (X.ix (X.v 210) (X.int 2)) (X.bor (X.g 30 (.int 2)) (X.g 26 (.int 32)))) (X.int 0))]⟩
def pC:Fn:=⟨[219,230,256],[],[
  S.assign (.one 87) (X.ix (X.attr (X.attr (X.attr (X.v 219) 140) 257) 226) (X.v 230)),
  S.assign (.one 102) (X.ix (X.attr (X.attr (X.attr (X.v 219) 140) 257) 226) (X.v 256)),
  S.aC (X.b4 [(X.cK (X.ix (X.v 87) (X.int 0)) (X.g 45 HJ)),(X.cK (X.ix (X.v 102) (X.int 0)) (X.g 45 HJ))]) [S.ret (X.bool false)] [],
  S.aC (X.and_ [(X.eq (X.ix (X.v 87) (X.int 0)) (X.g 59 (.int 9))),(X.eq (X.ix (X.v 102) (X.int 0)) (X.g 59 (.int 9))),(X.eq (X.ix (X.v 87) (X.int 1)) (X.ix (X.v 102) (X.int 1))),(X.call 91 780 [(X.v 219),(X.ix (X.v 87) (X.int 2)),(X.ix (X.v 102) (X.int 2))])]) [S.ret (X.bool true)] [],
  S.ret (X.call 191 943 [(X.v 219),(X.v 230),(X.v 256),(X.bool false)])]⟩
def Hk:List S:=[S.aC (X.not_ (X.call 233 1037 [(X.v 219),(X.ix (X.ix (X.v 87) (X.int 1)) (X.v 205)),(X.ix (X.ix (X.v 102) (X.int 1)) (X.v 205))])) [S.ret (X.bool false)] []]
def Dp:Fn:=⟨[219,230,256],[],[
  S.assign (.one 140) (X.attr (X.v 219) 140),
  S.assign (.one 87) (X.ix (X.attr (X.attr (X.v 140) 257) 226) (X.bh (X.v 140) 239 [(X.v 230)])),
  S.assign (.one 102) (X.ix (X.attr (X.attr (X.v 140) 257) 226) (X.bh (X.v 140) 239 [(X.v 256)])),
  S.aC (X.ne (X.len (X.ix (X.v 87) (X.int 1))) (X.len (X.ix (X.v 102) (X.int 1)))) [S.ret (X.bool false)] [],
  S.ck (.one 205) (It.range (X.len (X.ix (X.v 87) (X.int 1)))) Hk,
  S.aC (X.and_ [(X.b4 [(X.ne (X.slice (X.v 87) (some (X.int 4)) (some (X.int 6)) none) (X.tup [(X.tup []),(X.tup [])])),(X.ne (X.slice (X.v 102) (some (X.int 4)) (some (X.int 6)) none) (X.tup [(X.tup []),(X.tup [])]))]),(X.not_ (X.call 111 703 [(X.v 219),(X.g 33 (.int 10)),(X.v 230),(X.v 256)]))]) [S.ret (X.bool false)] [],
  S.ret (X.b4 [(X.and_ [(X.eq (X.slice (X.v 87) (some (X.int 2)) (some (X.int 4)) none) (X.tup [(X.tup []),(X.tup [])])),(X.eq (X.slice (X.v 102) (some (X.int 2)) (some (X.int 4)) none) (X.tup [(X.tup []),(X.tup [])]))]),(X.call 111 703 [(X.v 219),(X.g 31 (.int 8)),(X.v 230),(X.v 256)])])]⟩
def Dq:Fn:=⟨[219,197,214],[],[
  S.assign (.one 257) (X.attr (X.attr (X.v 219) 140) 257),
  S.assign (.one 169) (X.bor (X.bor (X.g 27 (.int 1)) (X.g 28 (.int 8))) (X.g 29 (.int 16))),
  S.aC (X.b4 [(X.ne (X.ix (X.v 197) (X.int 0)) (X.ix (X.v 214) (X.int 0))),(X.ne (X.band (X.ix (X.v 197) (X.int 2)) (X.v 169)) (X.band (X.ix (X.v 214) (X.int 2)) (X.v 169))),(X.ne (X.ix (X.v 197) (X.int 3)) (X.ix (X.v 214) (X.int 3)))]) [S.ret (X.bool false)] [],
  S.ret (X.and_ [(X.eq (X.call 150 950 [(X.v 197)]) (X.call 150 950 [(X.v 214)])),(X.bh (X.v 219) 97 [(X.call 216 571 [(X.v 257),(X.v 197)]),(X.call 216 571 [(X.v 257),(X.v 214)])])])]⟩
def EM:Fn:=⟨[237,219,230,256],[],[
  S.aC (X.eq (X.attr (X.v 219) 172) (X.g 40 (.int 3))) [S.ret (X.call 232 1023 [(X.v 219),(X.v 230),(X.v 256)])] [],
  S.ret (X.call 188 929 [(X.v 219),(X.v 230),(X.v 256),(X.bool true)])]⟩
def DP:Fn:=⟨[219],[],[
  S.c9 (X.attr (X.v 219) 229) (X.g 36 (.int 5)) (X.C3 44 1061)]⟩
def Dy:Fn:=⟨[219],[],[
  S.c9 (X.attr (X.v 219) 229) (X.g 37 (.int 11)) (X.C3 42 1101)]⟩
def EJ:Fn:=⟨[119,176],[],[
  S.assign (.one 101) (X.ix (X.v 119) (X.int 0)),
  S.c9 (X.v 119) (X.int 0) (X.add (X.v 101) (X.int 1)),
  S.ret (X.mod (X.add (X.ix (X.ix (X.v 119) (X.int 1)) (X.mod (X.v 101) (X.len (X.ix (X.v 119) (X.int 1))))) (X.mul (X.int 31) (X.fdiv (X.v 101) (X.len (X.ix (X.v 119) (X.int 1)))))) (X.v 176))]⟩
def Gw:List S:=[S.assign (.one 105) (X.bor (X.v 105) (X.v 245)),S.iadd 261 (X.comp (X.v 142) (.one 142) (It.val (X.v 173)) (some (X.cK (X.v 142) (X.v 261))))]
def Ic:Fn:=⟨[157],[],[
  S.assign (.one 105) (X.int 0),
  S.assign (.one 261) (X.list []),
  S.ck (.many [245,173]) (It.val (X.v 157)) Gw,
  S.aC (X.band (X.v 105) (X.int 96)) [S.ret (X.tup [(X.ite (X.band (X.v 105) (X.int 32)) (X.int 32) (X.int 64)),(X.tup [])])] [],
  S.aC (X.band (X.v 105) (X.int 4)) [S.assign (.one 105) (X.band (X.v 105) (X.invert (X.int 129)))] [],
  S.aC (X.band (X.v 105) (X.int 1)) [S.assign (.one 105) (X.band (X.v 105) (X.invert (X.int 128)))] [],
  S.ret (X.tup [(X.v 105),(X.tupleOf (X.v 261))])]⟩
def II:List S:=[S.ex (X.bh (X.v 261) 93 [(X.ite (X.gt (X.v 153) (X.int 2)) (X.tup [(X.sub (X.int 7) (X.v 153)),(X.tup [])]) (X.tup [(X.v 153),(X.tupleOf (X.comp (X.call 84 1178 [(X.v 94)]) (.one 94) (It.val (X.v 96)) none))]))])]
def sY:Fn:=⟨[156],[],[
  S.assign (.one 105) (X.bxor (X.ix (X.v 156) (X.int 0)) (X.ite (X.band (X.ix (X.v 156) (X.int 0)) (X.int 129)) (X.int 129) (X.int 0))),
  S.assign (.one 261) (X.list []),
  S.ck (.many [153,96]) (It.val (X.ix (X.v 156) (X.int 1))) II,
  S.ret (X.tup [(X.v 105),(X.tupleOf (X.v 261))])]⟩
def C8:Fn:=⟨[119,156],[],[
  S.assign (.one 141) (X.call 67 1168 [(X.v 119),(X.int 4)]),
  S.assign (.one 193) (X.ix (X.g 75 o3) (X.call 67 1168 [(X.v 119),(X.int 16)])),
  S.aC (X.eq (X.v 141) (X.int 3)) [S.ret (X.call 69 1173 [(X.list [(X.v 156),(X.tup [(X.int 16),(X.tup [])])])])] [],
  S.ret (X.ite (X.eq (X.v 141) (X.int 0)) (X.v 156) (X.ite (X.eq (X.v 141) (X.int 1)) (X.v 193) (X.call 84 1178 [(X.v 156)])))]⟩
def zQ:List S:=[S.assign (.one 141) (X.ix (X.tup [(X.int 0),(X.int 4),(X.int 1),(X.int 2),(X.int 3),(X.int 5),(X.int 6),(X.int 7),(X.int 8),(X.int 9)]) (X.call 67 1168 [(X.v 119),(X.int 10)])),S.assign (.one 169) (X.ix (X.tup [(X.int 0),(X.int 0),(X.int 1),(X.int 2),(X.int 4),(X.int 32),(X.int 8),(X.int 0)]) (X.call 67 1168 [(X.v 119),(X.int 8)])),S.ex (X.bh (X.v 130) 93 [(X.tup [(X.v 177),(X.v 141),(X.v 169),(X.ite (X.eq (X.v 169) (X.int 8)) (X.int 1) (X.int 0))])])]
def lP:Fn:=⟨[119],[],[
  S.assign (.one 277) (X.Tb "n" (X.ix (X.tup [(X.int 2),(X.int 2),(X.int 1)]) (X.call 67 1168 [(X.v 119),(X.int 3)]))),
  S.assign (.one 130) (X.list []),
  S.ck (.one 177) (It.val (X.slice (X.str "nvw") none (some (X.add (X.int 1) (X.call 67 1168 [(X.v 119),(X.int 3)]))) none)) zQ,
  S.jy 236 (X.v 225) (.one 225) (It.val (X.v 130)) none,
  S.assign (.one 112) (X.call 67 1168 [(X.v 119),(X.int 10)]),
  S.assign (.one 101) (X.call 67 1168 [(X.v 119),(X.len (X.v 130))]),
  S.assign (.one 284) (X.call 67 1168 [(X.v 119),(X.int 10)]),
  S.assign (.many [177,141,169,196]) (X.ix (X.v 130) (X.v 101)),
  S.aC (X.b4 [(X.eq (X.v 112) (X.int 1)),(X.eq (X.v 112) (X.int 2))]) [S.assign (.one 169) (X.bxor (X.v 169) (X.v 112))] [S.aC (X.eq (X.v 112) (X.int 3)) [S.assign (.one 169) (X.bxor (X.v 169) (X.ite (X.band (X.v 169) (X.int 34)) (X.int 34) (X.int 4)))] [S.aC (X.eq (X.v 112) (X.int 4)) [S.assign (.one 141) (X.v 284)] [S.aC (X.eq (X.v 112) (X.int 5)) [S.swap 169 196 (X.bor (X.v 169) (X.int 8)) (X.add (X.int 1) (X.v 196))] []]]],
  S.c9 (X.v 236) (X.v 101) (X.tup [(X.v 177),(X.v 141),(X.v 169),(X.v 196)]),
  S.c9 (X.v 277) (X.str "rows") (X.list [(X.v 130),(X.ite (X.and_ [(X.eq (X.v 112) (X.int 6)),(X.gt (X.len (X.v 236)) (X.int 1))]) (X.slice (X.v 236) (some (X.int 1)) none none) (X.v 236))]),
  S.c9 (X.v 277) (X.str "box") (X.list [(X.tup [(X.str "z"),(X.ix (X.tup [(X.int 0),(X.int 2),(X.int 1),(X.int 0)]) (X.call 67 1168 [(X.v 119),(X.int 4)])),(X.ix (X.tup [(X.int 0),(X.int 1),(X.int 2),(X.int 0)]) (X.call 67 1168 [(X.v 119),(X.int 4)])),(X.int 0)])]),
  S.c9 (X.v 277) (X.str "self") (X.call 67 1168 [(X.v 119),(X.int 2)]),
  S.c9 (X.v 277) (X.str "signs") (X.comp (X.call 67 1168 [(X.v 119),(X.int 5)]) (.one 142) (It.range (X.int 5)) none),
  S.ret (X.v 277)]⟩
def yx:Fn:=⟨[277,153,141,96],[],[
  S.assign (.one 195) (X.ite (X.eq (X.v 153) (X.int 1)) (X.ix (X.v 277) (X.str "self")) (X.int 0)),
  S.assign (.one 130) (X.ix (X.v 96) (X.int 0)),
  S.assign (.one 160) (X.ix (X.v 96) (X.neg (X.int 1))),
  S.aC (X.b4 [(X.eq (X.v 141) (X.int 0)),(X.eq (X.v 141) (X.int 5))]) [S.ret (X.ite (X.eq (X.v 141) (X.int 0)) (X.v 130) (X.v 160))] [],
  S.aC (X.eq (X.v 141) (X.int 2)) [S.ret (X.call 69 1173 [(X.list [(X.v 130),(X.tup [(X.int 9),(X.tup [])])])])] [],
  S.aC (X.b4 [(X.eq (X.v 141) (X.int 4)),(X.eq (X.v 141) (X.int 6))]) [S.ret (X.tup [(X.int 0),(X.tup [(X.tup [(X.v 195),(X.ite (X.eq (X.v 141) (X.int 4)) (X.v 96) (X.slice (X.v 96) none none (some (X.neg (X.int 1)))))])])])] [],
  S.aC (X.eq (X.v 141) (X.int 8)) [S.ret (X.call 69 1173 [(X.list [(X.tup [(X.int 0),(X.tup [(X.tup [(X.int 2),(X.tup [(X.v 160)])])])]),(X.v 130)])])] [],
  S.aC (X.eq (X.v 141) (X.int 7)) [S.ret (X.tup [(X.int 0),(X.tup [(X.tup [(X.int 3),(X.tup [])])])])] [],
  S.aC (X.b4 [(X.eq (X.v 141) (X.int 3)),(X.eq (X.v 141) (X.int 9))]) [S.ret (X.tup [(X.int 0),(X.tup [(X.tup [(X.int 2),(X.tup [(X.ite (X.eq (X.v 141) (X.int 3)) (X.v 130) (X.tup [(X.int 1),(X.tup [])]))])])])])] [],
  S.ret (X.tup [(X.int 1),(X.tup [])])]⟩
def zX:Fn:=⟨[277,260],[],[
  S.assign (.many [153,96]) (X.v 260),
  S.aC (X.b4 [(X.eq (X.v 153) (X.int 3)),(X.eq (X.v 153) (X.int 4))]) [S.ret (X.list [(X.tup [(X.str "p"),(X.tup [(X.int 1),(X.tup [])]),(X.int 0),(X.int 0)])])] [],
  S.assign (.one 226) (X.ite (X.eq (X.v 153) (X.int 2)) (X.ix (X.v 277) (X.str "box")) (X.ix (X.ix (X.v 277) (X.str "rows")) (X.ite (X.eq (X.v 153) (X.int 1)) (X.int 1) (X.int 0)))),
  S.ret (X.comp (X.tup [(X.v 177),(X.call 66 1197 [(X.v 277),(X.v 153),(X.v 141),(X.v 96)]),(X.v 169),(X.v 196)]) (.many [177,141,169,196]) (It.val (X.v 226)) none)]⟩
def Eg:Fn:=⟨[225],[],[
  S.ret (X.ite (X.band (X.ix (X.v 225) (X.int 2)) (X.int 1)) (X.call 69 1173 [(X.list [(X.ix (X.v 225) (X.int 1)),(X.tup [(X.int 16),(X.tup [])])])]) (X.ix (X.v 225) (X.int 1)))]⟩
def G4:Fn:=⟨[226],[],[
  S.ret (X.comp (X.tup [(X.v 177),(X.band (X.v 169) (X.int 25)),(X.gt (X.band (X.v 169) (X.int 34)) (X.int 0)),(X.v 196)]) (.many [177,156,169,196]) (It.val (X.v 226)) none)]⟩
def yp:Fn:=⟨[277,283,284],[],[
  S.assign (.one 194) (X.list []),
  S.aC (X.and_ [(X.eq (X.ix (X.v 283) (X.int 0)) (X.ix (X.v 284) (X.int 0))),(X.lt (X.ix (X.v 283) (X.int 0)) (X.int 3))]) [S.ex (X.bh (X.v 194) 93 [(X.comp (X.tup [(X.ix (X.ix (X.v 283) (X.int 1)) (X.v 142)),(X.ix (X.ix (X.v 284) (X.int 1)) (X.v 142))]) (.one 142) (It.range (X.len (X.ix (X.v 283) (X.int 1)))) none)])] [],
  S.assign (.one 230) (X.call 79 1202 [(X.v 277),(X.v 283)]),
  S.assign (.one 256) (X.call 79 1202 [(X.v 277),(X.v 284)]),
  S.aC (X.eq (X.call 68 1214 [(X.v 230)]) (X.call 68 1214 [(X.v 256)])) [S.ex (X.bh (X.v 194) 93 [(X.comp (X.tup [(X.call 76 1209 [(X.ix (X.v 230) (X.v 142))]),(X.call 76 1209 [(X.ix (X.v 256) (X.v 142))])]) (.one 142) (It.range (X.len (X.v 230))) none)])] [],
  S.ret (X.v 194)]⟩
def Ho:Fn:=⟨[283,284,90],[],[
  S.ret (X.b4 [(X.eq (X.v 283) (X.v 284)),(X.cv (X.tup [(X.v 283),(X.v 284)]) (X.v 90))])]⟩
def Bx:Fn:=⟨[156],[],[
  S.ret (X.bor (X.band (X.ix (X.v 156) (X.int 0)) (X.int 127)) (X.shr (X.ix (X.v 156) (X.int 0)) (X.int 7)))]⟩
def HD:Fn:=⟨[156],[],[
  S.ret (X.gt (X.add (X.len (X.ix (X.v 156) (X.int 1))) (X.len (X.comp (X.v 153) (.one 153) (It.range (X.int 8)) (some (X.band (X.shr (X.call 65 1233 [(X.v 156)]) (X.v 153)) (X.int 1)))))) (X.int 1))]⟩
def Gf:Fn:=⟨[87,102,90],[],[
  S.aC (X.band (X.bor (X.ix (X.v 87) (X.int 0)) (X.ix (X.v 102) (X.int 0))) (X.int 64)) [S.ret (X.bool true)] [],
  S.aC (X.b4 [(X.ne (X.call 65 1233 [(X.v 87)]) (X.call 65 1233 [(X.v 102)])),(X.ne (X.call 72 1238 [(X.v 87)]) (X.call 72 1238 [(X.v 102)]))]) [S.ret (X.bool false)] [],
  S.jy 147 (X.v 283) (.one 283) (It.val (X.ix (X.v 87) (X.int 1))) (some (X.cv (X.bool true) (X.comp (X.call 71 1226 [(X.v 283),(X.v 284),(X.v 90)]) (.one 284) (It.val (X.ix (X.v 102) (X.int 1))) none))),
  S.jy 190 (X.v 284) (.one 284) (It.val (X.ix (X.v 102) (X.int 1))) (some (X.cv (X.bool true) (X.comp (X.call 71 1226 [(X.v 283),(X.v 284),(X.v 90)]) (.one 283) (It.val (X.ix (X.v 87) (X.int 1))) none))),
  S.ret (X.and_ [(X.eq (X.len (X.v 147)) (X.len (X.ix (X.v 87) (X.int 1)))),(X.eq (X.len (X.v 190)) (X.len (X.ix (X.v 102) (X.int 1))))])]⟩
def xq:List S:=[S.aC (X.cv (X.ix (X.v 199) (X.v 142)) (X.v 90)) [S.aC (X.cv (X.bool true) (X.comp (X.cK (X.bool false) (X.comp (X.call 80 1243 [(X.v 87),(X.v 102),(X.v 90)]) (.many [87,102]) (It.val (X.v 224)) none)) (.one 224) (It.val (X.ix (X.v 279) (X.v 142))) none)) [S.ex (X.bh (X.v 164) 93 [(X.ix (X.v 199) (X.v 142))])] []] []]
def Ht:List S:=[S.assign (.one 164) (X.list []),S.ck (.one 142) (It.range (X.len (X.v 199))) xq,S.aC (X.eq (X.len (X.v 164)) (X.len (X.v 90))) [S.ret (X.v 90)] [],S.assign (.one 90) (X.v 164)]
def Gb:List S:=[S.iadd 263 (X.v 224)]
def xC:List S:=[S.aC (X.and_ [(X.ne (X.v 283) (X.v 284)),(X.cK (X.tup [(X.v 283),(X.v 284)]) (X.v 199))]) [S.ex (X.bh (X.v 199) 93 [(X.tup [(X.v 283),(X.v 284)])]),S.ex (X.bh (X.v 279) 93 [(X.call 78 1219 [(X.v 277),(X.v 283),(X.v 284)])]),S.ck (.one 224) (It.val (X.ix (X.v 279) (X.neg (X.int 1)))) Gb] []]
def B9:List S:=[S.ck (.one 284) (It.val (X.ix (X.v 102) (X.int 1))) xC]
def GA:List S:=[S.assign (.many [87,102]) (X.ix (X.v 263) (X.v 101)),S.iadd 101 (X.int 1),S.ck (.one 283) (It.val (X.ix (X.v 87) (X.int 1))) B9]
def Bm:Fn:=⟨[277,99],[],[
  S.jy 263 (X.v 198) (.one 198) (It.val (X.v 99)) none,
  S.assign (.one 199) (X.list []),
  S.assign (.one 279) (X.list []),
  S.assign (.one 101) (X.int 0),
  S.GC 1000000 (X.lt (X.v 101) (X.len (X.v 263))) GA,
  S.assign (.one 90) (X.v 199),
  S.ck (.one 159) (It.range (X.add (X.len (X.v 199)) (X.int 1))) Ht,
  S.ret (X.v 90)]⟩
def Hh:Fn:=⟨[257,277,226],[],[
  S.ret (X.call 187 222 [(X.v 257),(X.comp (X.tup [(X.v 177),(X.call 85 1263 [(X.v 257),(X.v 277),(X.v 156)]),(X.v 169),(X.v 196)]) (.many [177,156,169,196]) (It.val (X.v 226)) none)])]⟩
def tA:Fn:=⟨[257,277,260],[],[
  S.aC (X.eq (X.ix (X.v 260) (X.int 0)) (X.int 9)) [S.ret (X.ix (X.ix (X.v 277) (X.str "params")) (X.ix (X.v 260) (X.int 1)))] [],
  S.aC (X.b4 [(X.eq (X.ix (X.v 260) (X.int 0)) (X.int 4)),(X.eq (X.ix (X.v 260) (X.int 0)) (X.int 6))]) [S.ret (X.call 74 1253 [(X.v 257),(X.v 277),(X.call 79 1202 [(X.v 277),(X.v 260)])])] [],
  S.ret (X.bh (X.v 257) 212 [(X.tup [(X.int 9),(X.ix (X.ix (X.v 277) (X.str "dids")) (X.ix (X.v 260) (X.int 0))),(X.tupleOf (X.comp (X.call 85 1263 [(X.v 257),(X.v 277),(X.v 94)]) (.one 94) (It.val (X.ix (X.v 260) (X.int 1))) none))])])]⟩
def Hw:Fn:=⟨[257,277,156],[],[
  S.jy 202 (X.call 83 1258 [(X.v 257),(X.v 277),(X.v 260)]) (.one 260) (It.val (X.ix (X.v 156) (X.int 1))) none,
  S.assign (.one 275) (X.tup [(X.bh (X.v 257) 212 [(X.tup [(X.int 3),(X.str "a"),(X.int 0)])]),(X.bh (X.v 257) 212 [(X.tup [(X.int 4),(X.int 1),(X.int 0)])]),(X.g 46 (.int 6)),(X.g 22 (.int 5)),(X.g 50 (.int 4)),(X.g 0 (.int 0)),(X.g 5 (.int 13)),(X.bh (X.v 257) 212 [(X.tup [(X.int 3),(X.str "a"),(X.int 1)])])]),
  S.ret (X.call 274 291 [(X.v 257),(X.add (X.v 202) (X.comp (X.ix (X.v 275) (X.v 153)) (.one 153) (It.range (X.int 8)) (some (X.band (X.shr (X.ix (X.v 156) (X.int 0)) (X.v 153)) (X.int 1)))))])]⟩
def wH:List S:=[S.jy 206 (X.add (X.mul (X.int 2) (X.v 153)) (X.v 142)) (.one 142) (It.range (X.ite (X.lt (X.v 153) (X.int 2)) (X.ix (X.v 277) (X.str "n")) (X.int 1))) none,S.setattr (X.ix (X.v 121) (X.v 153)) 200 (X.tupleOf (X.comp (X.ix (X.ix (X.attr (X.v 257) 226) (X.ix (X.ix (X.v 277) (X.str "params")) (X.v 142))) (X.int 1)) (.one 142) (It.val (X.v 206)) none)),S.setattr (X.ix (X.v 121) (X.v 153)) 106 (X.call 74 1253 [(X.v 257),(X.v 277),(X.call 79 1202 [(X.v 277),(X.tup [(X.v 153),(X.tupleOf (X.comp (X.tup [(X.int 0),(X.tup [(X.tup [(X.int 9),(X.v 142)])])]) (.one 142) (It.val (X.v 206)) none))])])]),S.setattr (X.ix (X.v 121) (X.v 153)) 276 (X.comp (X.ix (X.ix (X.v 277) (X.str "signs")) (X.v 142)) (.one 142) (It.val (X.v 206)) none)]
def yZ:Fn:=⟨[257,277],[],[
  S.jy 121 (X.call 179 244 [(X.v 257),(X.int 2),(X.str "D")]) (.one 153) (It.range (X.int 4)) none,
  S.c9 (X.v 277) (X.str "dids") (X.comp (X.attr (X.v 120) 125) (.one 120) (It.val (X.v 121)) none),
  S.c9 (X.v 277) (X.str "params") (X.comp (X.call 180 237 [(X.v 257),(X.str "T")]) (.one 142) (It.range (X.int 5)) none),
  S.ck (.one 153) (It.val (X.tup [(X.int 0),(X.int 1),(X.int 2)])) wH,
  S.setattr (X.ix (X.v 121) (X.int 3)) 106 (X.call 74 1253 [(X.v 257),(X.v 277),(X.call 79 1202 [(X.v 277),(X.tup [(X.int 3),(X.tup [])])])])]⟩
def FP:Fn:=⟨[140],[],[
  S.assign (.one 219) (X.new 43 692 647 [(X.v 140),(X.int 3)]),
  S.ex (X.call 144 1070 [(X.v 219)]),
  S.ex (X.call 145 1110 [(X.v 219)]),
  S.ret (X.v 219)]⟩
def DQ:Fn:=⟨[219],[],[
  S.ret (X.and_ [(X.eq (X.attr (X.attr (X.v 219) 184) 226) (X.list [])),(X.eq (X.attr (X.v 219) 268) (X.list [])),(X.eq (X.attr (X.v 219) 100) (X.g9 .tup)),(X.eq (X.attr (X.v 219) 224) (X.list [])),(X.eq (X.attr (X.v 219) 122) (X.int 0))])]⟩
def EK:List S:=[S.aC (X.b4 [(X.ne (X.bh (X.v 219) 97 [(X.v 256),(X.v 230)]) (X.v 278)),(X.not_ (X.call 81 1282 [(X.v 219)]))]) [S.ret (X.bool false)] []]
def Gn:List S:=[S.assign (.one 193) (X.call 77 1275 [(X.v 140)]),S.aC (X.b4 [(X.ne (X.bh (X.v 219) 97 [(X.v 230),(X.v 256)]) (X.v 278)),(X.ne (X.bh (X.v 193) 97 [(X.v 256),(X.v 230)]) (X.v 278)),(X.not_ (X.call 81 1282 [(X.v 219)])),(X.not_ (X.call 81 1282 [(X.v 193)]))]) [S.ret (X.bool false)] []]
def xb:List S:=[S.assign (.one 219) (X.call 77 1275 [(X.v 140)]),S.assign (.one 230) (X.call 83 1258 [(X.v 257),(X.v 277),(X.v 283)]),S.aC (X.ne (X.call 232 1023 [(X.v 219),(X.v 230),(X.call 83 1258 [(X.v 257),(X.v 277),(X.v 284)])]) (X.call 71 1226 [(X.v 283),(X.v 284),(X.v 90)])) [S.ret (X.bool false)] [],S.aC (X.b4 [(X.call 232 1023 [(X.v 219),(X.g 22 (.int 5)),(X.v 230)]),(X.call 232 1023 [(X.v 219),(X.v 230),(X.g 22 (.int 5))]),(X.not_ (X.call 81 1282 [(X.v 219)]))]) [S.ret (X.bool false)] []]
def Gh:List S:=[S.ck (.one 284) (It.val (X.v 262)) xb]
def JC:List S:=[S.ex (X.bh (X.v 225) 93 [(X.tup [(X.call 85 1263 [(X.v 257),(X.v 277),(X.v 87)]),(X.call 85 1263 [(X.v 257),(X.v 277),(X.v 102)]),(X.call 80 1243 [(X.v 87),(X.v 102),(X.v 90)])])])]
def lE:Fn:=⟨[235],[],[
  S.jy 186 (X.mod (X.v 283) (X.int 9973)) (.one 283) (It.val (X.slice (X.v 235) none (some (X.int 40)) none)) none,
  S.aC (X.eq (X.len (X.v 186)) (X.int 0)) [S.assign (.one 186) (X.list [(X.int 0),(X.int 1),(X.int 0),(X.int 0),(X.int 1),(X.int 0),(X.int 0),(X.int 0),(X.int 0),(X.int 0),(X.int 0),(X.int 1),(X.int 2),(X.int 2),(X.int 3),(X.int 1),(X.int 1),(X.int 2),(X.int 0),(X.int 2),(X.int 0),(X.int 1),(X.int 1),(X.int 3),(X.int 0)])] [],
  S.assign (.one 119) (X.list [(X.int 0),(X.v 186)]),
  S.assign (.one 277) (X.call 86 1190 [(X.v 119)]),
  S.assign (.one 137) (X.list [(X.ix (X.g 75 o3) (X.call 67 1168 [(X.v 119),(X.int 16)])),(X.ix (X.g 75 o3) (X.call 67 1168 [(X.v 119),(X.int 16)]))]),
  S.assign (.one 189) (X.tupleOf (X.slice (X.v 137) none (some (X.ix (X.v 277) (X.str "n"))) none)),
  S.assign (.one 273) (X.tupleOf (X.comp (X.call 73 1185 [(X.v 119),(X.v 156)]) (.one 156) (It.val (X.v 189)) none)),
  S.assign (.one 132) (X.call 67 1168 [(X.v 119),(X.int 6)]),
  S.assign (.one 282) (X.call 67 1168 [(X.v 119),(X.int 4)]),
  S.assign (.one 262) (X.ix (X.tup [(X.tup [(X.tup [(X.int 1),(X.v 189)])]),(X.tup [(X.tup [(X.int 1),(X.v 273)])]),(X.tup [(X.tup [(X.int 6),(X.v 189)])]),(X.tup [(X.tup [(X.int 6),(X.v 273)])]),(X.tup [(X.tup [(X.int 1),(X.v 189)]),(X.tup [(X.int 0),(X.v 273)])]),(X.tup [(X.tup [(X.int 0),(X.slice (X.v 189) none none (some (X.neg (X.int 1))))])])]) (X.v 132)),
  S.assign (.one 130) (X.tup [(X.ix (X.tup [(X.int 0),(X.int 0),(X.int 8),(X.int 8)]) (X.v 282)),(X.tup [(X.tup [(X.int 0),(X.v 189)])])]),
  S.assign (.one 222) (X.ix (X.tup [(X.int 0),(X.int 0),(X.int 8),(X.int 0)]) (X.v 282)),
  S.assign (.one 99) (X.list [(X.tup [(X.ix (X.v 189) (X.int 0)),(X.ix (X.v 273) (X.int 0))]),(X.tup [(X.v 130),(X.tup [(X.v 222),(X.tup [(X.tup [(X.int 0),(X.v 273)])])])]),(X.tup [(X.v 130),(X.tup [(X.v 222),(X.v 262)])]),(X.tup [(X.tup [(X.v 222),(X.tup [(X.tup [(X.int 0),(X.v 273)])])]),(X.tup [(X.v 222),(X.v 262)])])]),
  S.assign (.one 90) (X.call 82 1248 [(X.v 277),(X.v 99)]),
  S.assign (.one 257) (X.new 49 180 163 []),
  S.ex (X.call 70 1268 [(X.v 257),(X.v 277)]),
  S.assign (.one 140) (X.new 1 541 517 [(X.v 257)]),
  S.assign (.one 225) (X.list []),
  S.ck (.many [87,102]) (It.val (X.v 99)) JC,
  S.ck (.one 283) (It.val (X.add (X.ix (X.ix (X.ix (X.v 99) (X.int 1)) (X.int 0)) (X.int 1)) (X.ix (X.ix (X.ix (X.v 99) (X.int 1)) (X.int 1)) (X.int 1)))) Gh,
  S.assign (.one 219) (X.call 77 1275 [(X.v 140)]),
  S.ck (.many [230,256,278]) (It.val (X.v 225)) Gn,
  S.ck (.many [230,256,278]) (It.val (X.slice (X.v 225) none none (some (X.neg (X.int 1))))) EK,
  S.ret (X.bool true)]⟩
def r_:List (Addr×Fn):=[(96,JI),(163,C'),(210,Iv),(258,E3),(272,Hi),(286,Iw),(675,BG),(908,Jn),(950,Gk),(1070,DP),(1110,Dy),(1173,Ic),(1178,sY),(1190,lP),(1209,Eg),(1214,G4),(1233,Bx),(1238,HD),(1275,FP),(1282,DQ),(1287,lE)]
def rO:List (Addr×Fn):=[(177,vM),(222,Hs),(237,HO),(251,IJ),(265,GN),(291,oU),(298,BN),(305,BK),(319,FN),(326,Dj),(334,Af),(344,xh),(351,tM),(377,Hu),(517,Fy),(538,Ct),(571,G'),(724,Am),(731,Hm),(752,Ep),(836,Fe),(1168,EJ),(1185,C8),(1202,zX),(1248,Bm),(1268,yZ)]
def s8:List (Addr×Fn):=[(244,CH),(279,HL),(339,pG),(647,AH),(654,BC),(738,xI),(745,Ex),(780,Ik),(850,F7),(871,uV),(878,H0),(922,Eh),(1023,pC),(1030,Dp),(1037,Dq),(1219,yp),(1226,Ho),(1243,Gf),(1253,Hh),(1258,tA),(1263,Hw)]
def rW:List (Addr×Fn):=[(198,Az),(703,BF),(915,F3),(943,I'),(1051,EM),(1197,yx)]
def W9:List (Addr×Fn):=r_++(rO++(s8++(rW)))
def xp(a:Addr):Option Fn:=W9.lookup a
def C(n:Nat)(f:Addr)(vs:List AV)(Q:PX)(σ:Sg):Prop:=gL xp n f vs Q σ
abbrev aH(n:Nat):aR:=λk=>C (n-k)
theorem fn(fn)(h:xp f=some fn)(a:vs.length+fn.defs.length=fn.params.length)
  (k:bH (aH n) fn.body (hS fn.params (vs++fn.defs)) (cL Q) σ):C (n+1) f vs Q σ:=XH fn h a k
end W
section
open Mine.Internal.H (FO HF lf)
noncomputable def Em(e:Data)(p:FuncData->Bool):Bool:=if h:e.ctorIdx=7 then Data.func.elim e h p else false
theorem LO(h:Em e p=true):∃x,e=.func x/\p x=true:=(cu h).elim (Data.func.elim (motive:=λe=>∀x,Data.func.elim e x p=true->∃x,e=.func x/\p x=true) e (cy h) λx J y=>⟨x,Y,y⟩)
noncomputable def Fv(e:Data)(p:Array Value->Bool):Bool:=if h:e.ctorIdx=9 then Data.fields.elim e h p else false
theorem Nq(h:Fv e p=true):∃x,e=.fields x/\p x=true:=(cu h).elim (Data.fields.elim (motive:=λe=>∀x,Data.fields.elim e x p=true->∃x,e=.fields x/\p x=true) e (cy h) λx J y=>⟨x,Y,y⟩)
noncomputable def JR(e:Data)(p:Array Value->Bool):Bool:=if h:e.ctorIdx=2 then Data.seq.elim (motive:=λJ=>Bool) e h (λa J=>p a) else false
theorem VU(h:JR e p=true):∃x n,e=.seq x n/\p x=true:=(cu h).elim (Data.seq.elim (motive:=λe=>∀x,Data.seq.elim e x _=true->∃x n,e=.seq x n/\p x=true) e (cy h) λx n J y=>⟨x,n,Y,y⟩)
noncomputable def H_(e:Data)(p:Array DictEntry->Bool):Bool:=if h:e.ctorIdx=3 then Data.dict.elim (motive:=λJ=>Bool) e h (λa J=>p a) else false
theorem DU(h:H_ e p=true):∃x n,e=.dict x n/\p x=true:=(cu h).elim (Data.dict.elim (motive:=λe=>∀x,Data.dict.elim e x _=true->∃x n,e=.dict x n/\p x=true) e (cy h) λx n J y=>⟨x,n,Y,y⟩)
noncomputable def sx(v:Value)(p:Addr->Bool):Bool:=match v with
 |.ref a=>p a
 |_=>false
theorem y2(h:sx v p=true):∃a,v=.ref a/\p a=true:=by
 cases v with
 |ref a=>exact⟨a,Y,h⟩
 |_=>cases aaY h
def nG(P:Params)(a:Addr)(p:Obj->Bool):Bool:=((FO P)[a]?).any p
theorem nH(h:nG P a p=true):∃o,(FO P)[a]?=some o/\p o=true:=any_some h
theorem Ak(h:(FO P)[a]?=some o)(b:o.isFreed=false):(HF P).get? a=some o:=by
 unfold HF Heap.get?;rw[List.getElem?_toArray,h];obtain⟨c,d,dt,sl⟩:=o;cases dt<;>first|rfl|exact absurd b.symm aaY
theorem live{o:Obj}{d}(h:o.data=d)(n:(d.ctorIdx==10)=false):o.isFreed=false:=by
 obtain⟨c,e,dt,sl⟩:=o;subst h;cases dt<;>first|rfl|assumption
theorem qr(h:(FO P)[a]?=some o)(b:o.data=d)(n:(d.ctorIdx==10)=false):(HF P).get? a=some o:=Ak h (live b n)
def yq(P:Params)(v:Value)(p:List Value->Bool):Bool:=sx v λa=>nG P a λo=>(o.cls==.type "tuple"&&(o.dict.isNone&&o.slots.toList.isEmpty))&&JR o.data λvs=>p vs.toList
theorem YD(h:yq P v p=true):∃a vs n,v=.ref a/\(HF P).get? a=some (fg vs n)/\p vs.toList=true:=by
 obtain⟨a,e,h⟩:=y2 h;obtain⟨o,f,h⟩:=nH h;obtain⟨vs,n,b,hp⟩:=VU (af h).2;have i:=qr f b Y;obtain⟨c,d,dt,sl⟩:=o;have m:=abc.mp (af (af h).1).1;have l:d=none:=Option.isNone_iff_eq_none.mp (af (af (af h).1).2).1;have j:sl=#[]:=Array.toList_eq_nil_iff.mp (abD.mp (af (af (af h).1).2).2);subst m l j b;exact⟨a,vs,n,e,i,hp⟩
def DV(P:Params):AV->Value->Bool:=@AV.rec (λJ=>Value->Bool) (λJ=>List Value->Bool) (λv=>v==.none) (λb v=>v==.bool b) (λi v=>Value.isInt i v) (λx v=>Value.isStrOf x v) (λJ p v=>yq P v p) (λJ J=>false) (λx v=>v==x) (λvs=>vs.isEmpty) (λJ J p q vs=>match vs with|[]=>false|v::r=>p v&&q r)
def xt(P:Params):List AV->List Value->Bool:=@AV.rec_1 (λJ=>Value->Bool) (λJ=>List Value->Bool) (λv=>v==.none) (λb v=>v==.bool b) (λi v=>Value.isInt i v) (λx v=>Value.isStrOf x v) (λJ p v=>yq P v p) (λJ J=>false) (λx v=>v==x) (λvs=>vs.isEmpty) (λJ J p q vs=>match vs with|[]=>false|v::r=>p v&&q r)
theorem Bn(P):(∀x v,DV P x v=true->RV (HF P) [] x v)/\∀l vs,xt P l vs=true->ak (HF P) [] l vs:=
 AV.ind (λv=>abc.mp) (λb v=>abc.mp) (λi v=>Value.isInt_shape) (λx v=>Value.isStrOf_shape) (λl i v h=>(YD h).imp λa q=>q.imp λvs q=>q.imp λn q=>⟨q.1,q.2.1,i _ q.2.2⟩) (nofun) (λx v=>abc.mp) (λvs=>abD.mp) λx l i j vs h=>by
  cases vs with
  |nil=>exact absurd h aaY
  |cons v r=>exact⟨v,r,Y,i v (af h).1,j r (af h).2⟩
noncomputable def kA:List Addr:=[96,103,117,119,120,163,170,177,179,180,198,200,201,210,215,222,229,230,237,244,251,258,265,272,279,286,291,298,305,319,326,334,339,344,351,377,498,499,517,524,538,540,541,571,626,628,629,647,654,661,675,682,691,692,703,724,731,738,745,752,759,780,787,829,836,850,857,871,878,908,915,922,929,943,950,964,1023,1030,1037,1051,1060,1061,1070,1098,1100,1101,1110,1168,1173,1178,1185,1190,1197,1202,1209,1214,1219,1226,1233,1238,1243,1248,1253,1258,1263,1268,1275,1282]
def KF(P:Params):Frag:=kA.map λa=>(a,((FO P)[a]?).getD default)
theorem Mj(P):kA.all (λa=>nG P a λo=>!o.isFreed)=true:=by kernel_rfl
theorem A2(P):(KF P).In (HF P):=by
 intro a o h;obtain⟨b,d,e⟩:=aa6.mp (iV h);obtain⟨o',c,f⟩:=nH (abd.mp (Mj P) b d);rw[c] at e;have e1:b=a:=aaU Prod.fst e;have e2:o'=o:=aaU Prod.snd e;subst e1 e2;exact Ak c (W.gJ f)
def oO(P:Params):Array DictEntry:=((FO P)[mainGlobals]?).elim #[] λo=>match o.data with
 |.dict es _=>es
 |_=>#[]
def gtB(P:Params):Bool:=GT.all λp=>(nsFind (oO P) (nm p.1)).any λr=>DV P p.2 r
def Sy(P:Params):Bool:=[215,165,247,270].all λx=>(nsFind (oO P) (nm x)).isNone
def Sa(P:Params):Bool:=CT.all λp=>yJ (KF P) p.1 p.2.1 p.2.2
def N9(P:Params):Bool:=FT.all λf=>keepIn (KF P) (.ref f)
def ZQ(P:Params):Bool:=OT.all λC=>findIn (KF P) (.ref C) "__init__"==some (some (.builtin "object.__init__"))
def vj(P:Params)(a:Addr):Bool:=nG P a λo=>H_ o.data λJ=>true
theorem Lr(P):gtB P=true:=by kernel_rfl
theorem Ma(P):Sy P=true:=by kernel_rfl
theorem MP(P):Sa P=true:=by kernel_rfl
theorem Rq(P):N9 P=true:=by kernel_rfl
theorem K6(P):ZQ P=true:=by kernel_rfl
theorem nV(P):(vj P mainGlobals&&(vj P builtinsNs&&vj P cStatics))=true:=by kernel_rfl
end
section
set_option maxRecDepth 100000
open Mine.Internal.H (FO HF lf)
def fdOf(P:Params)(a:Addr):FuncData:=((FO P)[a]?).elim default λo=>match o.data with
 |.func fd=>fd
 |_=>default
def l8(P:Params)(fd:FuncData):List Value:=match fd.defaults with
 |.ref T=>((FO P)[T]?).elim [] λo=>match o.data with
  |.seq vs _=>vs.toList
  |_=>[]
 |_=>[]
noncomputable def ZF(e:FuncBody)(p:List Stmt->Bool):Bool:=match e with
 |.stmts b=>p b
 |.expr _=>false
namespace W
structure X2(P)(fn:Fn)(fd:FuncData)(body)(q:Value):Prop where
 bd:fd.body=.stmts body
 aN:iq (λy=>fd.scope.names.lookup y) fn.body body=true
 co:fd.scope.isCoroutine=false
 gen:fd.scope.isGenerator=false
 kind:fd.scope.kind=.function
 vK:fd.closure=[]
 glob:fd.globals=mainGlobals
 blt:fd.builtins=builtinsNs
 nodup:fn.params.Nodup
 pk:∀x∈fn.params,fd.scope.names.lookup (nm x)=some .local\/fd.scope.names.lookup (nm x)=some .cell
 zB:∀p∈fd.scope.names,p.2≠.free
 code:(HF P).CodeRec fd.code fd.qualname
 wo:ak (HF P) [] fn.defs (l8 P fd)
def codeB(P:Params)(fd:FuncData):Bool:=sx fd.code λc=>nG P c λo=>Fv o.data λvs=>(vs[1]?).any λv=>Value.isStrOf fd.qualname v
theorem Wv(h:codeB P fd=true):(HF P).CodeRec fd.code fd.qualname:=by
 obtain⟨c,e,h⟩:=y2 h;obtain⟨o,d,h⟩:=nH h;obtain⟨vs,a,h⟩:=Nq h;obtain⟨v,b,h⟩:=any_some h;obtain⟨t,f⟩:=Value.isStrOf_shape h;exact⟨c,o,vs,t,e,qr d a Y,a,f▸b⟩
def xY(P:Params)(a:Addr)(fn:Fn):Bool:=nG P a λo=>Em o.data λfd=>ZF fd.body λbody=>iq (λy=>fd.scope.names.lookup y) fn.body body&&((!fd.scope.isCoroutine&&!fd.scope.isGenerator)&&((fd.scope.kind==.function&&fd.closure.isEmpty)&&((fd.globals==mainGlobals&&fd.builtins==builtinsNs)&&((decide fn.params.Nodup&&fn.params.all λx=>fd.scope.names.lookup (nm x)==some .local||fd.scope.names.lookup (nm x)==some .cell)&&((fd.scope.names.all λp=>p.2 !=.free)&&(codeB P fd&&xt P fn.defs (l8 P fd)))))))
theorem Zv{P a fn}(h:xY P a fn=true):∃o body q,(FO P)[a]?=some o/\o.data=.func (fdOf P a)/\X2 P fn (fdOf P a) body q:=by
 obtain⟨o,f,h⟩:=nH h;obtain⟨fd,i,h⟩:=LO h;have c:fdOf P a=fd:=by unfold fdOf;rw[f,Option.elim_some,i]
 have t:∃body,fd.body=.stmts body/\(iq (λy=>fd.scope.names.lookup y) fn.body body&&((!fd.scope.isCoroutine&&!fd.scope.isGenerator)&&((fd.scope.kind==.function&&fd.closure.isEmpty)&&((fd.globals==mainGlobals&&fd.builtins==builtinsNs)&&((decide fn.params.Nodup&&fn.params.all λx=>fd.scope.names.lookup (nm x)==some .local||fd.scope.names.lookup (nm x)==some .cell)&&((fd.scope.names.all λp=>p.2 !=.free)&&(codeB P fd&&xt P fn.defs (l8 P fd))))))))=true:=by
  revert h;generalize fd.body=b;intro h;cases b with
  |stmts b=>exact⟨b,Y,h⟩
  |expr=>exact absurd h aaY
 obtain⟨body,d,h⟩:=t;obtain⟨w,h⟩:=af h;obtain⟨s,h⟩:=af h;obtain⟨r,h⟩:=af h;obtain⟨l,h⟩:=af h;obtain⟨j,h⟩:=af h;obtain⟨u,h⟩:=af h;exact c▸⟨o,body,.none,f,i,d,w,gJ (af s).1,gJ (af s).2,abc.mp (af r).1,abD.mp (af r).2,abc.mp (af l).1,abc.mp (af l).2,abl (af j).1,λx m=>(kQ (abd.mp (af j).2 x m)).imp abc.mp abc.mp,λp m=>bne_iff_ne.mp (abd.mp u p m),Wv (af h).1,(Bn P).2 _ _ (af h).2⟩
def Q0(P:Params)(k:Nat)(p:Addr×Fn):Prop:=p.2.params.length=k+p.2.defs.length/\∀a,a.length=k->∀S,peek (KF P) S (bindArgs (fdOf P p.1) ⟨a,[]⟩)=some (gm p.2.params (a++l8 P (fdOf P p.1)))
theorem Y6(b:g.bF.heap=HF P)(h:xY P p.1 p.2=true)(d:Q0 P k p):Nonempty (FnAt g p.1 p.2):=by
 obtain⟨o,body,q,i,c,B⟩:=Zv h;exact⟨⟨fdOf P p.1,o,body,b▸qr i c Y,c,B.bd,B.co,B.gen,B.kind,B.vK,B.glob,B.blt,b▸B.code,B.nodup,B.pk,λy e=>B.zB _ (iV e) Y,l8 P _,b▸B.wo,
  λf j s l=>kp_binds (λa o e=>l a o (b▸A2 P a o e)) (d.2 f (Nat.add_right_cancel (j.trans d.1))),B.aN⟩⟩
def allB(P:Params)(k:Nat)(l:List (Addr×Fn)):Bool:=l.all λp=>p.2.params.length==k+p.2.defs.length&&xY P p.1 p.2
def qG(P:Params)(a:List Value)(S:Setting)(l:List (Addr×Fn)):List (Option (List (Str×Value))):=l.map λp=>peek (KF P) S (bindArgs (fdOf P p.1) ⟨a,[]⟩)
def rg(P:Params)(a:List Value)(l:List (Addr×Fn)):List (Option (List (Str×Value))):=l.map λp=>some (gm p.2.params (a++l8 P (fdOf P p.1)))
theorem all1(P):allB P 1 r_=true:=by kernel_rfl
theorem all2(P):allB P 2 rO=true:=by kernel_rfl
theorem Pe(P):allB P 3 s8=true:=by kernel_rfl
theorem ZE(P):allB P 4 rW=true:=by kernel_rfl
theorem OS(P a S):qG P [a] S r_=rg P [a] r_:=by kernel_rfl
theorem Qy(P a b S):qG P [a,b] S rO=rg P [a,b] rO:=by kernel_rfl
theorem Wf(P a b c S):qG P [a,b,c] S s8=rg P [a,b,c] s8:=by kernel_rfl
theorem Yu(P a b c d S):qG P [a,b,c,d] S rW=rg P [a,b,c,d] rW:=by kernel_rfl
theorem h_{b:Type}{l k}{M:List b->Prop}(h:l.length=k+1)(c:∀a r,r.length=k->M (a::r)):M l:=by
 cases l with
 |nil=>exact absurd h (Nat.succ_ne_zero _).symm
 |cons a r=>exact c a r (Nat.succ.inj h)
theorem fns(c:g.bF.heap=HF P)(h:allB P k l=true)(hp:∀a,a.length=k->∀S,qG P a S l=rg P a l)(m:p∈l):Nonempty (FnAt g p.1 p.2):=
 have q:=af (abd.mp h p m)
 Y6 c q.2 ⟨abc.mp q.1,λa b S=>List.map_inj_left.mp (hp a b S) p m⟩
theorem Zq(g P)(i:g.bF.heap=HF P)(a fn)(h:xp a=some fn):Nonempty (FnAt g a fn):=by
 have z:∀{f:List Value},f.length=0->f=[]:=List.eq_nil_of_length_eq_zero;rcases abq.mp (iV h) with m|m
 .exact fns i (all1 P) (λf e S=>by apply h_ e;exactλa r e=>(z e)▸OS P a S) m
 rcases abq.mp m with m|m
 .exact fns i (all2 P) (λf e S=>by apply h_ e;intro a r e;apply h_ e;exactλb r e=>(z e)▸Qy P a b S) m
 exact(abq.mp m).elim (λm=>fns i (Pe P) (λf e S=>by apply h_ e;intro a r e;apply h_ e;intro b r e;apply h_ e;exactλc r e=>(z e)▸Wf P a b c S) m) λm=>fns i (ZE P) (λf e S=>by apply h_ e;intro a r e;apply h_ e;intro b r e;apply h_ e;intro c r e;apply h_ e;exactλd r e=>(z e)▸Yu P a b c d S) m
end W
end
section
set_option maxRecDepth 100000
open Mine.Internal.H (FO HF lf dE qM lr fP)
section
variable{P:Params}{a:Addr}
theorem rH{f:Heap}{m}(l:vj P a=true)(k:∀b o,(HF P).get? b=some o->f.get? b=some o)(n:f.Ns a m):(HF P).Ns a m:=by
 obtain⟨o,i,h⟩:=nH l;obtain⟨es,s,j,_⟩:=DU h;have d:=qr i j Y;obtain⟨o',es',c,r,q,p⟩:=n;exact⟨o,es',c,d,(aa0 (r.symm.trans (k _ _ d)))▸q,p⟩
theorem zI{m}(n:(HF P).Ns mainGlobals m)(x):m x=nsFind (oO P) x:=by
 obtain⟨o,c,h⟩:=nH (af (nV P)).1;obtain⟨es,q,b,_⟩:=DU h;obtain⟨o',es',l,i,f,p,d⟩:=n;have e2:=(Data.dict.inj (f.symm.trans ((aa0 (i.symm.trans (qr c b Y)))▸b))).1;have j:oO P=es:=by unfold oO;rw[c,Option.elim_some,b]
 rw[j,←e2];exact(d x).symm
theorem RD(P):(nsFind (oO P) fP.name).any (λv=>sx v λb=>b==1287)=true:=by kernel_rfl
end
section
variable{w:World}{s₁:Shared}{mg mb:Str->Option Value}
def ZN(keeps:∀b o,(HF w.params).get? b=some o->s₁.heap.get? b=some o)(G:s₁.heap.Ns mainGlobals mg)(B:s₁.heap.Ns builtinsNs mb)(lim:s₁.heap.NoLimit)(bi:∀x:Str,x≠"__name__"->mb x=bootBuiltins x):Gl where
 prog:=Mine.Internal.H.pw
 w:=w
 bF:={s₁ with heap:=HF w.params}
 K:=KF w.params
 mg:=mg
 mb:=mb
 X:=A2 w.params
 G:=rH (af (nV w.params)).1 keeps G
 B:=rH (af (af (nV w.params)).2).1 keeps B
 bi:=bi
 lim:=lim.imp λmc q=>⟨rH (af (af (nV w.params)).2).2 keeps q.1,q.2⟩
 gt:=λx v h=>by
  obtain⟨r,h1,h2⟩:=any_some (abd.mp (Lr w.params) _ (iV h));exact⟨r,(zI (rH (af (nV w.params)).1 keeps G) (nm x)).trans h1,(Bn _).1 _ _ h2⟩
 ct:=λC p h=>abd.mp (MP w.params) _ (iV h)
 ft:=λf h=>abd.mp (Rq w.params) f h
 oi:=λC h=>abc.mp (abd.mp (K6 w.params) C h)
 miss:=λx h=>(zI (rH (af (nV w.params)).1 keeps G) (nm x)).trans (Option.isNone_iff_eq_none.mp (abd.mp (Ma w.params) x h))
end
namespace W
def zD(N:Nat):Prop:=∀(o)(ns:List Int),ns.length<=63->C N 1287 [.loc 0] (λv a=>v=.bool true/\a[0]?=some (.dX o (ns.map .int))) [.dX o (ns.map .int)]
theorem Lj{ns:List Int}:dE.row.claim.post [ofPy (.list (ns.map .int))] (.bool true) [ofPy (.list (ns.map .int))]=true:=by
 wrow_post
theorem Wc{N}(hN:N<=690)(H:zD N){g:Gl}{P}(D:g.bF.heap=HF P){s₁}(hs:s₁={g.bF with heap:=s₁.heap,toks:=s₁.toks})(keeps:∀b o,g.bF.heap.get? b=some o->s₁.heap.get? b=some o){x:Addr}{c vs m ns}
  (a:s₁.heap.get? x=some c)(l:c.cls=.type "list")(j:c.data=.seq vs.toArray m)(L:IntsAre vs ns)(s:g.bF.heap.objs.size<=x)(hlen:ns.length<=63):
  wp g callerA (PySem.call (.ref 1287) [.ref x]) (λr s'=>r=.bool true/\(∀b o,s₁.heap.get? b=some o->s'.heap.get? b=some o)/\∃h tk,s'={s₁ with heap:=h,toks:=tk}) s₁:=by
 have at_:At g [x] [x] [.dX c (ns.map .int)] s₁:=by
  refine⟨⟨s₁.heap,s₁.toks,hs⟩,⟨keeps,Y,Y,λn ao e=>?_,λb f=>?_,λn m b A B=>?_,abG (aaZ s (ab2 a))⟩⟩
  .cases n with
   |zero=>exact⟨x,x,Y,Y,aa0 e▸⟨Y,a,l,vs.toArray,m,j,intsAre_of L⟩⟩
   |succ n=>exact absurd e.symm (aa8 _)
  .have e:=(abq.mp f).elim aaT.mp aaT.mp;exact e▸⟨s,ab2 a⟩
  .have z:∀{k},([x][k]?=some b\/[x][k]?=some b)->k=0:=λ{k}q=>by
    cases k with
    |zero=>rfl
    |succ k=>exact q.elim (λe=>absurd e.symm (aa8 _)) λe=>absurd e.symm (aa8 _)
   exact(z A).trans (z B).symm
 refine wm (zC (RG (Zq g P D) N) ⟨Y,by show 301+N<1000;omega,by show 4+12*N+60<=9900;omega⟩ (H c ns hlen) at_ ⟨_,[],Y,⟨x,Y,Y⟩,Y⟩) λr s' p=>?_
 obtain⟨v,Q,U,T,t,u,z,y,w⟩:=p
 rw[y] at z
 have d:=(t.dX w (u.pre 0 x Y)).1
 refine⟨z,λb o f=>?_,?_⟩
 .by_cases q:b=x
  .subst q;exact aa0 (a.symm.trans f)▸d
  .exact u.keep b o f (λm=>q ((abq.mp m).elim aaT.mp aaT.mp)) id
 .obtain⟨M,i,es⟩:=t.same;exact⟨M,i,by rw[es,hs]⟩
end W
end
theorem aK{b:Type}{a}{l:List b}(i:Nat)(h:l[i]?=some a):a∈l:=abk h
set_option genInjectivity true in
structure a_ where
 nm:Nat
 t:Nat
 ms:Nat
 ow:Nat
set_option genInjectivity true in
inductive Row where
 |key(s:Str)|fC(v f:Nat)|str(f:Nat)|num|bl(ids:List Nat)|obj(ps:List a_)|ref(d:Nat)(as:List Nat)|par(i:Nat)
noncomputable abbrev iv(n:Nat):AV:=.int (n)
noncomputable def cj(c:Nat):Str:=⟨#[c]⟩
def a_.enc(p:a_):AV:=.tup [.str (cj p.nm),iv p.t,iv p.ms,iv p.ow]
def Row.enc(r:Row):AV:=match r with
 |.key s=>.tup [.int 1,.str s]
 |.fC v f=>.tup [.int 2,iv v,iv f]
 |.str f=>.tup [.int 3,.str (cj 97),iv f]
 |.num=>.tup [.int 4,.int 1,.int 0]
 |.bl ids=>.tup [.int 6,.tup (ids.map iv)]
 |.obj ps=>.tup [.int 8,.tup (ps.map a_.enc),.tup [],.tup [],.tup [],.tup [],.int 0]
 |.ref d as=>.tup [.int 9,iv d,.tup (as.map iv)]
 |.par i=>.tup [.int 10,iv i]
theorem dO:iv a=iv b↔a=b:=⟨λe=>abC (AV.int.inj e),aaU iv⟩
theorem map_inj{c β:Type}{f:c->β}(h:∀a b,f a=f b->a=b){l m:List c}:l.map f=m.map f↔l=m:=⟨(List.map_inj_right h).mp,aaU _⟩
theorem Iz{a b:List Nat}:a.map iv=b.map iv↔a=b:=map_inj λJ J=>dO.mp
theorem qq:cj a=cj b↔a=b:=⟨λe=>(List.cons.inj (Array.mk.inj (Str.mk.inj e))).1,aaU cj⟩
theorem tl(h:AV.tup (a::l)=AV.tup (b::m)):a=b/\AV.tup l=AV.tup m:=(List.cons.inj (AV.tup.inj h)).imp id (aaU AV.tup)
theorem fL{a b l m}{P:Prop}(h:AV.tup (.int a::l)=AV.tup (.int b::m))(n:decide (a=b)=false):P:=absurd (AV.int.inj (tl h).1) (of_decide_eq_false n)
theorem a_.k5{p q:a_}:p.enc=q.enc↔p=q:=⟨λh=>by
 obtain⟨a,b,c,d⟩:=p
 obtain⟨m,l,j,i⟩:=q
 obtain⟨e1,h⟩:=tl h
 obtain⟨e2,h⟩:=tl h
 obtain⟨f,h⟩:=tl h
 rw[show a=m from qq.mp (AV.str.inj e1),show b=l from dO.mp e2,show c=j from dO.mp f,show d=i from dO.mp (tl h).1],aaU _⟩
theorem J4{a b:List a_}:a.map a_.enc=b.map a_.enc↔a=b:=map_inj λJ J=>a_.k5.mp
theorem Row.EH{r q:Row}(h:r.enc=q.enc):r=q:=by
 cases r with
 |key s=>cases q<;>first|exact fL h Y|exact aaU Row.key (AV.str.inj (tl (tl h).2).1)
 |fC v f=>cases q<;>first|exact fL h Y|exact congr (aaU Row.fC (dO.mp (tl (tl h).2).1)) (dO.mp (tl (tl (tl h).2).2).1)
 |str f=>cases q<;>first|exact fL h Y|exact aaU Row.str (dO.mp (tl (tl (tl h).2).2).1)
 |num=>cases q<;>first|exact fL h Y|rfl
 |bl l=>cases q<;>first|exact fL h Y|exact aaU Row.bl (Iz.mp (AV.tup.inj (tl (tl h).2).1))
 |obj l=>cases q<;>first|exact fL h Y|exact aaU Row.obj (J4.mp (AV.tup.inj (tl (tl h).2).1))
 |ref d l=>cases q<;>first|exact fL h Y|exact congr (aaU Row.ref (dO.mp (tl (tl h).2).1)) (Iz.mp (AV.tup.inj (tl (tl (tl h).2).2).1))
 |par i=>cases q<;>first|exact fL h Y|exact aaU Row.par (dO.mp (tl (tl h).2).1)
theorem Row.k5{r q:Row}:r.enc=q.enc↔r=q:=⟨Row.EH,aaU _⟩
instance aaJ:DecidableEq a_:=λa b=>decidable_of_iff (a.enc=b.enc) a_.k5
instance aam:DecidableEq Row:=λa b=>decidable_of_iff (a.enc=b.enc) Row.k5
theorem eC(x:a=true)(y:b=true):(a&&b)=true:=Bool.and_eq_true_iff.mpr ⟨x,y⟩
theorem Cg(l:List Nat):AV.keys (l.map iv)=true/\AV.du (l.map iv)=0:=by
 induction l with
 |nil=>exact⟨Y,Y⟩
 |cons a l b=>assumption
theorem Ie(l:List Nat):AV.keys (l.map iv)=true:=(Cg l).1
theorem C4(l:List Nat):AV.du (l.map iv)=0:=(Cg l).2
noncomputable def a_.ok(p:a_):Bool:=decide (p.nm<128)
def Row.ok(r:Row):Bool:=match r with
 |.key s=>PyData.strOk s
 |.obj ps=>ps.all a_.ok
 |_=>true
theorem pW(h:c<128):PyData.strOk (cj c)=true:=by
 simp[PyData.strOk,cj];omega
theorem Rr(l:List a_):l.all a_.ok=true->AV.keys (l.map a_.enc)=true/\AV.du (l.map a_.enc)<=1:=by
 induction l with
 |nil=>exactλJ=>⟨Y,aa9 _⟩
 |cons p l a=>
  intro h;obtain⟨c,b⟩:=a (af h).2;exact⟨eC (eC (pW (abl (af h).1)) Y) c,Nat.max_le.mpr ⟨aaX 1,b⟩⟩
theorem p4(k:AV.keys l=true)(d:AV.du l<=7):nh (.tup l)=true:=eC k (aba (abI d))
theorem Row.JZ{r:Row}(h:r.ok=true):nh r.enc=true:=by
 cases r with
 |obj ps=>
  obtain⟨b,a⟩:=Rr ps h;exact p4 (eC b Y) (Nat.max_le.mpr ⟨aa9 _,Nat.max_le.mpr ⟨aaS (abI a) (),()⟩⟩)
 |key s=>exact p4 (eC h Y) (aa9 _)
 |bl l=>exact p4 (eC (Ie l) Y) (Nat.max_le.mpr ⟨aa9 _,Nat.max_le.mpr ⟨aaS (aa7 (aaU Nat.succ (C4 l))) (),()⟩⟩)
 |ref d l=>exact p4 (eC (Ie l) Y) (Nat.max_le.mpr ⟨aa9 _,Nat.max_le.mpr ⟨aa9 _,Nat.max_le.mpr ⟨aaS (aa7 (aaU Nat.succ (C4 l))) (),()⟩⟩⟩)
 |str f=>exact p4 (eC (pW ()) Y) (aa9 _)
 |_=>rfl
theorem Row.W3(r:Row):∃l,r.enc=.tup l:=by cases r<;>exact⟨_,Y⟩
theorem Row.uC{r:Row}(h:r.ok=true):KS.ok .tup r.enc=true:=by
 have k:=Row.JZ h;obtain⟨l,e⟩:=r.W3;rw[e] at k⊢;exact k
def ag(F:List Nat)(σ a:Sg):Prop:=σ.length<=a.length/\∀n,n∉F->∀o,σ[n]?=some o->a[n]?=some o
section
variable{F G:List Nat}{σ aj n6 x:Sg}{n m:Nat}{o o':AO}
theorem ba(e:σ[n]?=some o):(σ.set n o')[n]?=some o':=List.getElem?_set_self (dv e)
theorem a4(e:σ[n]?=some o)(h:m≠n):(σ.set m o')[n]?=some o:=(List.getElem?_set_ne h).trans e
theorem ay(e:σ[n]?=some o):(σ++x)[n]?=some o:=i_ e
theorem az:(σ++[o])[σ.length]?=some o:=List.getElem?_concat_length ..
theorem ag.refl:ag F σ σ:=⟨aaX _,λJ J J e=>e⟩
theorem ag.trans(a:ag F σ aj)(b:ag F aj n6):ag F σ n6:=⟨aaS a.1 b.1,λn h o e=>b.2 n h o (a.2 n h o e)⟩
theorem ag.mono(a:ag F σ aj)(h:∀n,n∈F->n∈G):ag G σ aj:=⟨a.1,λn m=>a.2 n λq=>m (h n q)⟩
theorem ag.app:ag F σ (σ++x):=⟨aa4▸aaW ..,λn J o=>ay⟩
theorem ag.set(h:n∈F):ag F σ (σ.set n o):=⟨aa7 List.length_set.symm,λm a o' e=>a4 e λq=>a (q▸h)⟩
theorem ag.get(a:ag F σ aj)(e:σ[n]?=some o)(h:n∉F):aj[n]?=some o:=a.2 n h o e
end
structure TH where
 tab:Nat
 rows:Nat
 index:Nat
 decls:Nat
 bounds:Nat
 defaults:Nat
 names:Nat
 origins:Nat
 renamed:Nat
noncomputable def OR(T:TH):List (V×AV):=[(226,.loc T.rows),(143,.loc T.index),(121,.loc T.decls),(109,.loc T.bounds),(124,.loc T.defaults),(178,.loc T.names),(192,.loc T.origins),(221,.loc T.renamed),(241,.int 0),(213,.int 0)]
def gi(τ:List Row):List (AV×AV):=τ.zipIdx.map λp=>(p.1.enc,iv p.2)
structure Tab(σ:Sg)(T:TH)(τ:List Row):Prop where
 tab:σ[T.tab]?=some (.inst 180 (OR T))
 rows:σ[T.rows]?=some (.list (τ.map Row.enc))
 index:σ[T.index]?=some (.dict .tup (gi τ))
 nodup:τ.Nodup
theorem Tab.chg(t:Tab σ T τ)(c:ag F σ a)(f:T.tab∉F)(d:T.rows∉F)(b:T.index∉F):Tab a T τ:=⟨c.get t.tab f,c.get t.rows d,c.get t.index b,t.nodup⟩
section
variable{r x:Row}{τ:List Row}
theorem jA:aO ((k,v)::es) a=if k=a then some v else aO es a:=by
 unfold aO;by_cases q:k=a
 .rw[abn q,List.find?_cons_of_pos (p:=λp:AV×AV=>decide (p.1=a)) (aba q)];rfl
 .rw[aa_ q,List.find?_cons_of_neg (p:=λp:AV×AV=>decide (p.1=a)) λz=>q (abl z)]
theorem Hl:(x::τ).idxOf x=0:=by rw[List.idxOf_cons,abc.mpr Y];rfl
theorem BO(q:x≠r):(x::τ).idxOf r=τ.idxOf r+1:=by rw[List.idxOf_cons,abJ.mpr q];rfl
theorem Nd(r)(τ:List Row):∀k,aO ((τ.zipIdx k).map λp=>(p.1.enc,iv p.2)) r.enc=if r∈τ then some (iv (k+τ.idxOf r)) else none:=by
 induction τ with
 |nil=>exactλk=>(aa_ abo).symm
 |cons x τ a=>
  intro k;rw[List.zipIdx_cons,abM,jA,a];by_cases q:x=r
  .rw[abn (aaU _ q),abn (q▸.head _),q,Hl];rfl
  .rw[aa_ λe=>q (Row.EH e),BO q,abT,abu];by_cases m:r∈τ
   .rw[abn m,abn (.tail _ m)]
   .rw[aa_ m,aa_ λz=>(aa5.mp z).elim (λe=>q e.symm) m]
theorem ph:aO (gi τ) r.enc=if r∈τ then some (iv (τ.idxOf r)) else none:=by
 have:=Nd r τ 0
 rw[ab5] at this
 exact this
theorem T2(h:aO es k=none):aM es k v=es++[(k,v)]:=by
 refine aa_ λz=>?_;obtain⟨p,m,e⟩:=List.any_eq_true.mp z;exact absurd e (List.find?_eq_none.mp (Option.map_eq_none_iff.mp h) p m)
theorem QZ(h:r∉τ):aM (gi τ) r.enc (iv τ.length)=gi (τ++[r]):=by
 rw[T2 (ph.trans (aa_ h))];unfold gi;rw[List.zipIdx_append,abA,ab5];rfl
theorem zL:r∈τ->τ[τ.idxOf r]?=some r:=by
 induction τ with
 |nil=>exact nofun
 |cons x τ a=>
  intro h;by_cases q:x=r
  .rw[q,Hl];rfl
  .rw[BO q];exact a ((aa5.mp h).elim (λe=>absurd e.symm q) id)
end
noncomputable def f6(t:Nat)(r:Row):List Nat:=if t=2 then[] else match r with
 |.bl ids=>ids
 |_=>[t]
noncomputable def yv(r:Row):Int:=match r with
 |.str _=>6
 |.num=>7
 |_=>-1
noncomputable def jf(r:Row):Bool:=match r with
 |.fC _ _=>false
 |_=>true
def jV(τ:List Row)(r:Row):Int:=match r with
 |.str f=>if f=1/\Row.str 0∈τ then(τ.idxOf (.str 0):Int) else-1
 |_=>-1
def gE(G:List Nat):List (AV×AV):=G.map λp=>(iv p,.int 1)
noncomputable def bN(G:List Nat)(k:Int):Bool:=G.any λp=>(p)==k
theorem H':(aO (gE G) (.int k)).isSome=bN G k:=by
 induction G with
 |nil=>rfl
 |cons p G a=>
  show(aO ((iv p,.int 1)::gE G) _).isSome=((p)==k||bN G k);rw[jA,←a];by_cases q:(p)=k
  .rw[abn (aaU AV.int q),abc.mpr q];rfl
  .rw[aa_ λe=>q (AV.int.inj e),abJ.mpr q];rfl
noncomputable def dT(G:List Nat)(p:Nat):List Nat:=if p∈G then G else G++[p]
theorem pF{G}{k:Nat}:bN G (k)=decide (k∈G):=by
 induction G with
 |nil=>rfl
 |cons a G b=>
  show((a)==(k:Int)||bN G k)=_;rw[b];by_cases q:a=k
  .rw[show((a)==(k:Int))=true from abc.mpr (aaU Int.ofNat q)];exact(aba (q▸.head _)).symm
  .rw[show((a)==(k:Int))=false from abJ.mpr λe=>q (abC e)];exact ab8.mpr ⟨.tail _,λm=>(aa5.mp m).elim (λe=>absurd e.symm q) id⟩
theorem NM:(gE G).any (λq=>decide (q.1=iv p))=decide (p∈G):=by
 have e:=pF (G:=G) (k:=p);rw[←H'] at e;rw[←e];unfold aO;rw[Option.isSome_map,List.isSome_find?]
theorem L4:aM (gE G) (iv p) (.int 1)=gE (dT G p):=by
 delta aM dT;rw[NM];by_cases h:p∈G
 .rw[aba h,abn h];have e:∀q∈gE G,(if q.1=iv p then(q.1,AV.int 1) else q)=q:=λq m=>by
   obtain⟨a,_,e⟩:=aa6.mp m;exact e▸ite_self _
  exact(List.map_congr_left e)▸List.map_id' _
 .rw[abf h,aa_ h];exact(abA (l₂:=[p])).symm
def v7(G:List Nat):Int:=if bN G 0 then 0 else if bN G 13 then 13 else-1
def ru(τ:List Row)(G:List Nat)(r:Row):Bool:=!bN G (jV τ r)&&!bN G (yv r)
def fU(G:List Nat):List Nat:=(sortI (G.map λ(p:Nat)=>(p))).map Int.toNat
theorem sortI_perm(l):(sortI l).Perm l:=List.mergeSort_perm ..
theorem Wg(l:List Nat):(l.map λ(p:Nat)=>(p:Int)).map Int.toNat=l:=by rw[List.map_map];exact List.map_id' l
theorem AF(G):(fU G).map (λ(p:Nat)=>(p:Int))=sortI (G.map λ(p:Nat)=>(p)):=by
 unfold fU;rw[List.map_map,List.map_congr_left λx a=>?_,List.map_id];obtain⟨p,_,e⟩:=aa6.mp ((sortI_perm _).mem_iff.mp a);exact e▸Y
theorem q0(G):(fU G).Perm G:=by
 have:=(sortI_perm (G.map λ(p:Nat)=>(p))).map Int.toNat
 rwa[Wg] at this
def fZ(τ:List Row)(G:List Nat)(p:Nat):Bool:=(τ[p]?).any (ru τ G)
theorem nT(h:τ[p]?=some r):fZ τ G p=ru τ G r:=by unfold fZ;rw[h];rfl
theorem Ck(G p):G.length<=(dT G p).length:=by
 unfold dT;by_cases h:p∈G
 .rw[abn h];exact aaX _
 .rw[aa_ h,aa4];exact aaW ..
theorem FR{a:Type}{f}(h:∀G p,G.length<=(f G p).length)(ps:List a):∀G:List Nat,G.length<=(ps.foldl f G).length:=by
 induction ps with
 |nil=>exactλG=>aaX _
 |cons p ps b=>exactλG=>aaS (h G p) (b _)
theorem DJ(ps G:List Nat):G.length<=(ps.foldl dT G).length:=FR Ck ps G
def dm(τ:List Row)(G:List Nat)(i:Nat):List Nat:=match τ[i]? with
 |some r=>(f6 i r).foldl dT G
 |none=>G
theorem Pz(τ G i):G.length<=(dm τ G i).length:=by
 unfold dm;cases τ[i]? with
 |some r=>exact DJ ..
 |none=>exact aaX _
theorem ZH(τ)(l G:List Nat):G.length<=(l.foldl (dm τ) G).length:=FR (Pz τ) l G
def qi(τ:List Row)(G:List Nat):List Nat:=if bN G 0 then[0] else if bN G 13 then[13] else(fU G).filter (fZ τ G)
def UT(τ:List Row)(t:Nat)(K:List Nat):Prop:=(K=[]/\t=2)\/K=[t]\/(2<=K.length/\τ[t]?=some (.bl K))
def Jm(σ:Sg)(P:AV)(l:List Nat):Prop:=P=.tup (l.map iv)\/∃k,P=.loc k/\σ[k]?=some (.list (l.map iv))
section
set_option genInjectivity true in
inductive Lf where
 |i3|i4|a9(b:Nat)|aY(b:Nat)(x:Lf)|par(i:Nat)
 deriving DecidableEq
abbrev AK:=Nat×Option Lf
set_option genInjectivity true in
inductive Th where
 |lf(x:Lf)|own(k:Nat)(as:List AK)|six
 deriving DecidableEq
abbrev Kind:=Nat×List Th
noncomputable def dr(b:Nat):Nat:=if b.testBit 2 then b&&&126 else if b.testBit 0 then b&&&127 else b
noncomputable def b7(b:Nat)(ks:List Kind):Nat:=ks.foldl (λb k=>b|||k.1) b
def gc(xs:List Th)(ks:List Kind):List Th:=ks.foldl (λxs k=>xs++k.2.filter λx=>decide (x∉xs)) xs
def aS(ks:List Kind):Kind:=if(b7 0 ks).testBit 5 then(32,[]) else if(b7 0 ks).testBit 6 then(64,[]) else(dr (b7 0 ks),gc [] ks)
structure Mem where
 nm:Nat
 how:Nat
 ms:Nat
 ow:Nat
 deriving DecidableEq
structure World where
 n:Nat
 r0:List Mem
 r1:List Mem
 bx:Mem
 dz:Nat
 six:List AK
noncomputable def Lf.box:AK->Lf
 |(b,none)=>.a9 b
 |(b,some x)=>.aY b x
noncomputable def AK.kind(a:AK):Kind:=(a.1,a.2.toList.map .lf)
noncomputable def World.own(W:World)(k:Nat):Nat:=if k=1 then W.dz else 0
def cell(W:World)(k how:Nat)(as:List AK):Kind:=
 if how=0 then(as.headD (0,none)).kind
 else if how=5 then(as.getLastD (0,none)).kind
 else if how=2 then aS [(as.headD (0,none)).kind,(9,[])]
 else if how=4 then(0,[.own (W.own k) as])
 else if how=6 then(0,[.own (W.own k) as.reverse])
 else if how=8 then aS [(0,[.lf (Lf.box (as.getLastD (0,none)))]),(as.headD (0,none)).kind]
 else if how=7 then(0,[.lf .i3])
 else if how=3 then(0,[.lf (Lf.box (as.headD (0,none)))])
 else if how=9 then(0,[.lf (Lf.box (1,none))])
 else(1,[])
theorem i8{W k as}{P:Nat->Kind->Prop}(l:P 0 (as.headD (0,none)).kind)(f:P 5 (as.getLastD (0,none)).kind)(j:P 2 (aS [(as.headD (0,none)).kind,(9,[])]))(h:P 4 (0,[.own (W.own k) as]))(d:P 6 (0,[.own (W.own k) as.reverse]))(b:P 8 (aS [(0,[.lf (Lf.box (as.getLastD (0,none)))]),(as.headD (0,none)).kind]))(c:P 7 (0,[.lf .i3]))(i:P 3 (0,[.lf (Lf.box (as.headD (0,none)))]))(a:P 9 (0,[.lf (Lf.box (1,none))]))(pe:∀n,(∀W k as,cell W k n as=(1,[]))->n≠4->n≠6->P n (1,[]))(how):P how (cell W k how as):=by
 rcases how with _|_|_|_|_|_|_|_|_|_|n
 .exact l
 .exact pe 1 (λJ J J=>Y) () ()
 .exact j
 .exact i
 .exact h
 .exact f
 .exact d
 .exact c
 .exact b
 .exact a
 .exact pe (n+10) (λJ J J=>Y) (λe=>nomatch e) λe=>nomatch e
theorem A9{W k as bs}{R:Kind->Kind->Prop}(l:R (as.headD (0,none)).kind (bs.headD (0,none)).kind)(f:R (as.getLastD (0,none)).kind (bs.getLastD (0,none)).kind)(j:R (aS [(as.headD (0,none)).kind,(9,[])]) (aS [(bs.headD (0,none)).kind,(9,[])]))(h:R (0,[.own (W.own k) as]) (0,[.own (W.own k) bs]))(d:R (0,[.own (W.own k) as.reverse]) (0,[.own (W.own k) bs.reverse]))(b:R (aS [(0,[.lf (Lf.box (as.getLastD (0,none)))]),(as.headD (0,none)).kind]) (aS [(0,[.lf (Lf.box (bs.getLastD (0,none)))]),(bs.headD (0,none)).kind]))(c:R (0,[.lf .i3]) (0,[.lf .i3]))(i:R (0,[.lf (Lf.box (as.headD (0,none)))]) (0,[.lf (Lf.box (bs.headD (0,none)))]))(a:R (0,[.lf (Lf.box (1,none))]) (0,[.lf (Lf.box (1,none))]))(pe:R (1,[]) (1,[]))(how):R (cell W k how as) (cell W k how bs):=by
 rcases how with _|_|_|_|_|_|_|_|_|_|n
 .exact l
 .exact pe
 .exact j
 .exact i
 .exact h
 .exact f
 .exact d
 .exact c
 .exact b
 .exact a
 .exact pe
noncomputable def k7:List Row:=[.key "any",.key "unknown",.key "never",.key "void",.key "undefined",.key "null",.key "string",.key "number",.fC 0 0,.fC 1 0,.key "object",.obj [],.bl [8,9],.key "error",.fC 0 1,.fC 1 1]
def Base(τ:List Row):Prop:=k7<+:τ
theorem cU{b:Type}{τ a}(h:τ<+:a){i:Nat}{r:b}(e:τ[i]?=some r):a[i]?=some r:=by
 obtain⟨x,rfl⟩:=h;rw[List.getElem?_append_left (abg.mp e).1];exact e
theorem Base.mono(b:Base τ)(h:τ<+:a):Base a:=b.trans h
def a6(τ:List Row)(i p:Nat):Prop:=match i with
 |0=>τ[p]?=some (.str 0)
 |1=>τ[p]?=some .num
 |2=>p=6
 |3=>p=5
 |4=>p=4
 |5=>p=0
 |6=>p=13
 |7=>τ[p]?=some (.str 1)
 |_=>False
theorem Rz{P:Nat->Prop}(a:P 0)(b:P 1)(c:P 2)(d:P 3)(e:P 4)(f:P 5)(g:P 6)(h:P 7)(k)(l:k<8):P k:=by
 rcases k with _|_|_|_|_|_|_|_|k
 .exact a
 .exact b
 .exact c
 .exact d
 .exact e
 .exact f
 .exact g
 .exact h
 .exact absurd l (ab0.mpr (abj ..))
theorem x7{P:Nat->Prop}(a:P 0)(b:P 1)(c:P 2)(d:P 3)(k)(h:k<4):P k:=by
 rcases k with _|_|_|_|k
 .exact a
 .exact b
 .exact c
 .exact d
 .exact absurd h (ab0.mpr (abj ..))
theorem j4{τ}{P:Nat->Nat->Prop}(l:∀p,τ[p]?=some (.str 0)->P 0 p)(i:∀p,τ[p]?=some .num->P 1 p)(h:P 2 6)(f:P 3 5)(d:P 4 4)(c:P 5 0)(b:P 6 13)(a:∀p,τ[p]?=some (.str 1)->P 7 p){j p}(u:a6 τ j p):P j p:=by
 rcases j with _|_|_|_|_|_|_|_|j
 .exact l p u
 .exact i p u
 .exact Eq.subst (Eq.symm u) h
 .exact Eq.subst (Eq.symm u) f
 .exact Eq.subst (Eq.symm u) d
 .exact Eq.subst (Eq.symm u) c
 .exact Eq.subst (Eq.symm u) b
 .exact a p u
 .exact u.elim
theorem a6.mono{τ a}(h:τ<+:a){i p}(u:a6 τ i p):a6 a i p:=
 j4 (P:=a6 a) (λJ=>cU h) (λJ=>cU h) Y Y Y Y Y (λJ=>cU h) u
def PK(τ:List Row)(b:Nat)(vs:List Nat)(t:Nat):Prop:=∃K,(UT τ t K/\K.Pairwise (·<·))/\(∀p∈K,p∈vs\/∃i,b.testBit i=true/\a6 τ i p)/\(∀v∈vs,v∈K)/\∀i,b.testBit i=true->∃p∈K,a6 τ i p
theorem UT.mono{τ a}(h:τ<+:a){t K}(u:UT τ t K):UT a t K:=u.imp id (Or.imp id (And.imp id (cU h)))
theorem PK.mono(h:τ<+:a)(q:PK τ b vs t):PK a b vs t:=q.imp λJ q=>
 ⟨⟨q.1.1.mono h,q.1.2⟩,λp m=>(q.2.1 p m).imp id λr=>r.imp λJ z=>z.imp id (a6.mono h),q.2.2.1,λi e=>(q.2.2.2 i e).imp λJ z=>z.imp id (a6.mono h)⟩
def IsL(τ:List Row):Lf->Nat->Prop
 |.i3,t=>τ[t]?=some (.ref 4 [])
 |.i4,t=>∃u,τ[t]?=some (.obj [⟨112,u,0,0⟩])/\PK τ 1 [] u
 |.par i,t=>τ[t]?=some (.par i)
 |.a9 b,t=>∃u,τ[t]?=some (.ref 3 [u])/\PK τ b [] u
 |.aY b x,t=>∃u v,τ[t]?=some (.ref 3 [u])/\IsL τ x v/\PK τ b [v] u
def dD(τ:List Row):AK->Nat->Prop
 |(b,none),u=>PK τ b [] u
 |(b,some x),u=>∃v,IsL τ x v/\PK τ b [v] u
theorem IsL.mono{τ a}(h:τ<+:a){x}:∀{t},IsL τ x t->IsL a x t:=by
 induction x with
 |i3=>exact cU h
 |i4=>exactλl=>l.imp λJ q=>⟨cU h q.1,q.2.mono h⟩
 |par=>exact cU h
 |a9=>exactλl=>l.imp λJ q=>⟨cU h q.1,q.2.mono h⟩
 |aY b x c=>exactλl=>l.imp λJ q=>q.imp λJ q=>⟨cU h q.1,c q.2.1,q.2.2.mono h⟩
theorem dD.mono(h:τ<+:a)(l:dD τ x t):dD a x t:=by
 obtain⟨b,x⟩:=x;cases x with
 |none=>exact PK.mono h l
 |some x=>exact l.imp λJ q=>⟨IsL.mono h q.1,PK.mono h q.2⟩
theorem x5:IsL τ (Lf.box a) t↔∃u,τ[t]?=some (.ref 3 [u])/\dD τ a u:=by
 obtain⟨b,x⟩:=a;cases x with
 |none=>exact .rfl
 |some x=>exact⟨λh=>h.imp λu h=>h.elim λv q=>⟨q.1,v,q.2⟩,λh=>h.imp λu q=>q.2.imp λv r=>⟨q.1,r⟩⟩
def aG{c β:Type}(R:c->β->Prop)(l:List c):List β->Prop:=l.rec (λm=>m.rec True λJ J J=>False) λa J q m=>m.rec False λb m J=>R a b/\q m
theorem aG.ind{d β R}{P:List d->List β->Prop}(n:P [] [])(c:∀a b l m,R a b->aG R l m->P l m->P (a::l) (b::m)){l m}(h:aG R l m):P l m:=by
 induction l generalizing m with
 |nil=>
  cases m with
  |nil=>exact n
  |cons=>exact h.elim
 |cons a l f=>
  cases m with
  |nil=>exact h.elim
  |cons b m=>exact c a b l m h.1 h.2 (f h.2)
theorem aG.imp{c β R S}(k:∀a b,R a b->S a b){l:List c}{m:List β}(h:aG R l m):aG S l m:=h.ind trivial λJ J J J x J r=>⟨k _ _ x,r⟩
theorem aG.length{a β R}{l:List a}{m:List β}(h:aG R l m):l.length=m.length:=aG.ind (R:=R) (P:=λl m=>l.length=m.length) Y (λJ J J J J J=>aaU Nat.succ) h
theorem aG.Nt{d β R}{l:List d}{m}(h:aG R l m):∀{i:Nat}{b:β},m[i]?=some b->∃a,l[i]?=some a/\R a b:=
 h.ind (P:=λl m=>∀{i b},m[i]?=some b->∃a,l[i]?=some a/\R a b) (λe=>nomatch e) λa b l m x J r i c e=>by
  cases i with
  |zero=>exact⟨a,Y,aa0 e▸x⟩
  |succ i=>exact r e
theorem aG.ic{c β R l}{m:List β}(h:aG R l m){a:c}:a∈l->∃b∈m,R a b:=
 h.ind (P:=λl m=>a∈l->∃b∈m,R a b) nofun λJ b J J x J r z=>(aa5.mp z).elim (λe=>⟨b,.head _,e▸x⟩) λz=>(r z).imp λJ q=>q.imp (.tail _) id
theorem aG.gv{c β R}{l:List c}{m}(h:aG R l m){b:β}:b∈m->∃a∈l,R a b:=
 h.ind (P:=λl m=>b∈m->∃a∈l,R a b) nofun λa J J J x J r z=>(aa5.mp z).elim (λe=>⟨a,.head _,e▸x⟩) λz=>(r z).imp λJ q=>q.imp (.tail _) id
theorem aG.append{c β R l m}{l':List c}{m':List β}(h:aG R l m)(d:aG R l' m'):aG R (l++l') (m++m'):=
 h.ind d λa b l m x J r=>show R a b/\aG R (l++l') (m++m') from⟨x,r⟩
def fR(τ:List Row):Th->Nat->Prop
 |.lf x,t=>IsL τ x t
 |.own k as,t=>k<2/\∃us,τ[t]?=some (.ref (k+1) us)/\aG (dD τ) as us
 |.six,_=>False
theorem fR.mono{τ a}(h:τ<+:a){x t}(l:fR τ x t):fR a x t:=by
 cases x with
 |lf x=>exact IsL.mono h l
 |own k as=>exact⟨l.1,l.2.imp λJ q=>⟨cU h q.1,q.2.imp λJ J=>dD.mono h⟩⟩
 |six=>exact l
def eR(τ:List Row)(m:Mem×Kind)(p:a_):Prop:=p.nm=m.1.nm/\p.ms=m.1.ms/\p.ow=m.1.ow/\∃vs,aG (fR τ) m.2.2 vs/\PK τ m.2.1 vs p.t
theorem eR.mono(h:τ<+:a)(q:eR τ m p):eR a m p:=⟨q.1,q.2.1,q.2.2.1,q.2.2.2.imp λJ q=>⟨q.1.imp λJ J=>fR.mono h,q.2.mono h⟩⟩
def wK(W:World)(k:Nat)(as:List AK):List (Mem×Kind):=(if k=1 then W.r1 else W.r0).map λm=>(m,cell W k m.how as)
def IsT(W:World)(τ:List Row):Th->Nat->Prop
 |.six,t=>∃ps,τ[t]?=some (.obj ps)/\aG (eR τ) (wK W 0 W.six) ps
 |x,t=>fR τ x t
noncomputable def Row.tg(r:Row):Nat:=match r with
 |.ref d _=>d+3
 |.obj _=>0
 |.par _=>1
 |_=>2
noncomputable def Lf.tg(x:Lf):Nat:=match x with
 |.i3=>7
 |.i4=>0
 |.par _=>1
 |_=>6
def Th.tg(x:Th):Nat:=match x with
 |.lf x=>x.tg
 |.own k _=>k+4
 |.six=>0
theorem gI(h:IsL τ x t):∃r,τ[t]?=some r/\r.tg=x.tg:=by
 cases x with
 |i3=>exact⟨_,h,Y⟩
 |par=>exact⟨_,h,Y⟩
 |aY=>exact h.elim λJ h=>h.elim λJ h=>⟨_,h.1,Y⟩
 |_=>exact h.elim λJ h=>⟨_,h.1,Y⟩
theorem iO(h:IsT W τ x t):∃r,τ[t]?=some r/\r.tg=x.tg:=by
 cases x with
 |lf=>exact gI h
 |own=>exact h.2.elim λJ h=>⟨_,h.1,Y⟩
 |six=>exact h.elim λJ h=>⟨_,h.1,Y⟩
theorem j8{τ:List Row}{t n m:Nat}{P:Prop}(h:∃r,τ[t]?=some r/\r.tg=n)(c:∃r,τ[t]?=some r/\r.tg=m)(q:Nat.beq n m=false):P:=
 h.elim λJ a=>c.elim λJ b=>absurd ((a.2.symm.trans (aaU Row.tg (aa0 (a.1.symm.trans b.1)))).trans b.2) (Nat.ne_of_beq_eq_false q)
theorem tD{τ:List Row}{t n m:Nat}{P:Prop}(h:∃r,τ[t]?=some r/\r.tg=n)(c:∃r,τ[t]?=some r/\r.tg=m)(q:n≠m):P:=
 h.elim λJ a=>c.elim λJ b=>absurd ((a.2.symm.trans (aaU Row.tg (aa0 (a.1.symm.trans b.1)))).trans b.2) q
theorem Cp{τ:List Row}{t d a:Nat}{l l'}(h:τ[t]?=some (.ref d l))(b:τ[t]?=some (.ref a l')):d=a/\l=l':=Row.ref.inj (aa0 (h.symm.trans b))
theorem u7{τ:List Row}{t d c u a:Nat}(h:τ[t]?=some (.ref d [u]))(b:τ[t]?=some (.ref c [a])):u=a:=(List.cons.inj (Cp h b).2).1
theorem IsT.mono{W τ a}(h:τ<+:a){x t}(l:IsT W τ x t):IsT W a x t:=by
 cases x with
 |lf x=>exact IsL.mono h l
 |own k as=>exact fR.mono (x:=.own k as) h l
 |six=>exact l.imp λJ q=>⟨cU h q.1,q.2.imp λJ J=>eR.mono h⟩
def aB(W:World)(τ:List Row)(k:Kind)(t:Nat):Prop:=∃vs,aG (IsT W τ) k.2 vs/\PK τ k.1 vs t
theorem aB.mono(h:τ<+:a)(q:aB W τ k t):aB W a k t:=q.imp λJ q=>⟨q.1.imp λJ J=>IsT.mono h,q.2.mono h⟩
theorem zO:dD τ a t↔aB W τ a.kind t:=by
 obtain⟨b,x⟩:=a;cases x with
 |none=>
  refine⟨λh=>⟨[],trivial,h⟩,λh=>h.elim λvs q=>?_⟩;cases vs with
  |nil=>exact q.2
  |cons=>exact q.1.elim
 |some x=>
  refine⟨λh=>h.elim λv q=>⟨[v],⟨q.1,trivial⟩,q.2⟩,λh=>h.elim λvs q=>?_⟩;cases vs with
  |nil=>exact q.1.elim
  |cons v vs=>cases vs with
   |nil=>exact⟨v,q.1.1,q.2⟩
   |cons=>exact q.1.2.elim
def Atom(τ:List Row)(p:Nat):Prop:=∃r,τ[p]?=some r/\jf r=true/\(∀l,r≠.bl l)/\p≠1/\p≠2/\p≠8/\p≠14
theorem bJ{τ}(b:Base τ)(i:Nat){r}(h:k7[i]?=some r):τ[i]?=some r:=cU b h
theorem iL(b:Base τ)(h:τ[p]?=some r)(a:jf r=true)(d:∀l,r≠.bl l)(c:∀s,r≠.key s):Atom τ p:=by
 refine⟨r,h,a,d,?_,?_,?_,?_⟩<;>rintro rfl
 .rw[bJ b 1 Y] at h;cases h;exact c _ Y
 .rw[bJ b 2 Y] at h;cases h;exact c _ Y
 .rw[bJ b 8 Y] at h;cases h;cases a
 .rw[bJ b 14 Y] at h;cases h;cases a
theorem tq{τ}(b:Base τ){i p}(u:a6 τ i p):Atom τ p:=
 have k:∀{p r},τ[p]?=some r->jf r=true->_->Nat.beq p 1=false->Nat.beq p 2=false->Nat.beq p 8=false->Nat.beq p 14=false->Atom τ p:=λe h f a b c d=>⟨_,e,h,f,Nat.ne_of_beq_eq_false a,Nat.ne_of_beq_eq_false b,Nat.ne_of_beq_eq_false c,Nat.ne_of_beq_eq_false d⟩
 j4 (P:=λJ=>Atom τ) (λJ e=>iL b e Y nofun nofun) (λJ e=>iL b e Y nofun nofun) (k (bJ b 6 Y) Y nofun rfl Y Y Y) (k (bJ b 5 Y) Y nofun rfl Y Y Y) (k (bJ b 4 Y) Y nofun rfl Y Y Y) (k (bJ b 0 Y) Y nofun rfl Y Y Y) (k (bJ b 13 Y) Y nofun rfl Y Y Y) (λJ e=>iL b e Y nofun nofun) u
theorem Qe(b:Base τ)(h:IsL τ x t):Atom τ t:=by
 cases x with
 |i3=>exact iL b h Y (λJ e=>by cases e) λJ e=>by cases e
 |i4=>obtain⟨u,h,_⟩:=h;exact iL b h Y (λJ e=>by cases e) λJ e=>by cases e
 |par i=>exact iL b h Y (λJ e=>by cases e) λJ e=>by cases e
 |a9 c=>obtain⟨u,h,_⟩:=h;exact iL b h Y (λJ e=>by cases e) λJ e=>by cases e
 |aY c x=>obtain⟨u,v,h,_⟩:=h;exact iL b h Y (λJ e=>by cases e) λJ e=>by cases e
theorem vk(b:Base τ)(h:IsT W τ x t):Atom τ t:=by
 cases x with
 |lf x=>exact Qe b h
 |own k as=>obtain⟨_,us,h,_⟩:=h;exact iL b h Y (λJ e=>by cases e) λJ e=>by cases e
 |six=>obtain⟨ps,h,_⟩:=h;exact iL b h Y (λJ e=>by cases e) λJ e=>by cases e
theorem xu{τ}(b:Base τ){t K}(u:UT τ t K)(a:∀p∈K,Atom τ p):∃r,τ[t]?=some r/\f6 t r=K:=by
 rcases u with⟨rfl,rfl⟩|rfl|⟨h,e⟩
 .exact⟨_,bJ b 2 Y,Y⟩
 .obtain⟨r,f,_,d,_,c,_⟩:=a t (aK 0 Y);refine⟨r,f,?_⟩;unfold f6;rw[aa_ c];cases r<;>first|rfl|exact absurd Y (d _)
 .refine⟨_,e,?_⟩;unfold f6;by_cases q:t=2
  .subst q;rw[bJ b 2 Y] at e;cases e
  .rw[aa_ q]
theorem gS{τ:List Row}(c:τ.Nodup){i j:Nat}{r}(h:τ[i]?=some r)(d:τ[j]?=some r):i=j:=by
 obtain⟨b,e1⟩:=abg.mp h;obtain⟨a,e2⟩:=abg.mp d;have hp:=List.pairwise_iff_getElem.mp c;rcases Nat.lt_trichotomy i j with q|q|q
 .exact absurd (e1.trans e2.symm) (hp i j b a q)
 .exact q
 .exact absurd (e2.trans e1.symm) (hp j i a b q)
theorem m9{τ}(a:τ.Nodup){i p q}(u:a6 τ i p):a6 τ i q->p=q:=
 j4 (P:=λi p=>a6 τ i q->p=q) (λJ=>gS a) (λJ=>gS a) Eq.symm Eq.symm Eq.symm Eq.symm Eq.symm (λJ=>gS a) u
theorem Cr:∀{K c:List Nat},K.Pairwise (·<·)->c.Pairwise (·<·)->(∀p,p∈K↔p∈c)->K=c:=by
 intro K c h d e;exact List.Perm.eq_of_pairwise (λa b J J i f=>absurd i (Nat.lt_asymm f)) h d ((List.perm_ext_iff_of_nodup (h.imp λh=>abx h) (d.imp λh=>abx h)).mpr e)
theorem EB{τ}(c:τ.Nodup){t b K}(u:UT τ t K)(a:UT τ b K):t=b:=by
 rcases u with⟨rfl,rfl⟩|rfl|⟨h,e⟩
 .rcases a with⟨_,rfl⟩|h|⟨h,_⟩
  .rfl
  .cases h
  .simp at h
 .rcases a with⟨h,_⟩|h|⟨h,_⟩
  .cases h
  .simpa using h
  .simp at h
 .rcases a with⟨rfl,_⟩|rfl|⟨_,d⟩
  .simp at h
  .simp at h
  .exact gS c e d
theorem lV(f:τ.Nodup)(e:∀v,v∈vs↔v∈j):PK τ b vs t->PK τ b j y->t=y:=by
 rintro⟨K,⟨u,s⟩,B,A,z⟩ ⟨D,⟨x,s'⟩,w,r,l⟩;have:K=D:=by
  refine Cr s s' λp=>⟨λm=>?_,λm=>?_⟩
  .rcases B p m with m|⟨i,h,d⟩
   .exact r p ((e p).mp m)
   .obtain⟨q,c,a⟩:=l i h;exact(m9 f d a)▸c
  .rcases w p m with m|⟨i,h,d⟩
   .exact A p ((e p).mpr m)
   .obtain⟨q,c,a⟩:=z i h;exact(m9 f d a)▸c
 subst this
 exact EB f u x
theorem zG(c:τ.Nodup):∀{t i},IsL τ x t->IsL τ x i->t=i:=by
 induction x with
 |i3=>exact gS c
 |i4=>exactλh d=>h.elim λu q=>d.elim λf a=>gS c (lV c (λJ=>.rfl) q.2 a.2▸q.1) a.1
 |par=>exact gS c
 |a9=>exactλh d=>h.elim λu q=>d.elim λf a=>gS c (lV c (λJ=>.rfl) q.2 a.2▸q.1) a.1
 |aY b x j=>exactλh d=>h.elim λu q=>q.elim λv q=>d.elim λf a=>a.elim λl a=>gS c (lV c (λJ=>.rfl) (j q.2.1 a.2.1▸q.2.2) a.2.2▸q.1) a.1
theorem Q5(a:τ.Nodup)(h:dD τ x t)(d:dD τ x f):t=f:=by
 obtain⟨b,x⟩:=x;cases x with
 |none=>exact lV a (λJ=>.rfl) h d
 |some x=>exact h.elim λv q=>d.elim λi c=>lV a (λJ=>.rfl) (zG a q.1 c.1▸q.2) c.2
theorem yW(k:∀a b c,R a b->R a c->b=c)(h:aG R l m):aG R l m'->m=m':=
 h.ind (P:=λl m=>∀{m'},aG R l m'->m=m') (λ{m}h=>by
  cases m with
  |nil=>rfl
  |cons=>exact h.elim) λa b l m x _ r{m}h=>by
  cases m with
  |nil=>exact h.elim
  |cons b m=>rw[k _ _ _ x h.1,r h.2]
theorem Au(a:τ.Nodup)(h:fR τ x t)(c:fR τ x d):t=d:=by
 cases x with
 |lf x=>exact zG a h c
 |own k as=>exact h.2.elim λus q=>c.2.elim λf b=>gS a (yW (R:=dD τ) (λJ J J=>Q5 a) q.2 b.2▸q.1) b.1
 |six=>exact h.elim
theorem XW(f:τ.Nodup)(h:eR τ m p)(j:eR τ m i):p=i:=by
 obtain⟨a,b,c,vs,d,e⟩:=h;obtain⟨t,s,r,u,q,l⟩:=j;exact a_.mk.injEq .. ▸⟨a.trans t.symm,(lV f (λJ=>.rfl) (yW (R:=fR τ) (λJ J J=>Au f) d q▸e) l),b.trans s.symm,c.trans r.symm⟩
theorem fH(a:τ.Nodup)(h:IsT W τ x t)(b:IsT W τ x d):t=d:=by
 cases x with
 |lf x=>exact zG a h b
 |own k as=>exact Au (x:=.own k as) a h b
 |six=>exact h.elim λps q=>b.elim λf c=>gS a (yW (R:=eR τ) (λJ J J=>XW a) q.2 c.2▸q.1) c.1
def iB(W:World)(τ:List Row)(k:Kind)(p:Nat):Prop:=(∃x∈k.2,IsT W τ x p)\/∃j,k.1.testBit j=true/\a6 τ j p
structure KP(W)(τ:List Row)(k t)(K:List Nat):Prop where
 ut:UT τ t K
 sorted:K.Pairwise (·<·)
 mem:∀p,p∈K↔iB W τ k p
 gq:∀x∈k.2,∃v,IsT W τ x v
 hH:∀j,k.1.testBit j=true->∃p,a6 τ j p
theorem gG(r:τ.Nodup):aB W τ k t->∃K,KP W τ k t K:=by
 rintro⟨vs,a,K,⟨u,s⟩,B,A,w⟩;refine⟨K,u,s,λp=>⟨λm=>?_,λm=>?_⟩,λx m=>?_,λj e=>?_⟩
 .rcases B p m with m|⟨i,l,h⟩
  .obtain⟨x,c,d⟩:=a.gv m;exact .inl ⟨x,c,d⟩
  .exact .inr ⟨i,l,h⟩
 .rcases m with⟨x,c,d⟩|⟨i,l,h⟩
  .obtain⟨v,y,f⟩:=a.ic c;rw[fH r d f];exact A v y
  .obtain⟨q,z,b⟩:=w i l;rw[m9 r h b];exact z
 .obtain⟨v,_,f⟩:=a.ic m;exact⟨v,f⟩
 .obtain⟨q,_,b⟩:=w j e;exact⟨q,b⟩
theorem zK:(∀x∈l,∃v,R x v)->∃m,aG R l m:=by
 induction l with
 |nil=>exactλJ=>⟨[],trivial⟩
 |cons x l a=>exactλh=>(h x (.head _)).elim λv b=>(a λy m=>h y (.tail _ m)).elim λm c=>⟨v::m,b,c⟩
theorem TY{W τ}(i:τ.Nodup){k}{t K}(h:KP W τ k t K):aB W τ k t:=by
 obtain⟨vs,a⟩:=zK (R:=IsT W τ) h.gq;refine⟨vs,a,K,⟨h.ut,h.sorted⟩,λp m=>?_,λv m=>?_,λj e=>?_⟩
 .rcases(h.mem p).mp m with⟨x,b,c⟩|r
  .obtain⟨v,d,f⟩:=a.ic b;rw[fH i c f];exact .inl d
  .exact .inr r
 .obtain⟨x,b,c⟩:=a.gv m;exact(h.mem v).mpr (.inl ⟨x,b,c⟩)
 .obtain⟨p,u⟩:=h.hH j e;exact⟨p,(h.mem p).mpr (.inr ⟨j,e,u⟩),u⟩
theorem Nl:q∈dT G p↔q∈G\/q=p:=by
 unfold dT;by_cases h:p∈G
 .rw[abn h];exact⟨.inl,λe=>e.elim id λe=>e▸h⟩
 .rw[aa_ h];simp
theorem Dg:∀{ps G:List Nat},q∈ps.foldl dT G↔q∈G\/q∈ps
 |[],G=>by simp
 |p::ps,G=>by rw[List.foldl_cons,Dg,Nl,aa5,or_assoc]
theorem Qk(p)(h:G.Nodup):(dT G p).Nodup:=by
 unfold dT;by_cases q:p∈G
 .rw[abn q];exact h
 .rw[aa_ q,abR];exact⟨h,by simp,λa d b c e=>by simp at c;subst c;subst e;exact q d⟩
theorem CA:∀(ps:List Nat){G},G.Nodup->(ps.foldl dT G).Nodup
 |[],_,h=>h
 |p::ps,_,h=>CA ps (Qk p h)
theorem XQ(τ)(l:List Nat):∀{G},G.Nodup->(l.foldl (dm τ) G).Nodup:=by
 induction l with
 |nil=>exact id
 |cons i l a=>
  refineλ{G}h=>a ?_;unfold dm;cases τ[i]? with
  |none=>exact h
  |some r=>exact CA _ h
theorem Gv{τ q}{l:List Nat}:∀{G},q∈l.foldl (dm τ) G↔q∈G\/∃i∈l,∃r,τ[i]?=some r/\q∈f6 i r:=by
 induction l with
 |nil=>exact⟨.inl,λh=>h.elim id λh=>h.elim λJ h=>absurd h.1 abo⟩
 |cons i l a=>
  intro G;have t:q∈dm τ G i↔q∈G\/∃r,τ[i]?=some r/\q∈f6 i r:=by
   unfold dm;cases τ[i]? with
   |none=>exact⟨.inl,λh=>h.elim id λh=>h.elim λJ h=>nomatch h.1⟩
   |some r=>exact Dg.trans (or_congr_right ⟨λm=>⟨r,Y,m⟩,λh=>h.elim λJ h=>aa0 h.1▸h.2⟩)
  rw[List.foldl_cons,a,t,or_assoc];exact or_congr_right ⟨λh=>h.elim (λh=>⟨i,.head _,h⟩) λh=>h.imp λJ h=>⟨.tail _ h.1,h.2⟩,λh=>h.elim λj h=>(aa5.mp h.1).elim (λe=>.inl (e▸h.2)) λm=>.inr ⟨j,m,h.2⟩⟩
theorem Hg(b:Base τ)(h:iB W τ k p):Atom τ p:=by
 rcases h with⟨x,_,h⟩|⟨j,_,h⟩
 .exact vk b h
 .exact tq b h
theorem uh{W τ}(b:Base τ){k t K}(h:KP W τ k t K):∃r,τ[t]?=some r/\f6 t r=K:=
 xu b h.ut λp m=>Hg b ((h.mem p).mp m)
theorem Ee(d:τ.Nodup)(b:Base τ)(h:aG (aB W τ) ks l)(q):(∃i∈l,∃r,τ[i]?=some r/\q∈f6 i r)↔∃k∈ks,iB W τ k q:=by
 have one:∀{k i},aB W τ k i->((∃r,τ[i]?=some r/\q∈f6 i r)↔iB W τ k q):=λ{k i}h=>by
  obtain⟨K,a⟩:=gG d h;obtain⟨c,e,f⟩:=uh b a;rw[←a.mem q,←f];exact⟨λh=>h.elim λr h=>aa0 (e.symm.trans h.1)▸h.2,λm=>⟨c,e,m⟩⟩
 exact⟨λz=>z.elim λi z=>(h.gv z.1).imp λk y=>⟨y.1,(one y.2).mp z.2⟩,λz=>z.elim λk z=>(h.ic z.1).imp λi y=>⟨y.1,(one y.2).mpr z.2⟩⟩
theorem E6{b:Type}{P:b->Prop}{a l}:(P a\/∃x∈l,P x)↔∃x∈a::l,P x:=
 ⟨λh=>h.elim (λh=>⟨a,.head _,h⟩) λh=>h.imp λJ h=>⟨.tail _ h.1,h.2⟩,λh=>h.elim λj h=>(aa5.mp h.1).elim (λe=>.inl (e▸h.2)) λm=>.inr ⟨j,m,h.2⟩⟩
theorem AN{a:Type}{P:a->Prop}{A}:A↔A\/∃x∈([]:List a),P x:=⟨.inl,λh=>h.elim id λh=>h.elim λJ h=>absurd h.1 abo⟩
theorem OB(c:τ.Nodup)(b:Base τ)(h:aG (aB W τ) ks l):∀i∈l,∃r,τ[i]?=some r:=by
 intro i m;obtain⟨k,_,a⟩:=h.gv m;obtain⟨K,a⟩:=gG c a;obtain⟨r,e,_⟩:=uh b a;exact⟨r,e⟩
theorem G9{W}{τ b:List Row}(r:τ.Nodup)(hp:τ<+:b){k t}{K:List Nat}(i:UT b t K)(sorted:K.Pairwise (·<·))(mem:∀p,p∈K↔iB W τ k p)(h:∀x∈k.2,∃v,IsT W τ x v)(f:∀j,k.1.testBit j=true->∃p,a6 τ j p):aB W b k t:=by
 obtain⟨vs,a⟩:=zK h;refine⟨vs,a.imp λJ J=>IsT.mono hp,K,⟨i,sorted⟩,λp m=>?_,λv m=>?_,λj e=>?_⟩
 .rcases(mem p).mp m with⟨x,c,d⟩|⟨j,e,u⟩
  .obtain⟨v,l,q⟩:=a.ic c;rw[fH r d q];exact .inl l
  .exact .inr ⟨j,e,u.mono hp⟩
 .obtain⟨x,c,d⟩:=a.gv m;exact(mem v).mpr (.inl ⟨x,c,d⟩)
 .obtain⟨p,u⟩:=f j e;exact⟨p,(mem p).mpr (.inr ⟨j,e,u⟩),u.mono hp⟩
theorem hV:∀{b},(b7 b ks).testBit j=true↔b.testBit j=true\/∃k∈ks,k.1.testBit j=true:=by
 induction ks with
 |nil=>exact AN
 |cons k ks a=>
  intro b;refine(a (b:=b|||k.1)).trans ?_;rw[Nat.testBit_or,Bool.or_eq_true,or_assoc];exact or_congr_right (E6 (P:=λk:Kind=>k.1.testBit j=true))
theorem jW:∀{xs},x∈gc xs ks↔x∈xs\/∃k∈ks,x∈k.2:=by
 induction ks with
 |nil=>exact AN
 |cons k ks a=>
  intro xs;refine(a).trans ?_;rw[abq,abZ,decide_eq_true_iff,or_assoc,←E6];exact⟨λh=>h.imp id (Or.imp And.left id),λh=>(Decidable.em _).elim .inl λn=>h.imp id (Or.imp (λm=>⟨m,n⟩) id)⟩
theorem O':(32:Nat).testBit j=decide (j=5):=by
 have:32=2^5:=Y
 rw[this,Nat.testBit_two_pow]
 by_cases h:j=5
 .subst h;rfl
 .have a:¬5=j:=λe=>h e.symm;simp[h,a]
theorem WX:(64:Nat).testBit j=decide (j=6):=by
 have:64=2^6:=Y
 rw[this,Nat.testBit_two_pow]
 by_cases h:j=6
 .subst h;rfl
 .have a:¬6=j:=λe=>h e.symm;simp[h,a]
theorem qS(a:j<8):(dr b).testBit j=(b.testBit j&&!(decide (j=0)&&b.testBit 2)&&!(decide (j=7)&&(b.testBit 2||b.testBit 0))):=by
 unfold dr;cases b.testBit 2 with
 |true=>rw[abn Y,Nat.testBit_and,(():∀j<8,(126:Nat).testBit j=(!decide (j=0)&&!decide (j=7))) j a];exact(():∀x y z w,(x&&(!y&&!z))=(x&&!(y&&true)&&!(z&&(true||w)))) _ _ _ _
 |false=>
  rw[aa_ aaY];cases b.testBit 0 with
  |true=>rw[abn Y,Nat.testBit_and,(():∀j<8,(127:Nat).testBit j=!decide (j=7)) j a];exact(():∀x y z,(x&&!z)=(x&&!(y&&false)&&!(z&&_))) _ _ _
  |false=>rw[aa_ aaY];exact(():∀x y z,x=(x&&!(y&&false)&&!(z&&_))) _ _ _
theorem rh(e:(dr b).testBit j=true):b.testBit j=true:=by
 unfold dr at e;by_cases h:b.testBit 2=true
 .rw[abn h,Nat.testBit_and,abY] at e;exact e.1
 .rw[aa_ h] at e;by_cases a:b.testBit 0=true
  .rw[abn a,Nat.testBit_and,abY] at e;exact e.1
  .rw[aa_ a] at e;exact e
theorem hO(u:a6 τ j p):j<8:=
 j4 (P:=λj J=>j<8) (λJ J=>()) (λJ J=>()) () () () () () (λJ J=>()) u
noncomputable def h8:Nat->Option Row
 |0=>some (.str 0)
 |1=>some .num
 |2=>some (.key "string")
 |3=>some (.key "null")
 |4=>some (.key "undefined")
 |5=>some (.key "any")
 |6=>some (.key "error")
 |7=>some (.str 1)
 |_=>none
theorem p6(b:Base τ)(u:a6 τ j p):τ[p]?=h8 j/\(h8 j).isSome=true:=
 j4 (P:=λj p=>τ[p]?=h8 j/\(h8 j).isSome=true) (λJ u=>⟨u,Y⟩) (λJ u=>⟨u,Y⟩) ⟨bJ b 6 Y,Y⟩ ⟨bJ b 5 Y,Y⟩ ⟨bJ b 4 Y,Y⟩ ⟨bJ b 0 Y,Y⟩ ⟨bJ b 13 Y,Y⟩ (λJ u=>⟨u,Y⟩) u
theorem K0(b:i<8)(a:j<8)(e:h8 i=h8 j):i=j:=(():∀i<8,∀j<8,h8 i=h8 j->i=j) i b j a e
theorem kg(b:Base τ)(u:a6 τ i p)(v:a6 τ j p):i=j:=
 K0 (hO u) (hO v) ((p6 b u).1.symm.trans (p6 b v).1)
theorem LN(h:τ[p]?=some r)(c:∀f,r≠.str f)(a:r≠.num):fZ τ G p=true:=by
 have b:bN G (-1)=false:=by
  unfold bN;rw[List.any_eq_false];intro x _;simp
 rw[nT h];unfold ru<;>first|exact absurd Y _|exact absurd Y a|(simp only[jV,yv,b];rfl)
theorem ud{x:Th}:2≠x.tg:=by
 cases x with
 |lf x=>cases x<;>exact Nat.ne_of_beq_eq_false Y
 |own k as=>exactλe=>nomatch (Nat.succ.inj (Nat.succ.inj e))
 |six=>exact Nat.ne_of_beq_eq_false Y
theorem LQ(h:IsT W τ x p):∃r,τ[p]?=some r/\(∀f,r≠.str f)/\r≠.num:=
 (iO h).elim λr e=>⟨r,e.1,λJ q=>ud ((aaU Row.tg q).symm.trans e.2),λq=>ud ((aaU Row.tg q).symm.trans e.2)⟩
theorem WQ(b:Base τ)(u:a6 τ j p):∃r,τ[p]?=some r/\r.tg=2:=
 j4 (P:=λJ p=>∃r,τ[p]?=some r/\r.tg=2) (λJ u=>⟨_,u,Y⟩) (λJ u=>⟨_,u,Y⟩) ⟨_,bJ b 6 Y,Y⟩ ⟨_,bJ b 5 Y,Y⟩ ⟨_,bJ b 4 Y,Y⟩ ⟨_,bJ b 0 Y,Y⟩ ⟨_,bJ b 13 Y,Y⟩ (λJ u=>⟨_,u,Y⟩) u
theorem gW(b:Base τ)(u:a6 τ j p)(h:IsT W τ x p):False:=tD (WQ b u) (iO h) ud
theorem FL:bN G (-1)=false:=by
 unfold bN;rw[List.any_eq_false];intro x _;simp
theorem Ln(b:Base τ)(c:bN G 6=a)(f:bN G 7=false)(gt:bN G (jV τ (.str 1))=d)(u:a6 τ j p):fZ τ G p=(!(decide (j=0)&&a)&&!(decide (j=7)&&(a||d))):=
 have n:=@FL G
 have k:∀{p s},τ[p]?=some (.key s)->fZ τ G p=true:=λe=>(nT e).trans (show(_&&!bN G (-1))=true from aaU (λb=>!b) n▸Y)
 j4 (P:=λj p=>fZ τ G p=(!(decide (j=0)&&a)&&!(decide (j=7)&&_))) (λJ u=>by
  rw[nT u];show(!bN G (-1)&&!bN G 6)=_;rw[c,n];cases a<;>rfl) (λJ u=>by
  rw[nT u];show(!bN G (-1)&&!bN G 7)=_;rw[f,n];rfl) (k (bJ b 6 Y)) (k (bJ b 5 Y)) (k (bJ b 4 Y)) (k (bJ b 0 Y)) (k (bJ b 13 Y)) (λJ u=>by
  rw[nT u];show(!bN G _&&!bN G 6)=_;rw[gt,c];cases a<;>cases d<;>rfl) u
theorem Xr(h:G.Nodup):(fU G).Pairwise (·<·):=by
 have d:(sortI (G.map λ(p:Nat)=>(p))).Pairwise (·<=·):=(List.pairwise_mergeSort (le:=λa b:Int=>decide _) (λa b c d f=>by simp at d f⊢;omega) (λa b=>by simp;omega) _).imp λh=>by simpa using h
 rw[←AF,List.pairwise_map] at d;exact(d.and ((q0 G).nodup_iff.mpr h)).imp λ⟨a,b⟩=>by omega
theorem Y5{W τ a}(d:τ.Nodup)(b:Base τ)(hp:τ<+:a){ks l}(h:aG (aB W τ) ks l){i}(c:UT a i (qi τ (l.foldl (dm τ) []))):aB W a (aS ks) i:=by
 have t:=λq=>Gv.trans ((or_iff_right abo).trans (Ee d b h q));have y:=XQ τ l ab6;generalize l.foldl (dm τ) []=G at t y c;have w:∀k∈ks,∀j,k.1.testBit j=true->∃v,a6 τ j v:=λk m j=>(h.ic m).elim λi q=>(gG d q.2).elim λK q=>q.hH j;have bit:∀j,(∃p,a6 τ j p/\p∈G)↔(b7 0 ks).testBit j=true:=λj=>by
  rw[hV];constructor
  .rintro⟨p,u,m⟩;obtain⟨k,mk,U⟩:=(t p).mp m;exact U.elim (λq=>q.elim λx q=>(gW b u q.2).elim) λq=>q.elim λj' q=>.inr ⟨k,mk,kg b u q.2▸q.1⟩
  .exactλh=>h.elim (λh=>absurd ((Nat.zero_testBit j).symm.trans h) aaY) λq=>q.elim λk q=>(w k q.1 j q.2).imp λv u=>⟨u,(t v).mpr ⟨k,q.1,.inr ⟨j,q.2,u⟩⟩⟩
 have g:∀p u,(∀q,a6 τ u q->q=p)->a6 τ u p->bN G (p)=(b7 0 ks).testBit u:=λp u k k'=>by
  rw[pF,abP,abr,←bit u];exact⟨λm=>⟨p,k',m⟩,λq=>q.elim λT q=>k T q.1▸q.2⟩
 have no:∀{B},B=false->¬B=true:=λe z=>aaY (e.symm.trans z);have M:=g 0 5 (λJ u=>u) Y;have A:=g 13 6 (λJ u=>u) Y;have single:∀B u p,(∀j,B.testBit j=true↔j=u)->a6 τ u p->(∀q,a6 τ u q->q=p)->UT a i [p]->aB W a (B,[]) i:=λB u p L k k' c=>
  G9 d hp c (List.pairwise_singleton ..) (λq=>⟨λm=>.inr ⟨u,(L u).mpr Y,aaT.mp m▸k⟩,λz=>z.elim (λz=>z.elim λx z=>absurd z.1 abo) λz=>z.elim λj z=>aaT.mpr (k' q ((L j).mp z.1▸z.2))⟩) nofun λj e=>⟨p,(L j).mp e▸k⟩
 cases f:(b7 0 ks).testBit 5 with
 |true=>
  rw[show aS ks=(32,[]) from abn f];exact single 32 5 0 (λj=>by rw[O',abr]) Y (λJ u=>u) ((abn (M.trans f))▸c)
 |false=>cases H:(b7 0 ks).testBit 6 with
  |true=>
   rw[show aS ks=(64,[]) from(aa_ (no f)).trans (abn H)];exact single 64 6 13 (λj=>by rw[WX,abr]) Y (λJ u=>u) (((aa_ (no (M.trans f))).trans (abn (A.trans H)))▸c)
  |false=>
   rw[show aS ks=_ from(aa_ (no f)).trans (aa_ (no H))];rw[show qi τ G=(fU G).filter (fZ τ G) from(aa_ (no (M.trans f))).trans (aa_ (no (A.trans H)))] at c;have g7:bN G 7=false:=by
    rw[show 7=((7:Nat):Int) from Y,pF,decide_eq_false_iff_not,t];rintro⟨k,_,h⟩;exact h.elim (λh=>h.elim λx h=>tD ⟨_,bJ b 7 Y,Y⟩ (iO h.2) ud) λh=>h.elim λj h=>(():∀j<8,some (Row.key "number")≠h8 j) j (hO h.2) ((bJ b 7 Y).symm.trans (p6 b h.2).1)
   have gt:bN G (jV τ (.str 1))=(b7 0 ks).testBit 0:=by
    rw[abP,←bit 0];simp only[jV];by_cases D:Row.str 0∈τ
    .rw[abn ⟨trivial,D⟩,pF,abr];have Q:a6 τ 0 _:=zL D;exact⟨λm=>⟨_,Q,m⟩,λq=>q.elim λp q=>m9 d Q q.1▸q.2⟩
    .rw[aa_ λh=>D h.2,FL];exact⟨Bool.noConfusion,λq=>q.elim λp q=>(D (abk (q.1))).elim⟩
   have st:∀{j p},a6 τ j p->(dr (b7 0 ks)).testBit j=((b7 0 ks).testBit j&&fZ τ G p):=λu=>by
    rw[qS (hO u),Ln b (g 6 2 (λJ u=>u) Y) g7 gt u,Bool.and_assoc]
   refine G9 d hp c ((Xr y).filter _) (λp=>?_) (λx s=>?_) λj e=>?_
   .rw[abZ,(q0 G).mem_iff,t];constructor
    .rintro⟨⟨k,mk,h⟩,hs⟩;exact h.elim (λh=>h.elim λx h=>.inl ⟨x,jW.mpr (.inr ⟨k,mk,h.1⟩),h.2⟩) λh=>h.elim λj h=>.inr ⟨j,(st h.2).trans ((abY ..).mpr ⟨hV.mpr (.inr ⟨k,mk,h.1⟩),hs⟩),h.2⟩
    .rintro(⟨x,s,N⟩|⟨j,e,u⟩)
     .exact(jW.mp s).elim nofun λq=>q.elim λk q=>(LQ N).elim λr z=>⟨⟨k,q.1,.inl ⟨x,q.2,N⟩⟩,LN z.1 z.2.1 z.2.2⟩
     .have e:=(abY ..).mp ((st u).symm.trans e);exact(hV.mp e.1).elim (λh=>absurd ((Nat.zero_testBit j).symm.trans h) aaY) λq=>q.elim λk q=>⟨⟨k,q.1,.inr ⟨j,q.2,u⟩⟩,e.2⟩
   .exact(jW.mp s).elim nofun λq=>q.elim λk q=>(λk m x s=>(h.ic m).elim λi q=>(gG d q.2).elim λK q=>q.gq x s) k q.1 x q.2
   .exact(hV.mp (rh e)).elim (λh=>absurd ((Nat.zero_testBit j).symm.trans h) aaY) λq=>q.elim λk q=>w k q.1 j q.2
theorem lR{a:Type}[DecidableEq a]{K:List a}:∀{M:List a},K.Nodup->(∀x∈K,x∈M)->K.length<=M.length:=by
 induction K with
 |nil=>exactλJ J=>aa9 _
 |cons x K d=>
  intro M h s;have h:=abv.mp h;have c:=s x (.head _);exact Nat.succ_le_of_lt (aaZ ((List.length_erase_of_mem c)▸(d h.2 λy b=>(List.mem_erase_of_ne λe:y=x=>h.1 (e▸b)).mpr (s y (.tail _ b)))) (Nat.sub_lt (List.length_pos_of_mem c) ()))
noncomputable def pc(b:Nat):Nat:=((List.range 8).filter λj=>b.testBit j).length
theorem BQ(b):pc b<=8:=by
 unfold pc;simpa using(abS _ (List.range 8))
open Classical in
theorem R5(a:τ.Nodup)(b:Nat):∃us:List Nat,us.length=pc b/\∀j p,b.testBit j=true->a6 τ j p->p∈us:=by
 refine⟨((List.range 8).filter λj=>b.testBit j).map λj=>if h:∃p,a6 τ j p then h.choose else 0,by simp[pc],λj p e u=>?_⟩
 refine aa6.mpr ⟨j,abZ.mpr ⟨List.mem_range.mpr (hO u),e⟩,?_⟩;have h:∃p,a6 τ j p:=⟨p,u⟩;rw[dif_pos h];exact m9 a h.choose_spec u
theorem vY{W τ}(b:τ.Nodup){k t K}(h:KP W τ k t K):K.length<=k.2.length+pc k.1:=by
 obtain⟨us,l,q⟩:=R5 b k.1;obtain⟨vs,a⟩:=zK h.gq;have:=lR (M:=vs++us) (h.sorted.imp abx) λp m=>by
  rcases(h.mem p).mp m with⟨x,c,f⟩|⟨j,e,u⟩
  .obtain⟨v,d,i⟩:=a.ic c;exact(fH b f i)▸abe _ d
  .exact abi _ (q j p e u)
 rw[aa4,l,←a.length] at this
 exact this
theorem M'(ps:List Nat):∀G,(ps.foldl dT G).length<=G.length+ps.length:=by
 induction ps with
 |nil=>exactλJ=>aaX _
 |cons p ps a=>
  intro G;have h:(dT G p).length<=G.length+1:=by unfold dT;split<;>simp
  exact aaS (a _) (aaS (aa2 h _) (aa7 (by rw[abt,abu,abE 1])))
def lC(ks:List Kind):Nat:=(ks.map λk=>k.2.length+pc k.1).sum
theorem Yj(a:τ.Nodup)(b:Base τ)(h:aG (aB W τ) ks l):(l.foldl (dm τ) G).length<=G.length+lC ks:=
 h.ind (P:=λks l=>∀{G},(l.foldl (dm τ) G).length<=G.length+lC ks) (λ{G}=>aaX _) λk i ks l h _ d{G}=>by
  obtain⟨K,c⟩:=gG a h;obtain⟨m,e,j⟩:=uh b c;have f:(dm τ G i).length<=G.length+(k.2.length+pc k.1):=by
   unfold dm;rw[e];dsimp only;rw[j];exact aaS (M' ..) (aa3 (vY a c) _)
  exact aaS (d) (aaS (aa2 f _) (aa7 (abu ..)))
structure bg(σ T)(τ c aj cm):Prop where
 tab:Tab aj T cm
 chg:ag [T.rows,T.index] σ aj
 pre:τ<+:cm
 len:cm.length<=τ.length+c
theorem SS:aB W τ (16,[]) 4:=by
 have a:∀j,(16:Nat).testBit j=decide (j=4):=λj=>by
  have:16=2^4:=Y
  rw[this,Nat.testBit_two_pow]
  by_cases h:j=4
  .subst h;rfl
  .have b:¬4=j:=λe=>h e.symm;simp[h,b]
 refine⟨[],trivial,[4],⟨.inr (.inl Y),by simp⟩,λp m=>?_,λv m=>(nomatch m),λj e=>?_⟩
 .have:p=4:=by simpa using m
  subst this
  exact .inr ⟨4,Y,Y⟩
 .rw[a,abr] at e;subst e;exact⟨4,by simp,Y⟩
theorem OH{τ}(b:Base τ){t K a}(u:UT τ t K)(d:UT τ t a)(h:∀p∈K,Atom τ p)(i:∀p∈a,Atom τ p):K=a:=by
 obtain⟨r,e,p⟩:=xu b u h;obtain⟨j,c,f⟩:=xu b d i;rw[e] at c;cases c
 exact p.symm.trans f
theorem iU{W τ}(b:Base τ){c c' vs f t}(H:∀v∈vs,∃x,IsT W τ x v)(q:∀v∈f,∃x,IsT W τ x v)(h:PK τ c vs t)(h':PK τ c' f t):c=c'/\∀v,v∈vs↔v∈f:=by
 obtain⟨K,⟨u,s⟩,L,h2,h3⟩:=h;obtain⟨K',⟨u',s'⟩,r,N,M⟩:=h';have T:=λp m=>by
  rcases L p m with m|⟨j,_,u⟩
  .obtain⟨x,l⟩:=H p m;exact vk b l
  .exact tq b u
 have Q:=λp m=>by
  rcases r p m with m|⟨j,_,u⟩
  .obtain⟨x,l⟩:=q p m;exact vk b l
  .exact tq b u
 have e:=OH b u u' T Q;subst e;have bits:∀{d w:Nat}{ws a:List Nat},(∀v∈a,∃x,IsT W τ x v)->(∀p∈K,p∈a\/∃i,w.testBit i=true/\a6 τ i p)->(∀i,d.testBit i=true->∃p∈K,a6 τ i p)->∀j,d.testBit j=true->w.testBit j=true:=by
  intro d w ws a D B A j e;obtain⟨p,m,U⟩:=A j e;rcases B p m with m'|⟨i,ei,z⟩
  .obtain⟨x,l⟩:=D p m';exact(gW b U l).elim
  .exact(kg b U z)▸ei
 have y:∀{w:Nat}{ws a:List Nat},(∀v∈ws,∃x,IsT W τ x v)->(∀p∈K,p∈a\/∃i,w.testBit i=true/\a6 τ i p)->(∀v∈ws,v∈K)->∀v,v∈ws->v∈a:=by
  intro w ws a D B A v m;rcases B v (A v m) with m'|⟨i,ei,z⟩
  .exact m'
  .obtain⟨x,l⟩:=D v m;exact(gW b z l).elim
 refine⟨Nat.eq_of_testBit_eq λj=>?_,λv=>⟨y H r h2 v,y q L N v⟩⟩;rw[abP];exact⟨bits (ws:=vs) q r h3 j,bits (ws:=f) H L M j⟩
theorem PY(h:IsL τ x v):∃y,IsT W τ y v:=⟨.lf x,h⟩
noncomputable def w0:World:=⟨0,[],[],⟨0,0,0,0⟩,0,[]⟩
theorem jN:∀w∈([]:List Nat),∃y,IsT w0 τ y w:=λJ m=>nomatch m
theorem jR(l:IsL τ x v):∀w∈[v],∃y,IsT w0 τ y w:=λw m=>aaT.mp m▸PY l
theorem C_(b:Base τ)(h:IsL τ x t)(a:IsL τ y t):x=y:=by
 have no {v P} (e:∀w,w∈[v]↔w∈([]:List Nat)):P:=absurd ((e v).mp (.head _)) abo;have m {v P} (e:∀w,w∈([]:List Nat)↔w∈[v]):P:=absurd ((e v).mpr (.head _)) abo;induction x generalizing y t with
 |i3=>cases y<;>first|rfl|exact j8 (gI h) (gI a) Y
 |i4=>cases y<;>first|rfl|exact j8 (gI h) (gI a) Y
 |par i=>
  cases y with
  |par j=>exact aaU Lf.par (Row.par.inj (aa0 (h.symm.trans a)))
  |_=>exact j8 (gI h) (gI a) Y
 |a9 c=>
  obtain⟨u,h,k⟩:=h;cases y with
  |a9 f=>
   obtain⟨d,a,k'⟩:=a;cases u7 h a
   exact aaU Lf.a9 (iU b jN jN k k').1
  |aY f y=>
   obtain⟨d,p,a,l',k'⟩:=a;cases u7 h a
   exact m (iU b jN (jR l') k k').2
  |_=>exact j8 ⟨_,h,Y⟩ (gI a) Y
 |aY c x q=>
  obtain⟨u,v,h,l,k⟩:=h;cases y with
  |aY f y=>
   obtain⟨d,p,a,l',k'⟩:=a;cases u7 h a
   obtain⟨e1,e2⟩:=iU b (jR l) (jR l') k k';cases aaT.mp ((e2 v).mp (.head _))
   exact congr (aaU Lf.aY e1) (q l l')
  |a9 f=>
   obtain⟨d,a,k'⟩:=a;cases u7 h a
   exact no (iU b (jR l) jN k k').2
  |_=>exact j8 ⟨_,h,Y⟩ (gI a) Y
theorem Tz(b:Base τ)(h:dD τ x t)(a:dD τ y t):x=y:=by
 obtain⟨c,_|x⟩:=x<;>obtain⟨f,_|y⟩:=y
 .exact aaU (·,none) (iU b jN jN h a).1
 .exact a.elim λv q=>absurd (((iU b jN (jR q.1) h q.2).2 v).mpr (.head _)) abo
 .exact h.elim λv q=>absurd (((iU b (jR q.1) jN q.2 a).2 v).mp (.head _)) abo
 .obtain⟨v,l,k⟩:=h;obtain⟨d,l',k'⟩:=a;obtain⟨e1,e2⟩:=iU b (jR l) (jR l') k k';cases aaT.mp ((e2 v).mp (.head _))
  exact Prod.ext e1 (aaU some (C_ b l l'))
theorem Ys(k:∀a d b,R a b->R d b->a=d)(h:aG R l m)(c:aG R l' m):l=l':=by
 induction l generalizing l' m with
 |nil=>cases m<;>cases l'<;>first|rfl|exact h.elim|exact c.elim
 |cons a l f=>cases m<;>cases l'<;>first|exact h.elim|exact c.elim|exact congr (aaU List.cons (k _ _ _ h.1 c.1)) (f h.2 c.2)
def World.namesOk(W:World):Prop:=∀m∈W.r0,m.nm≠112
theorem LH{W}(f:W.namesOk){τ t}{P:Prop}(h:IsL τ .i4 t)(b:IsT W τ .six t):P:=by
 obtain⟨u,h,_⟩:=h;obtain⟨ps,b,a⟩:=b;cases aa0 (h.symm.trans b)
 obtain⟨m,d,e,_⟩:=a.gv (.head _);obtain⟨m',c,rfl⟩:=aa6.mp d;exact absurd e.symm (f m' c)
theorem Hz{x:Lf}{k}(h:k<2):x.tg≠k+4:=λe=>by
 rcases(show x.tg=7\/x.tg=0\/x.tg=1\/x.tg=6 by cases x<;>first|exact .inl Y|exact .inr (.inl Y)|exact .inr (.inr (.inl Y))|exact .inr (.inr (.inr Y))) with q|q|q|q<;>omega
theorem FW{W}(b:W.namesOk){τ x t}{P:Prop}(h:IsL τ x t)(a:IsT W τ .six t):P:=by
 cases x with
 |i4=>exact LH b h a
 |_=>exact j8 (gI h) (iO a) Y
theorem iQ{W}(d:W.namesOk){τ}(b:Base τ){x y t}(h:IsT W τ x t)(c:IsT W τ y t):x=y:=by
 cases x with
 |lf x=>cases y with
  |lf y=>exact aaU Th.lf (C_ b h c)
  |own k as=>exact tD (gI h) (iO c) (Hz c.1)
  |six=>exact FW d h c
 |own k as=>cases y with
  |lf y=>exact tD (gI c) (iO h) (Hz h.1)
  |own k' j=>
   obtain⟨_,us,h,a⟩:=h;obtain⟨_,i,c,f⟩:=c;obtain⟨e1,rfl⟩:=Cp h c;exact congr (aaU Th.own (Nat.succ.inj e1)) (Ys (R:=dD τ) (λJ J J=>Tz b) a f)
  |six=>exact j8 (iO h) (iO c) Y
 |six=>cases y with
  |lf y=>exact FW d c h
  |own k as=>exact j8 (iO c) (iO h) Y
  |six=>rfl
theorem hZ{W}(l:W.namesOk){τ}(b:Base τ){k k' t}:aB W τ k t->aB W τ k' t->k.1=k'.1/\∀x,x∈k.2↔x∈k'.2:=by
 rintro⟨vs,a,p⟩ ⟨r,j,q⟩;obtain⟨e1,e2⟩:=iU b (λv m=>let⟨x,_,h⟩:=a.gv m;⟨x,h⟩) (λv m=>let⟨x,_,h⟩:=j.gv m;⟨x,h⟩) p q;refine⟨e1,λx=>⟨λm=>?_,λm=>?_⟩⟩
 .obtain⟨v,d,i⟩:=a.ic m;obtain⟨y,c,f⟩:=j.gv ((e2 v).mp d);exact(iQ l b i f)▸c
 .obtain⟨v,d,i⟩:=j.ic m;obtain⟨y,c,f⟩:=a.gv ((e2 v).mpr d);exact(iQ l b i f)▸c
noncomputable def CN:Row->Bool
 |.fC _ _=>true
 |.str _=>true
 |.num=>true
 |_=>false
noncomputable def Ir:Row->Bool
 |.fC _ f=>decide (f=1)
 |.str f=>decide (f=1)
 |_=>false
structure HH where
 host:Nat
 ins:Nat
noncomputable def G0(H:HH)(T:TH):List (V×AV):=[(257,.loc T.tab),(122,.int 0),(175,.int 200),(174,.int 40),(146,.loc H.ins)]
structure Host(σ:Sg)(H:HH)(T es):Prop where
 host:σ[H.host]?=some (.inst 541 (G0 H T))
 ins:σ[H.ins]?=some (.dict .tup es)
theorem oh{a b:Nat}:Builtin.bitAnd (a) (b)=((a&&&b:Nat):Int):=by
 simp[Builtin.bitAnd]
theorem n'{a b:Nat}:Builtin.bitOr (a) (b)=((a|||b:Nat):Int):=by
 have h:∀x:Nat,¬(0<=Builtin.bitNot (x)):=λx=>by delta Builtin.bitNot;omega
 have e:∀x,Builtin.bitNot (Builtin.bitNot x)=x:=λx=>by delta Builtin.bitNot;omega
 delta Builtin.bitOr Builtin.bitAnd;rw[abf (h a),abf (h b)];rw[e,e,e];simp
noncomputable def xZ(p:a_):Bool:=decide (p.ms&&&34≠0)
def bP(m:Mem)(k:Kind):Kind:=if m.ms.testBit 0 then aS [k,(16,[])] else k
theorem Iq:a&&&1=if a.testBit 0 then 1 else 0:=by
 rcases(by omega:a%2=0\/a%2=1) with h|h<;>simp[h]
def eQ(σ:Sg)(a:Nat)(ps:List Nat)(body:Nat):Prop:=∃fs,σ[a]?=some (.inst 201 fs)/\fs.lookup 200=some (.tup (ps.map iv))/\fs.lookup 106=some (iv body)/\fs.lookup 104=some (.tup [])
structure DH where
 a:Nat->Nat
 b:Nat->Nat
noncomputable def aX(W:World)(k:Nat):List Nat:=if k=3 then[] else if k=2 then[4] else if W.n=2 then[2*k,2*k+1] else[2*k]
structure Decls(σ:Sg)(T:TH)(W)(D:DH):Prop where
 list:σ[T.decls]?=some (.list [.none,.loc (D.a 0),.loc (D.a 1),.loc (D.a 2),.loc (D.a 3)])
 decl:∀k<4,eQ σ (D.a k) (aX W k) (D.b k)
def gM(M:List (Nat×Nat)):List (AV×AV):=M.map λp=>(iv p.1,iv p.2)
theorem Xn:aO (gM M) (iv i)=(M.lookup i).map iv:=by
 induction M with
 |nil=>rfl
 |cons p M a=>
  unfold gM aO at a⊢;rw[abM,List.find?_cons,abX];by_cases q:p.1=i
  .have:(i==p.1)=true:=by rw[q];simp
   subst q;simp
  .have c:decide (iv p.1=iv i)=false:=by rw[decide_eq_false_iff_not,dO];exact q
   have b:(i==p.1)=false:=by rw[abJ];exactλe=>q e.symm
   rw[b];simp only[c];exact a
noncomputable def vq:Row->Bool
 |.key _=>true
 |.fC _ _=>true
 |.str _=>true
 |.num=>true
 |_=>false
noncomputable def jU(τ:List Row)(M:List (Nat×Nat))(u:Nat):Nat:=match τ[u]? with
 |some (.par p)=>(M.lookup p).getD u
 |_=>u
def y4(τ:List Row)(M:List (Nat×Nat))(u:Nat):Prop:=(∃p a,τ[u]?=some (.par p)/\M.lookup p=some a)\/∃r,τ[u]?=some r/\vq r=true
theorem xG(c:∀j,(b7 0 ks).testBit j=(b7 0 a).testBit j)(b:∀x,(∃k∈ks,x∈k.2)↔∃k∈a,x∈k.2):(aS ks).1=(aS a).1/\∀x,x∈(aS ks).2↔x∈(aS a).2:=by
 unfold aS;rw[(Nat.eq_of_testBit_eq c)];by_cases h:(b7 0 a).testBit 5=true
 .rw[abn h,abn h];exact⟨Y,λJ=>.rfl⟩
 .rw[aa_ h,aa_ h];by_cases h:(b7 0 a).testBit 6=true
  .rw[abn h,abn h];exact⟨Y,λJ=>.rfl⟩
  .rw[aa_ h,aa_ h];exact⟨Y,λx=>by rw[jW,jW,b x]⟩
theorem BZ(d:τ.Nodup)(f:k.1=k'.1)(b:∀x,x∈k.2↔x∈k'.2)(h:aB W τ k t):aB W τ k' t:=by
 obtain⟨K,a⟩:=gG d h;refine TY d ⟨a.ut,a.sorted,λp=>?_,λx m=>a.gq x ((b x).mpr m),λj e=>a.hH j (f▸e)⟩;rw[a.mem p];unfold iB;rw[f];constructor<;>rintro(⟨x,m,c⟩|r)
 .exact .inl ⟨x,(b x).mp m,c⟩
 .exact .inr r
 .exact .inl ⟨x,(b x).mpr m,c⟩
 .exact .inr r
theorem fD(h:IsT W τ x t):aB W τ (0,[x]) t:=
 ⟨[t],⟨h,trivial⟩,[t],⟨.inr (.inl Y),by simp⟩,λp m=>.inl m,λv m=>m,λj e=>by simp at e⟩
theorem mn(h:a6 τ j p):aB W τ (2^j,[]) p:=by
 have a:∀i,(2^j).testBit i=decide (i=j):=λi=>by
  by_cases h:j=i
  .subst h;simp
  .have b:¬i=j:=λe=>h e.symm;simp[h,b]
 refine⟨[],trivial,[p],⟨.inr (.inl Y),by simp⟩,λq m=>?_,λv m=>(nomatch m),λi e=>?_⟩
 .have:q=p:=by simpa using m
  subst this
  exact .inr ⟨j,by simp,h⟩
 .rw[a,abr] at e;subst e;exact⟨p,by simp,h⟩
theorem yS(h:PK τ 0 [v] t):t=v:=by
 obtain⟨K,⟨u,s⟩,d,c,f⟩:=h;have all:=λp m=>(d p m).elim aaT.mp λq=>q.elim λj q=>absurd ((Nat.zero_testBit j).symm.trans q.1) aaY;have b:=c v (aK 0 Y);have e:K=[v]:=by
  cases K with
  |nil=>exact nomatch b
  |cons a K=>cases K with
   |nil=>rw[all a (.head _)]
   |cons q r=>exact absurd ((List.pairwise_cons.mp s).1 q (.head _)) (by rw[all a (.head _),all q (.tail _ (.head _))];exact Nat.lt_irrefl _)
 subst e;rcases u with⟨h,_⟩|h|⟨h,_⟩
 .cases h
 .exact((List.cons.inj h).1).symm
 .exact absurd h (Nat.not_succ_le_self 1)
theorem BX:(2^j).testBit i=true↔i=j:=by rw[Nat.testBit_two_pow,decide_eq_true_iff];exact eq_comm
theorem K2(h:PK τ (2^j) [] t)(d:τ.Nodup):a6 τ j t:=by
 obtain⟨K,⟨u,s⟩,l,w,f⟩:=h;obtain⟨p,m,b⟩:=f j (BX.mpr Y);have all:∀q∈K,q=p:=λq m=>(l q m).elim (λm=>nomatch m) λ⟨i,e,c⟩=>m9 d (BX.mp e▸c) b;have e:K=[p]:=by
  cases K with
  |nil=>exact nomatch m
  |cons a K=>cases K with
   |nil=>rw[all a (.head _)]
   |cons q r=>exact absurd ((List.pairwise_cons.mp s).1 q (.head _)) (by rw[all a (.head _),all q (.tail _ (.head _))];exact Nat.lt_irrefl _)
 subst e;rcases u with⟨h,_⟩|h|⟨h,_⟩
 .cases h
 .exact(List.cons.inj h).1▸b
 .exact absurd h (Nat.not_succ_le_self 1)
theorem Im(b:Base τ)(u:a6 τ j p):∃r,τ[p]?=some r/\vq r=true:=
 j4 (P:=λJ p=>∃r,τ[p]?=some r/\vq r=true) (λJ u=>⟨_,u,Y⟩) (λJ u=>⟨_,u,Y⟩) ⟨_,bJ b 6 Y,Y⟩ ⟨_,bJ b 5 Y,Y⟩ ⟨_,bJ b 4 Y,Y⟩ ⟨_,bJ b 0 Y,Y⟩ ⟨_,bJ b 13 Y,Y⟩ (λJ u=>⟨_,u,Y⟩) u
noncomputable def Nz(ρ:Nat->AK):AK->AK
 |(0,some (.par i))=>ρ i
 |a=>a
def jc(ρ:Nat->AK):Th->Kind
 |.lf (.par i)=>(ρ i).kind
 |.lf (.aY 0 (.par i))=>(0,[.lf (Lf.box (ρ i))])
 |.own o as=>(0,[.own o (as.map (Nz ρ))])
 |x=>(0,[x])
def tw(P:List Nat):Th->Prop
 |.lf .i3=>True
 |.lf (.par i)=>i∈P
 |.lf (.a9 b)=>b=1
 |.lf (.aY b (.par i))=>b=0/\i∈P
 |.own _ as=>as.length<100/\∀a∈as,∃i∈P,a=(0,some (.par i))
 |_=>False
def k4(τ:List Row)(P:List Nat)(M:List (Nat×Nat))(ρ:Nat->AK):Prop:=∀i∈P,∃a,M.lookup i=some a/\dD τ (ρ i) a
theorem k4.mono(h:τ<+:b)(m:k4 τ P M ρ):k4 b P M ρ:=λi c=>let⟨a,f,d⟩:=m i c;⟨a,f,d.mono h⟩
theorem Fu(h:dD τ (0,some (.par i)) u):τ[u]?=some (.par i):=by
 obtain⟨v,l,k⟩:=h;exact(yS k)▸l
theorem Eu(t:Tab σ T τ)(a:σ[g]?=some (.dict .int es)):g∉[T.rows,T.index]:=by
 intro m;simp at m;rcases m with rfl|rfl
 .rw[t.rows] at a;cases a
 .rw[t.index] at a;cases a
def iT(ρ:Nat->AK):Kind->Kind
 |(0,[x])=>jc ρ x
 |(b,xs)=>aS ((b,[])::xs.map (jc ρ))
def xJ(k:Kind):Prop:=∀x∈k.2,x≠.six
theorem wU(h:x≠.six):IsT W τ x t↔fR τ x t:=by
 cases x with
 |six=>exact absurd Y h
 |lf _=>exact .rfl
 |own _ _=>exact .rfl
open Classical in
def iG(W:World)(τ:List Row)(ρ:Nat->AK)(k:Kind)(p:Nat):Kind:=
 if h:∃x∈k.2,IsT W τ x p then jc ρ h.choose else if h:∃j,a6 τ j p then(2^h.choose,[]) else(0,[])
theorem p_{W}(a:W.namesOk){τ}(b:Base τ){ρ k p x}(m:x∈k.2)(h:IsT W τ x p):iG W τ ρ k p=jc ρ x:=by
 unfold iG;have e:∃x∈k.2,IsT W τ x p:=⟨x,m,h⟩;rw[dif_pos e,iQ a b e.choose_spec.2 h]
theorem uH{W τ}(b:Base τ){ρ k p j}(h:a6 τ j p):iG W τ ρ k p=(2^j,[]):=by
 unfold iG;have e:∃j,a6 τ j p:=⟨j,h⟩;rw[dif_neg λ⟨x,_,a⟩=>gW b h a,dif_pos e,kg b e.choose_spec h]
theorem Om:(jc ρ x).2.length<=1:=by
 cases x with
 |lf x=>cases x with
  |par i=>
   show(ρ i).kind.2.length<=1;obtain⟨b,o⟩:=ρ i;cases o
   .exact aa9 1
   .exact aaX 1
  |aY b y=>
   cases b
   .cases y<;>exact aaX 1
   .exact aaX 1
  |_=>exact aaX 1
 |_=>exact aaX 1
theorem TC:(iG W τ ρ k p).2.length<=1:=by
 unfold iG;split
 .exact Om
 .split<;>simp
theorem ou:(2^j).testBit i=decide (i=j):=by
 by_cases h:j=i
 .subst h;simp
 .have a:¬i=j:=λe=>h e.symm;simp[h,a]
structure lQ(P)(k:Kind):Prop where
 simple:∀x∈k.2,tw P x
 len:k.2.length<=2
 nodup:k.2.Nodup
 bits:k.1=0\/(∃j,k=(2^j,[]))\/k.1=9
theorem B_(h:tw P x):x≠.six:=by rintro rfl;exact h
theorem sJ:iT ρ (b,[])=aS [(b,[])]:=by cases b<;>rfl
theorem So(h:∀x,k≠(0,[x])):iT ρ k=aS ((k.1,[])::k.2.map (jc ρ)):=by
 obtain⟨b,xs⟩:=k;rcases xs with _|⟨x,_|⟨y,xs⟩⟩<;>cases b<;>first|rfl|exact absurd Y (h x)
theorem Lq:∀j<8,aS [(2^j,[])]=(2^j,[]):=()
def dw(k k':Kind):Prop:=k.1=k'.1/\∀x,x∈k.2↔x∈k'.2
theorem dw.refl(k):dw k k:=⟨Y,λJ=>.rfl⟩
theorem F_(p):aS [AK.kind (0,some (.par p)),(9,[])]=(9,[.lf (.par p)]):=by
 simp[aS,b7,gc,AK.kind,(():(9:Nat).testBit 5=false),(():(9:Nat).testBit 6=false),(():dr 9=9)]
theorem FD(p q):aS [(0,[.lf (Lf.box (0,some (.par q)))]),AK.kind (0,some (.par p))]=(0,[.lf (.aY 0 (.par q)),.lf (.par p)]):=by
 simp[aS,b7,gc,dr,AK.kind,Lf.box]
theorem Yi(f:a.1=0)(d:a.2=[]):dw (aS [a,b,c]) (aS [b,c]):=by
 refine xG (λj=>?_) λx=>?_
 .rw[abP,hV,hV];simp[f]
 .simp[d]
theorem RK:dw (aS [a,b]) (aS [b,a]):=by
 refine xG (λj=>?_) λx=>?_
 .rw[abP,hV,hV];simp[or_comm]
 .simp[or_comm]
theorem Mg(W k how)(ρ p q)(r:Bool):dw (iT ρ (cell W k how (if r then[(0,some (.par p)),(0,some (.par q))] else[(0,some (.par p))]))) (cell W k how (if r then[ρ p,ρ q] else[ρ p])):=by
 have a (l):dw (iT ρ (aS [(0,[.lf (Lf.box (0,some (.par l)))]),AK.kind (0,some (.par p))])) (aS [(0,[.lf (Lf.box (ρ l))]),(ρ p).kind]):=by
  rw[FD];exact Yi Y Y
 have e2:dw (iT ρ (aS [AK.kind (0,some (.par p)),(9,[])])) (aS [(ρ p).kind,(9,[])]):=by
  rw[F_];exact RK
 cases r
 .show dw _ (cell W k how [ρ p]);exact A9 (as:=[(0,some (.par p))]) (bs:=[ρ p]) (R:=λK L=>dw (iT ρ K) L) (.refl (ρ p).kind) (.refl (ρ p).kind) e2 (.refl _) (.refl _) (a p) (.refl _) (.refl _) (.refl _) (by rw[sJ];exact .refl _) how
 .show dw _ (cell W k how [ρ p,ρ q]);exact A9 (as:=[(0,some (.par p)),(0,some (.par q))]) (bs:=[ρ p,ρ q]) (R:=λK L=>dw (iT ρ K) L) (.refl (ρ p).kind) (.refl (ρ q).kind) e2 (.refl _) (.refl _) (a q) (.refl _) (.refl _) (.refl _) (by rw[sJ];exact .refl _) how
theorem lX(h:tw P x):lQ P (0,[x]):=⟨λy m=>aaT.mp m▸h,ab7 1,abv.mpr ⟨nofun,.nil⟩,.inl Y⟩
theorem Dt(p l)(b:p∈P)(c:l∈P)(h:as.headD (0,none)=(0,some (.par p)))(g:as.getLastD (0,none)=(0,some (.par l)))(all:∀a∈as,∃i∈P,a=(0,some (.par i)))(len:as.length<100):lQ P (cell W k how as):=by
 refine i8 (P:=λJ=>lQ P) ?_ ?_ ?_ (lX ⟨len,all⟩) (lX ⟨aaZ (aa7 List.length_reverse) len,λa m=>all a (List.mem_reverse.mp m)⟩) ?_ (lX trivial) ?_ (lX Y) (λn J J J=>⟨nofun,aa9 _,.nil,.inr (.inl ⟨0,Y⟩)⟩) how
 .rw[h];exact lX b
 .rw[g];exact lX c
 .rw[h,F_];exact⟨λy m=>aaT.mp m▸b,ab7 1,abv.mpr ⟨nofun,.nil⟩,.inr (.inr Y)⟩
 .rw[h,g,FD];exact⟨aa'.mpr ⟨⟨Y,c⟩,λy m=>aaT.mp m▸b⟩,aaX 2,(by simp),.inl Y⟩
 .exact h▸lX ⟨Y,b⟩
theorem U6(W k how p q)(r:Bool):lQ (if r then[p,q] else[p]) (cell W k how (if r then[(0,some (.par p)),(0,some (.par q))] else[(0,some (.par p))])):=by
 cases r
 .exact Dt p p (.head _) (.head _) Y Y (λa m=>⟨p,.head _,aaT.mp m⟩) (():1<100)
 .exact Dt p q (.head _) (.tail _ (.head _)) Y Y (aa'.mpr ⟨⟨p,.head _,Y⟩,λa m=>⟨q,.tail _ (.head _),aaT.mp m⟩⟩) (():2<100)
theorem W8:dG [a,b,c,d,e,f,g] (some 2) (some 6) none=[c,d,e,f]:=by rfl
theorem NO(q:Q (.tup [c,d,e,f]) σ):Ok (d7 (.tup [a,b,c,d,e,f,g]) (.int 2) (.int 6) .none) σ Q:=⟨some 2,some 6,none,⟨Y,Y,Y,λe=>aa8 _ e.symm⟩,by show(dG ..).length<=sizeLine/\Q _ σ;rw[W8];exact⟨show 4<=sizeLine by decide,q⟩⟩
def dC(W:World)(τ:List Row)(m:Mem×Kind)(p:a_):Prop:=p.nm=m.1.nm/\p.ms=m.1.ms/\p.ow=m.1.ow/\aB W τ m.2 p.t
theorem dC.mono(h:τ<+:f):dC W τ m p->dC W f m p:=λ⟨a,b,c,d⟩=>⟨a,b,c,d.mono h⟩
theorem Aq(h:fR τ x t):IsT W τ x t:=by
 cases x with
 |six=>exact h.elim
 |lf _=>exact h
 |own _ _=>exact h
theorem eR.k:eR τ m p->dC W τ m p:=λ⟨a,b,c,vs,d,e⟩=>⟨a,b,c,vs,d.imp λJ J=>Aq,e⟩
theorem Jd(a:τ.Nodup)(e:dw k k')(h:aB W τ k t):aB W τ k' t:=BZ a e.1 e.2 h
noncomputable def gj(P:List Nat):List AK:=P.map λi=>(0,some (.par i))
theorem Fd(W)(c:k<3):∃(p q:Nat)(r:Bool),p≠q/\aX W k=(if r then[p,q] else[p]):=by
 unfold aX;rw[aa_ (by omega)]
 by_cases b:k=2
 .rw[abn b];exact⟨4,5,false,(),Y⟩
 .rw[aa_ b];by_cases a:W.n=2
  .rw[abn a];exact⟨2*k,2*k+1,true,by omega,Y⟩
  .rw[aa_ a];exact⟨2*k,2*k+1,false,by omega,Y⟩
noncomputable def cP(W:World)(k:Nat):List Mem:=if k=2 then[W.bx] else if k=1 then W.r1 else W.r0
def iD(W:World)(τ:List Row)(k b:Nat):Prop:=∃ps,τ[b]?=some (.obj ps)/\aG (eR τ) ((cP W k).map λm=>(m,cell W k m.how (gj (aX W k)))) ps
def Ij(W:World)(τ:List Row)(k:Nat)(as:List AK)(u:Nat):Prop:=∃ps,τ[u]?=some (.obj ps)/\aG (dC W τ) ((cP W k).map λm=>(m,cell W k m.how as)) ps
theorem JG(h:l.length=2):∃a b,l=[a,b]:=by
 cases l with
 |nil=>cases h
 |cons a l=>cases l with
  |nil=>cases h
  |cons b l=>cases l with
   |nil=>exact⟨a,b,Y⟩
   |cons=>cases h
noncomputable def mP:Mem:=⟨112,0,0,0⟩
def bW(W:World):Th->List (Mem×Kind)
 |.lf .i3=>[(mP,(1,[]))]
 |.lf .i4=>[(mP,(1,[]))]
 |.lf (.par _)=>[]
 |.lf (.a9 b)=>(cP W 2).map λm=>(m,cell W 2 m.how [(b,none)])
 |.lf (.aY b x)=>(cP W 2).map λm=>(m,cell W 2 m.how [(b,some x)])
 |.own k as=>(cP W k).map λm=>(m,cell W k m.how as)
 |.six=>wK W 0 W.six
def gf(W:World)(τ:List Row)(x:Th)(u:Nat):Prop:=∃ps,τ[u]?=some (.obj ps)/\aG (dC W τ) (bW W x) ps
theorem gf.mono(h:τ<+:c):gf W τ x u->gf W c x u:=λ⟨ps,a,b⟩=>⟨ps,cU h a,b.imp λJ J=>dC.mono h⟩
def gP(t:Nat):AV:=.tup [.int (-2),.tup [iv t]]
theorem J_:gP s=gP t↔s=t:=by
 constructor
 .intro h;injection h with h;injection h with _ h;injection h with h _;injection h with h;injection h with h _;exact dO.mp h
 .rintro rfl;rfl
theorem u3(t):KS.ok .tup (gP t)=true:=by rfl
def eX(W:World)(τ:List Row)(es:List (AV×AV)):Prop:=∀t v,aO es (gP t)=some v->∃x u,IsT W τ x t/\v=iv u/\gf W τ x u
theorem eX.mono(h:τ<+:d)(k:eX W τ es):eX W d es:=λt v e=>let⟨x,u,a,b,c⟩:=k t v e;⟨x,u,a.mono h,b,c.mono h⟩
theorem JV(es:List (AV×AV)):aO (es.map λp=>if p.1=k then(p.1,v) else p) k'=if k'=k/\es.any (λp=>p.1=k)=true then some v else aO es k':=by
 induction es with
 |nil=>exact(aa_ λh=>aaY h.2).symm
 |cons p es c=>
  obtain⟨a,b⟩:=p;rw[abM,List.any_cons];by_cases e:a=k
  .subst e;rw[abn Y,jA,jA,aba Y];by_cases q:k'=a
   .rw[abn q.symm,abn ⟨q,Y⟩]
   .rw[aa_ λh=>q h.symm,aa_ λh=>q h.1,aa_ λh=>q h.symm,c,aa_ λh=>q h.1]
  .rw[aa_ e,jA,jA,abf e,Bool.false_or,c];by_cases q:a=k'
   .rw[abn q,abn q,aa_ λh=>e (q.trans h.1)]
   .rw[aa_ q,aa_ q]
theorem Mb(es)(h:es.any (λp=>p.1=k)=false):aO (es++[(k,v)]) k'=if k'=k then some v else aO es k':=by
 induction es with
 |nil=>show aO ((k,v)::[]) k'=_;rw[jA];exact ite_congr (propext eq_comm) (λJ=>Y) λJ=>Y
 |cons p es c=>
  obtain⟨a,b⟩:=p;rw[List.any_cons,Bool.or_eq_false_iff] at h;rw[List.cons_append,jA,jA,c h.2];by_cases q:a=k'
  .rw[abn q,abn q,aa_ λe=>of_decide_eq_false h.1 (q.trans e)]
  .rw[aa_ q,aa_ q]
theorem gY:aO (aM es k v) k'=if k'=k then some v else aO es k':=by
 unfold aM;by_cases h:es.any (λp=>p.1=k)=true
 .rw[abn h,JV];exact ite_congr (propext (and_iff_left h)) (λJ=>Y) λJ=>Y
 .rw[aa_ h,Mb es (abV.mpr h)]
theorem Ef:(aM es k v).length<=es.length+1:=by
 unfold aM;split<;>simp
structure iH(b s):Prop where
 lt:b<256
 any:b.testBit 5=true->b=32/\s=false
 err:b.testBit 6=true->b=64/\s=false
 a0:b.testBit 0=true->b.testBit 7=false
 s0:b.testBit 2=true->b.testBit 0=false/\b.testBit 7=false
def d8:Lf->Prop
 |.i3=>True
 |.i4=>True
 |.par _=>False
 |.a9 b=>iH b false
 |.aY b x=>iH b true/\d8 x
def dZ:AK->Prop
 |(b,none)=>iH b false
 |(b,some x)=>iH b true/\d8 x
structure World.Ok(W:World):Prop where
 n:W.n=1\/W.n=2
 dz:W.dz<2
 len0:0<W.r0.length/\W.r0.length<=3
 fO:0<W.r1.length/\W.r1.length<=3
 kY:∀m∈W.r0,m.nm=110\/m.nm=118\/m.nm=119
 oY:∀m∈W.r1,m.nm=110\/m.nm=118\/m.nm=119
 bx:W.bx.nm=122
 lW:W.bx.how<=2
 six:W.six.length=W.n/\∀a∈W.six,dZ a
theorem World.Ok.names{W:World}(h:W.Ok):W.namesOk:=λm k=>by rcases h.kY m k with e|e|e<;>omega
theorem World.Ok.len(h:W.Ok)(k):(cP W k).length<=3:=by
 unfold cP;split
 .simp
 split
 .exact h.fO.2
 .exact h.len0.2
theorem World.Ok.nm(h:W.Ok)(k):∀m∈cP W k,m.nm<128:=by
 unfold cP;intro m a;split at a
 .rw[aaT] at a;rw[a,h.bx];decide
 split at a
 .rcases h.oY m a with e|e|e<;>omega
 .rcases h.kY m a with e|e|e<;>omega
def bG(W:World):Th->Prop
 |.own k as=>as.length=(aX W k).length/\∀a∈as,dZ a
 |.lf x=>d8 x
 |.six=>True
structure jn(W τ)(D:DH):Prop where
 own:∀k<3,iD W τ k (D.b k)
 i3:gf W τ (.lf .i3) (D.b 3)
theorem iD.mono(h:τ<+:c):iD W τ k b->iD W c k b:=λ⟨ps,e,a⟩=>⟨ps,cU h e,a.imp λJ J=>eR.mono h⟩
theorem jn.mono(h:τ<+:a)(b:jn W τ D):jn W a D:=⟨λk c=>(b.own k c).mono h,b.i3.mono h⟩
theorem IH(h:IsT W τ x i)(f:bG W x):
  (gf W τ x i)\/(x=.lf .i3/\τ[i]?=some (.ref 4 []))\/∃k us as,k<3/\us≠[]/\τ[i]?=some (.ref (k+1) us)/\aG (dD τ) as us/\as.length=(aX W k).length/\∀d u,Ij W d k as u->gf W d x u:=by
 cases x with
 |lf x=>
  cases x with
  |i3=>exact .inr (.inl ⟨Y,h⟩)
  |i4=>
   obtain⟨u,e,p⟩:=h;exact .inl ⟨_,e,⟨Y,Y,Y,[],trivial,p⟩,trivial⟩
  |par=>exact f.elim
  |a9 b=>
   obtain⟨u,e,p⟩:=h;exact .inr (.inr ⟨2,[u],[(b,none)],(),by simp,e,⟨p,trivial⟩,Y,λJ J h=>h⟩)
  |aY b x=>
   obtain⟨u,v,e,l,p⟩:=h;exact .inr (.inr ⟨2,[u],[(b,some x)],(),by simp,e,⟨⟨v,l,p⟩,trivial⟩,Y,λJ J h=>h⟩)
 |own k as=>
  obtain⟨j,us,e,a⟩:=h;refine .inr (.inr ⟨k,us,as,by omega,?_,e,a,f.1,λJ J h=>h⟩)
  rintro rfl;have c:=a.length;rw[f.1] at c;unfold aX at c;rw[aa_ (by omega),aa_ (by omega)] at c
  split at c<;>cases c
 |six=>
  obtain⟨ps,e,a⟩:=h;exact .inl ⟨ps,e,a.imp λJ J=>eR.k⟩
theorem I3{σ a}{T:TH}{H:HH}(c:ag [T.rows,T.index] σ a):ag [T.rows,T.index,H.ins] σ a:=c.mono λn m=>by
 rw[aa5,aaT] at m
 rcases m with e|e<;>simp[e]
theorem Host.chg(h:Host σ H T es)(t:Tab σ T τ)(b:H.ins≠T.index)(c:ag [T.rows,T.index] σ a):Host a H T es:=by
 refine⟨c.get h.host ?_,c.get h.ins ?_⟩
 .intro m;rw[aa5,aaT] at m;rcases m with e|e
  .have:=h.host;rw[e,t.rows] at this;cases this
  .have:=h.host;rw[e,t.index] at this;cases this
 .intro m;rw[aa5,aaT] at m;rcases m with e|e
  .have:=h.ins;rw[e,t.rows] at this;cases this
  .exact b e
theorem Decls.chg{σ a T}{τ:List Row}{W D F}(d:Decls σ T W D)(c:ag F σ a)(f:T.decls∉F)(h:∀k<4,D.a k∉F):Decls a T W D:=by
 refine⟨c.get d.list f,λk b=>?_⟩;obtain⟨fs,e1,e2⟩:=d.decl k b;exact⟨fs,c.get e1 (h k b),e2⟩
structure yM(W)(σ H T τ)(es:List (AV×AV))(aj cm es'):Prop where
 tab:Tab aj T cm
 host:Host aj H T es'
 ins:eX W cm es'
 chg:ag [T.rows,T.index,H.ins] σ aj
 pre:τ<+:cm
 len:cm.length<=τ.length+61
 Va:es'.length<=es.length+1
theorem MD(a:Host σ H T es)(t:Tab σ T τ)(j:eX W τ es)(b:H.ins≠T.index)(h:IsT W τ x i)(hs:gf W τ x u):
  Tab (σ.set H.ins (.dict .tup (aM es (gP i) (iv u)))) T τ/\Host (σ.set H.ins (.dict .tup (aM es (gP i) (iv u)))) H T (aM es (gP i) (iv u))/\eX W τ (aM es (gP i) (iv u)):=by
 have f:H.ins≠T.tab:=λe=>by have:=a.ins;rw[e,t.tab] at this;cases this
 have d:H.ins≠T.rows:=λe=>by have:=a.ins;rw[e,t.rows] at this;cases this
 have c:H.ins≠H.host:=λe=>by have:=a.ins;rw[e,a.host] at this;cases this
 refine⟨⟨a4 t.tab f,a4 t.rows d,a4 t.index b,t.nodup⟩,⟨a4 a.host c,ba a.ins⟩,λs v e=>?_⟩
 rw[gY] at e
 by_cases q:gP s=gP i
 .rw[abn q] at e;cases e
  rw[J_] at q;subst q;exact⟨x,u,h,Y,hs⟩
 .rw[aa_ q] at e;exact j s v e
end
section
noncomputable def bO(k:Kind):Nat:=(k.1&&&127)|||(k.1>>>7)
noncomputable def uR(b:Nat):Nat:=((List.range 8).filter λj=>b.testBit j).length
def a8(k:Kind):Bool:=decide (k.2.length+uR (bO k)>1)
noncomputable def bQ(k:Kind):Bool:=k.1.testBit 6
def bM(R:Th->Th->Prop)(a b:Kind):Prop:=bQ a=true\/bQ b=true\/(bO a=bO b/\a8 a=a8 b/\(∀x∈a.2,∃y∈b.2,x=y\/R x y)/\∀y∈b.2,∃x∈a.2,x=y\/R x y)
theorem bM.mono(h:∀x∈a.2,∀y∈b.2,R x y->S x y)(q:bM R a b):bM S a b:=
 q.imp id (Or.imp id λq=>⟨q.1,q.2.1,λx d=>(q.2.2.1 x d).imp λy z=>⟨z.1,z.2.imp id (h x d y z.1)⟩,λy c=>(q.2.2.2 y c).imp λx z=>⟨z.1,z.2.imp id (h x z.1 y c)⟩⟩)
theorem bM.symm(h:∀x∈a.2,∀y∈b.2,R x y->S y x)(q:bM R a b):bM S b a:=
 q.elim (λe=>.inr (.inl e)) λq=>q.elim .inl λq=>.inr (.inr ⟨q.1.symm,q.2.1.symm,λy c=>(q.2.2.2 y c).imp λx z=>⟨z.1,z.2.imp Eq.symm (h x z.1 y c)⟩,λx d=>(q.2.2.1 x d).imp λy z=>⟨z.1,z.2.imp Eq.symm (h x d y z.1)⟩⟩)
theorem bM.refl(a):bM R a a:=.inr (.inr ⟨Y,Y,λx m=>⟨x,m,.inl Y⟩,λx m=>⟨x,m,.inl Y⟩⟩)
noncomputable def c_(m:Mem):Nat×Nat×Bool×Nat:=(m.nm,m.ms&&&25,decide (m.ms&&&34≠0),m.ow)
noncomputable def c8:Th->Option (Nat×List AK)
 |.own k as=>some (k,as)
 |.lf (.a9 b)=>some (2,[(b,none)])
 |.lf (.aY b x)=>some (2,[(b,some x)])
 |_=>none
def aZ(x y:Th):List (List (Kind×Kind)):=match c8 x,c8 y with
 |some (k,as),some (l,bs)=>if k=l then[(as.map AK.kind).zip (bs.map AK.kind)] else[]
 |_,_=>[]
def aU(W:World)(x:Th):List (Nat×Nat×Bool×Nat):=(bW W x).map λm=>c_ m.1
def bX(W:World)(x:Th):List Kind:=(bW W x).map λm=>bP m.1 m.2
def de(W:World)(x y:Th):List (List (Kind×Kind)):=aZ x y++if aU W x=aU W y then[(bX W x).zip (bX W y)] else[]
def gd(W:World)(R:Th->Th->Prop)(x y:Th):Prop:=∃road∈de W x y,∀p∈road,bM R p.1 p.2
theorem gd.mono(h:∀x y,R x y->S x y):gd W R x y->gd W S x y:=λ⟨r,m,k⟩=>⟨r,m,λp a=>(k p a).mono λx J y J=>h x y⟩
theorem vE(l:List c):∀m:List c,(l.zip m).map Prod.swap=m.zip l:=by
 induction l with
 |nil=>intro m;cases m<;>rfl
 |cons a l d=>
  intro m;cases m with
  |nil=>rfl
  |cons b m=>exact aaU _ (d m)
theorem Z3:de W y x=(de W x y).map λr=>r.map Prod.swap:=by
 have a:aZ y x=(aZ x y).map λr=>r.map Prod.swap:=by
  unfold aZ;rcases c8 x with _|⟨k,as⟩<;>rcases c8 y with _|⟨l,bs⟩<;>try rfl
  dsimp only;by_cases q:k=l
  .rw[abn q,abn q.symm,abM,vE];rfl
  .rw[aa_ q,aa_ λe=>q e.symm];rfl
 unfold de;rw[a,abA];by_cases q:aU W x=aU W y
 .rw[abn q,abn q.symm,abM,vE];rfl
 .rw[aa_ q,aa_ λe=>q e.symm];rfl
theorem gd.symm(h:∀x y,R x y->S y x):gd W R x y->gd W S y x:=by
 rintro⟨r,m,k⟩;refine⟨r.map Prod.swap,?_,λp b=>?_⟩
 .exact Z3▸aa6.mpr ⟨r,m,Y⟩
 .obtain⟨q,a,rfl⟩:=aa6.mp b;exact(k q a).symm λx J y J=>h x y
def br(W:World)(x y:Th):Prop:=∃R,(∀x y,R x y->gd W R x y)/\R x y
theorem br.step:br W x y->gd W (br W) x y:=λ⟨R,h,r⟩=>(h x y r).mono λJ J r=>⟨R,h,r⟩
theorem br.co{W}{R:Th->Th->Prop}(h:∀x y,R x y->gd W (λa b=>R a b\/br W a b) x y){x y}(r:R x y):br W x y:=⟨λa b=>R a b\/br W a b,λa b q=>(q.elim (h a b) λq=>q.step.mono λJ J=>.inr),.inl r⟩
theorem br.intro(h:gd W (br W) x y):br W x y:=
 br.co (R:=λa b=>a=x/\b=y) (λa b ⟨e1,e2⟩=>by subst e1;subst e2;exact h.mono λJ J=>.inr) ⟨Y,Y⟩
theorem br.symm(h:br W x y):br W y x:=
 ⟨λa b=>br W b a,λJ J q=>q.step.symm λJ J r=>r,h⟩
abbrev aQ(W:World)(a b:Kind):Prop:=bM (br W) a b
theorem aQ.symm(h:aQ W a b):aQ W b a:=bM.symm (λJ J J J=>br.symm) h
structure aJ(W)(k:Kind):Prop where
 nd:k.2.Nodup
 th:∀x∈k.2,bG W x
 lt:k.1<256
 any:k.1.testBit 5=true->k=(32,[])
 err:k.1.testBit 6=true->k=(64,[])
 a0:k.1.testBit 0=true->k.1.testBit 7=false
 s0:k.1.testBit 2=true->k.1.testBit 0=false/\k.1.testBit 7=false
theorem yd{k k':Kind}(h:k.2.Nodup)(a:k'.2.Nodup)(e:∀x,x∈k.2↔x∈k'.2):k.2.length=k'.2.length:=
 Nat.le_antisymm (lR h λx=>(e x).mp) (lR a λx=>(e x).mpr)
theorem bM.congr{W R a i b f}(s:aJ W a)(p:aJ W i)(wb:aJ W b)(m:aJ W f)(d:dw a i)(c:dw b f)(h:bM R a b):bM R i f:=by
 have r:bO a=bO i:=by unfold bO;rw[d.1]
 have q:bO b=bO f:=by unfold bO;rw[c.1]
 have u:a8 a=a8 i:=by unfold a8;rw[r,yd s.nd p.nd d.2]
 have t:a8 b=a8 f:=by unfold a8;rw[q,yd wb.nd m.nd c.2]
 rcases h with e|e|⟨e1,e2,z,w⟩
 .left;unfold bQ at e⊢;exact d.1▸e
 .right;left;unfold bQ at e⊢;exact c.1▸e
 .refine .inr (.inr ⟨r▸q▸e1,u▸t▸e2,λx l=>?_,λy j=>?_⟩)
  .obtain⟨y,j,o⟩:=z x ((d.2 x).mpr l);exact⟨y,(c.2 y).mp j,o⟩
  .obtain⟨x,l,o⟩:=w y ((c.2 y).mpr j);exact⟨x,(d.2 x).mp l,o⟩
def i7(W:World)(τ:List Row)(i j:Nat):Prop:=∃a b,aJ W a/\aJ W b/\aB W τ a i/\aB W τ b j/\aQ W a b
def jG(W:World)(τ:List Row)(i j:Nat):Prop:=∃a b,aJ W a/\aJ W b/\aB W τ a i/\aB W τ b j/\¬aQ W a b
theorem i7.mono(h:τ<+:c):i7 W τ i j->i7 W c i j:=λ⟨a,b,d,wb,m,f,l⟩=>⟨a,b,d,wb,m.mono h,f.mono h,l⟩
theorem jG.mono(h:τ<+:a)(q:jG W τ i j):jG W a i j:=q.imp λJ q=>q.imp λJ q=>⟨q.1,q.2.1,q.2.2.1.mono h,q.2.2.2.1.mono h,q.2.2.2.2⟩
theorem i7.out{W}(p:W.namesOk){τ}(bs:Base τ){i j a b}(q:aJ W a)(wb:aJ W b)(s:aB W τ a i)(r:aB W τ b j)(h:i7 W τ i j):aQ W a b:=by
 obtain⟨u,t,d,c,m,f,l⟩:=h;exact l.congr d q c wb (hZ p bs m s) (hZ p bs f r)
theorem jG.out{W}(p:W.namesOk){τ}(bs:Base τ){i j a b}(r:aJ W a)(wb:aJ W b)(t:aB W τ a i)(s:aB W τ b j)(h:jG W τ i j):¬aQ W a b:=by
 obtain⟨w,u,d,c,m,f,l⟩:=h;exactλq=>l (q.congr r d wb c (hZ p bs t m) (hZ p bs s f))
structure RH where
 rel:Nat
 rules:Nat
 r5:Nat
 UY:Nat
 aV:Nat
 kn:Nat
 rd:Nat
 cV:Nat
 bZ:Nat
structure EN where
 W:World
 T:TH
 H:HH
 D:DH
 R:RH
structure RS where
 τ:List Row
 es:List (AV×AV)
 aw:Nat
 tr:List (Nat×Nat)
 kn:List ((Nat×Nat)×Bool)
 rd:List (Nat×Nat×Nat×Nat)
 deep:Nat
 au:Nat
def bS(k:Nat×Nat):AV:=.tup [iv k.1,iv k.2]
theorem lL:bS k=bS l↔k=l:=by
 constructor
 .intro h;injection h with h;injection h with b h;injection h with a _;exact Prod.ext (dO.mp b) (dO.mp a)
 .rintro rfl;rfl
theorem ju(k):KS.ok .tup (bS k)=true:=rfl
def cR(a:List (Nat×Nat)):List (AV×AV):=a.map λk=>(bS k,.int 1)
def eo(kn:List ((Nat×Nat)×Bool)):List (AV×AV):=kn.map λp=>(bS p.1,.bool p.2)
def gQ(e:Nat×Nat×Nat×Nat):AV:=.tup [iv e.1,iv e.2.1,iv e.2.2.1,iv e.2.2.2]
def i6(H:HH)(R:RH)(b deep a:Nat):List (V×AV):=[(140,.loc H.host),(172,.int 3),(229,.loc R.rules),(100,.loc R.aV),(158,.loc R.kn),(268,.loc b),(224,.loc R.rd),(122,iv deep),(166,iv a),(184,.loc R.cV),(258,.bool true),(272,.none),(171,AV.str ""),(101,.int 0)]
theorem fa{b:Type}{P:b->Prop}{a l}(h:P a)(k:∀x∈l,P x):∀x∈a::l,P x:=aa'.mpr ⟨h,k⟩
theorem y5{l:List Nat}(k){x n}(m:n∈l.take k++x::l.drop (k+1)):n∈l\/n=x:=(abq.mp m).elim (λm=>.inl (List.mem_of_mem_take m)) λm=>(aa5.mp m).elim .inr λm=>.inl (List.mem_of_mem_drop m)
noncomputable def EN.mut(E:EN)(a:Nat):List Nat:=[E.T.rows,E.T.index,E.H.ins,E.R.rel,E.R.aV,E.R.kn,E.R.rd,a,E.R.bZ]
noncomputable def EN.nQ(E:EN):List Nat:=[E.T.tab,E.T.decls,E.D.a 0,E.D.a 1,E.D.a 2,E.D.a 3,E.H.host,E.R.rules,E.R.r5,E.R.cV]
structure rM(E:EN)(s:RS):Prop where
 base:Base s.τ
 str0:∃j:Nat,s.τ[j]?=some (Row.str 0)
 dW:jn E.W s.τ E.D
 ins:eX E.W s.τ s.es
 je:∀k,(k,true)∈s.kn->i7 E.W s.τ k.1 k.2
 jx:∀k,(k,false)∈s.kn->jG E.W s.τ k.1 k.2
structure aF(E σ s):Prop where
 inv:rM E s
 tab:Tab σ E.T s.τ
 host:Host σ E.H E.T s.es
 decl:Decls σ E.T E.W E.D
 rel:σ[E.R.rel]?=some (.inst 692 (i6 E.H E.R s.aw s.deep s.au))
 rules:σ[E.R.rules]?=some (.dict .int [(.int 5,.loc E.R.r5),(.int 11,.loc E.R.UY)])
 r5:σ[E.R.r5]?=some (.inst 1061 [])
 aV:σ[E.R.aV]?=some (.dict .tup (cR s.tr))
 kn:σ[E.R.kn]?=some (.dict .tup (eo s.kn))
 aw:σ[s.aw]?=some (.list (s.tr.map bS))
 rd:σ[E.R.rd]?=some (.list (s.rd.map gQ))
 cV:σ[E.R.cV]?=some (.inst 120 [(226,.loc E.R.bZ)])
 bZ:σ[E.R.bZ]?=some (.list [])
 nd:(E.mut s.aw).Nodup
 fix:∀a∈E.nQ,a∉E.mut s.aw
 iJ:s.tr.Nodup
 cnt:s.kn.length+s.tr.length<=s.au
theorem rM.mono(h:rM E s)(p:s.τ<+:a)(i:eX E.W a es'):rM E {s with τ:=a,es:=es'}:=by
 refine⟨h.base.mono p,?_,h.dW.mono p,i,λk m=>(h.je k m).mono p,λk m=>(h.jx k m).mono p⟩;obtain⟨j,e⟩:=h.str0;exact⟨j,cU p e⟩
theorem tf{E:EN}{b}{F:List Nat}(c:∀n∈F,n∈E.mut b)(h:∀a∈E.nQ,a∉E.mut b):∀a∈E.nQ,a∉F:=λa m q=>h a m (c a q)
theorem xl{E:EN}{σ b f F}(d:Decls σ E.T E.W E.D)(c:ag F σ b)(i:∀n∈F,n∈E.mut f)(h:∀a∈E.nQ,a∉E.mut f):Decls b E.T E.W E.D:=
 have k:=tf i h
 d.chg (τ:=[]) c (k _ (aK 1 Y)) (x7 (k _ (aK 2 Y)) (k _ (aK 3 Y)) (k _ (aK 4 Y)) (k _ (aK 5 Y)))
theorem bV{l:List Nat}(h:l.Nodup)(i j:Nat){a b}(f:l[i]?=some a)(d:l[j]?=some b)(c:i≠j):a≠b:=by
 rintro rfl;obtain⟨p,e1⟩:=abg.mp f;obtain⟨m,e2⟩:=abg.mp d;exact c ((List.getElem_inj h).mp (e1.trans e2.symm))
theorem Uw(i:a≠b)(h:a≠c)(f:a≠d):a∉[b,c,d]:=by simp[i,h,f]
theorem aF.shaped{E}{σ d:Sg}{s:RS}(h:aF E σ s){b}{es'}(t:Tab d E.T b)(l:Host d E.H E.T es')(i:eX E.W b es')(c:ag [E.T.rows,E.T.index,E.H.ins] σ d)(p:s.τ<+:b):aF E d {s with τ:=b,es:=es'}:=by
 have j:∀n∈[E.T.rows,E.T.index,E.H.ins],n∈E.mut s.aw:=fa (aK 0 Y) (fa (aK 1 Y) (fa (aK 2 Y) nofun));have k:=tf j h.fix;have f:∀(i){a},(E.mut s.aw)[i]?=some a->2<i->a∉[E.T.rows,E.T.index,E.H.ins]:=λi a e m=>
  Uw (bV h.nd i 0 e Y (by omega)) (bV h.nd i 1 e Y (by omega)) (bV h.nd i 2 e Y (by omega))
 exact⟨h.inv.mono p i,t,l,xl h.decl c j h.fix,c.get h.rel (f 3 Y ()),c.get h.rules (k _ (aK 7 Y)),c.get h.r5 (k _ (aK 8 Y)),c.get h.aV (f 4 Y ()),c.get h.kn (f 5 Y ()),c.get h.aw (f 7 Y ()),c.get h.rd (f 6 Y ()),c.get h.cV (k _ (aK 9 Y)),c.get h.bZ (f 8 Y ()),h.nd,h.fix,h.iJ,h.cnt⟩
theorem aF.dK{E σ b s}(h:aF E σ s){c a}(o:bg σ E.T s.τ c b a):aF E b {s with τ:=a}:=(h.shaped o.tab (h.host.chg h.tab (bV h.nd 2 1 Y Y ()) o.chg) (h.inv.ins.mono o.pre) (I3 o.chg) o.pre)
theorem aF.upd{E}{σ a s s'}(h:aF E σ s){F}(c:ag F σ a)(l:∀n∈F,n∈E.mut s.aw)(r:E.T.rows∉F)(q:E.T.index∉F)(p:E.H.ins∉F)(m:E.R.bZ∉F)(i:s'.τ=s.τ)(ee:s'.es=s.es)(b:s'.aw=s.aw)
  (inv:rM E s')(rel:a[E.R.rel]?=some (.inst 692 (i6 E.H E.R s.aw s'.deep s'.au)))(j:a[E.R.aV]?=some (.dict .tup (cR s'.tr)))(kn:a[E.R.kn]?=some (.dict .tup (eo s'.kn)))(d:a[s.aw]?=some (.list (s'.tr.map bS)))(rd:a[E.R.rd]?=some (.list (s'.rd.map gQ)))(f:s'.tr.Nodup)(cnt:s'.kn.length+s'.tr.length<=s'.au):aF E a s':=by
 have k:=tf l h.fix
 refine⟨inv,?_,?_,xl h.decl c l h.fix,by rw[b];exact rel,c.get h.rules (k _ (aK 7 Y)),c.get h.r5 (k _ (aK 8 Y)),j,kn,by rw[b];exact d,rd,c.get h.cV (k _ (aK 9 Y)),c.get h.bZ m,by rw[b];exact h.nd,by rw[b];exact h.fix,f,cnt⟩
 .rw[i];exact h.tab.chg c (k _ (aK 0 Y)) r q
 .rw[ee];exact⟨c.get h.host.host (k _ (aK 6 Y)),c.get h.host.ins p⟩
theorem Wi(h:k∉a):gO (cR (a++[k])) (bS k)=cR a:=by
 unfold gO cR;rw[abA,List.filter_append];have c:((a.map λk=>(bS k,AV.int 1)).filter λp=>!decide (p.1=bS k))=a.map λk=>(bS k,AV.int 1):=by
  rw[List.filter_eq_self];intro p m;obtain⟨l,b,rfl⟩:=aa6.mp m;have:¬bS l=bS k:=λe=>h (lL.mp e▸b)
  simp[this]
 rw[c];simp
theorem tV:(aO (cR a) (bS k)).isSome=decide (k∈a):=by
 induction a with
 |nil=>rfl
 |cons l a b=>
  unfold aO cR at b⊢;rw[abM,List.find?_cons];by_cases q:l=k
  .subst q;simp
  .have d:¬bS l=bS k:=λe=>q (lL.mp e);have c:¬k=l:=λe=>q e.symm;simp only[d,decide_false,aa5,c,false_or];exact b
theorem Kp(h:k∉a):aM (cR a) (bS k) (.int 1)=cR (a++[k]):=by
 unfold aM;rw[aa_]
 .unfold cR;rw[abA];rfl
 .intro e;obtain⟨p,m,e⟩:=List.any_eq_true.mp e;obtain⟨l,b,rfl⟩:=aa6.mp m;exact h (lL.mp (abl e)▸b)
theorem X_{E σ s tr k}(h:aF E σ s)(d:s.tr=tr++[k]):
  aF E ((σ.set s.aw (.list (tr.map bS))).set E.R.aV (.dict .tup (cR tr))) {s with tr:=tr}/\ag (E.mut s.aw) σ ((σ.set s.aw (.list (tr.map bS))).set E.R.aV (.dict .tup (cR tr))):=by
 have c:ag [E.R.aV,s.aw] σ ((σ.set s.aw (.list (tr.map bS))).set E.R.aV (.dict .tup (cR tr))):=ag.trans (ag.set (aK 1 Y)) (ag.set (aK 0 Y))
 have f:∀n∈[E.R.aV,s.aw],n∈E.mut s.aw:=fa (aK 4 Y) (fa (aK 7 Y) nofun)
 have b:∀(i){a},(E.mut s.aw)[i]?=some a->i≠4->i≠7->a∉[E.R.aV,s.aw]:=λi a e l j=>by
  simp[(bV h.nd i 4 e Y l),(bV h.nd i 7 e Y j)]
 refine⟨h.upd c f (b 0 Y () ()) (b 1 Y () ()) (b 2 Y () ()) (b 8 Y () ()) Y Y Y ⟨h.inv.base,h.inv.str0,h.inv.dW,h.inv.ins,h.inv.je,h.inv.jx⟩ (c.get h.rel (b 3 Y () ())) ?_ (c.get h.kn (b 5 Y () ())) ?_ (c.get h.rd (b 6 Y () ())) ?_ ?_,c.mono f⟩
 .have m:(σ.set s.aw (.list (tr.map bS)))[E.R.aV]?=some _:=a4 h.aV (bV h.nd 7 4 Y Y ());exact ba m
 .exact a4 (ba h.aw) (bV h.nd 4 7 Y Y ())
 .have:=h.iJ
  rw[d,abR] at this
  exact this.1
 .have:=h.cnt
  rw[d,aa4] at this
  omega
noncomputable def cH(a:Nat)(e:Nat×Nat×Nat×Nat):Nat×Nat:=if a=0 then(e.1,e.2.1) else(e.2.2.1,e.2.2.2)
noncomputable def e8(did:Nat)(st:Int×Nat)(p:Nat×Nat):Int×Nat:=if p.1=did/\(p.2)>st.1 then((p.2),st.2+1) else st
def pT(l:List (Nat×Nat))(did:Nat):Int×Nat:=l.foldl (e8 did) (-1,0)
def cW(l:List (Nat×Nat))(did i:Nat):Bool:=decide (did>0)&&(decide (3<=(pT l did).2)&&decide ((i)>(pT l did).1))
noncomputable def dU:Row->Nat
 |.ref d _=>d
 |_=>0
def d6(W:World)(τ:List Row)(c:List (Nat×Nat))(a b:Kind):Prop:=aQ W a b\/∃i j,aB W τ a i/\aB W τ b j/\(i,j)∈c
theorem d6.mono(p:τ<+:c)(q:∀k∈f,k∈d):d6 W τ f a b->d6 W c d a b:=Or.imp id λ⟨i,j,m,l,h⟩=>⟨i,j,m.mono p,l.mono p,q _ h⟩
noncomputable def aA(x:Th):Kind:=(0,[x])
inductive kj(W τ tr)(k:Nat×Nat):Prop
 |thing (x y) (hx:IsT W τ x k.1) (hy:IsT W τ y k.2) (wx:bG W x) (wy:bG W y) (road) (m:road∈de W x y) (all:∀p∈road,d6 W τ tr p.1 p.2)
 |many (a b) (ha:aB W τ a k.1) (hb:aB W τ b k.2) (wa:aJ W a) (wb:aJ W b) (e1:bO a=bO b) (e2:a8 a=a8 b) (e3:a8 a=true) (l:∀x∈a.2,∃y∈b.2,x=y\/d6 W τ tr (aA x) (aA y)) (r:∀y∈b.2,∃x∈a.2,x=y\/d6 W τ tr (aA y) (aA x))
theorem kj.mono(p:τ<+:c)(q:∀k∈j,k∈d):kj W τ j k->kj W c d k
 |.thing x y z w h f road m all=>.thing x y (z.mono p) (w.mono p) h f road m λr u=>(all r u).mono p q
 |.many a b B A i wb e1 e2 D l r=>.many a b (B.mono p) (A.mono p) i wb e1 e2 D (λx m=>let⟨y,s,o⟩:=l x m;⟨y,s,o.imp id (d6.mono p q)⟩) λy m=>let⟨x,t,o⟩:=r y m;⟨x,t,o.imp id (d6.mono p q)⟩
structure aP(E k σ)(s:RS)(aj s'):Prop where
 st:aF E aj s'
 chg:ag (E.mut s.aw) σ aj
 pre:s.τ<+:s'.τ
 aw:s'.aw=s.aw\/σ.length<=s'.aw
 rd:s'.rd=s.rd
 deep:s'.deep=s.deep
 au:s.au<=s'.au
 sz:s'.τ.length+s'.es.length+140*s.au<=s.τ.length+s.es.length+140*s'.au+k
structure bI(E:EN)(s s':RS):Prop where
 aw:s'.aw=s.aw
 ext:s.tr<+:s'.tr
 n9:∀k∈s'.tr,k∈s.tr\/kj E.W s'.τ s'.tr k
theorem km(h:l<+:m):∀x∈l,x∈m:=λJ k=>h.subset k
theorem aP.refl(h:aF E σ s):aP E 0 σ s σ s:=⟨h,.refl,abp _,.inl Y,Y,Y,aaX _,aaX _⟩
theorem aP.le(a:aP E k σ s b s')(h:k<=k'):aP E k' σ s b s':=⟨a.st,a.chg,a.pre,a.aw,a.rd,a.deep,a.au,aaS a.sz (aa3 h _)⟩
theorem aP.trans{E σ d c}{s s' f k k'}(a:aP E k σ s d s')(b:aP E k' d s' c f):aP E (k+k') σ s c f:=by
 refine⟨b.st,⟨aaS a.chg.1 b.chg.1,λn h o e=>?_⟩,a.pre.trans b.pre,?_,b.rd.trans a.rd,b.deep.trans a.deep,aaS a.au b.au,?_⟩
 .refine b.chg.2 n ?_ o (a.chg.2 n h o e);have i:=(abg.mp e).1;rcases a.aw with q|q
  .rw[q];exact h
  .exactλm=>(y5 (l:=E.mut s.aw) 7 m).elim h λe=>absurd i (ab0.mpr (e▸q))
 .rcases b.aw with q|q
  .rw[q];exact a.aw
  .exact .inr (aaS a.chg.1 q)
 .have:=a.sz;have:=b.sz;omega
theorem bI.refl:bI E s s:=⟨Y,abp _,λJ=>.inl⟩
theorem bI.trans(a:bI E s s')(p:s'.τ<+:c.τ)(b:bI E s' c):bI E s c:=by
 refine⟨b.aw.trans a.aw,a.ext.trans b.ext,λk m=>?_⟩;rcases b.n9 k m with m'|j
 .rcases a.n9 k m' with d|j
  .exact .inl d
  .exact .inr (j.mono p (km b.ext))
 .exact .inr j
def Ji(b:Nat):Bool:=(b.testBit 0&&b.testBit 7)||decide (uR ((b&&&127)|||(b>>>7))=uR b)
theorem U0:(List.range 256).all Ji=true:=by decide+kernel
theorem Xp(w:aJ W k):uR (bO k)=pc k.1:=by
 have:=abd.mp U0 k.1 (List.mem_range.mpr w.lt)
 unfold Ji at this
 rw[Bool.or_eq_true] at this
 rcases this with h|h
 .rw[abY] at h;rw[w.a0 h.1] at h;exact absurd h.2 (by simp)
 .exact abl h
theorem VF(a:u<8)(h:∀j,b.testBit j=true↔j=u):b=2^u:=by
 refine Nat.eq_of_testBit_eq λj=>?_;rw[Nat.testBit_two_pow];rw[abP,h,abr];exact eq_comm
inductive ZW(W τ)(a:Kind)(i):Prop
 |never (h:a=(0,[])) (e:i=2)
 |unit (u) (h:a=(2^u,[])) (lt:u<8) (e:a6 τ u i)
 |thing (x) (h:a=(0,[x])) (e:IsT W τ x i)
 |many (K) (l:2<=K.length) (e:τ[i]?=some (.bl K)) (m:a8 a=true) (p:∀p,p∈K↔iB W τ a p)
theorem x1{W}(H:W.namesOk){τ}(A:τ.Nodup)(b:Base τ){a i}(w:aJ W a)(h:aB W τ a i):ZW W τ a i:=by
 obtain⟨K,kp⟩:=gG A h;have zero:(∀j,a.1.testBit j=true->False)->a.1=0:=λf=>Nat.eq_of_testBit_eq λj=>by
  rw[Nat.zero_testBit];cases e:a.1.testBit j
  .rfl
  .exact(f j e).elim
 rcases kp.ut with⟨rfl,e⟩|rfl|⟨l,e⟩
 .have M:a.2=[]:=by
   cases q:a.2 with
   |nil=>rfl
   |cons x xs=>
    obtain⟨v,d⟩:=kp.gq x (by rw[q];simp)
    exact absurd ((kp.mem v).mpr (.inl ⟨x,by rw[q];simp,d⟩)) (by simp)
  have N:=zero λj c=>by
   obtain⟨p,hp⟩:=kp.hH j c;exact absurd ((kp.mem p).mpr (.inr ⟨j,c,hp⟩)) (by simp)
  exact .never (Prod.ext N M) e
 .have one:=λp m=>aaT.mp ((kp.mem p).mpr m);cases q:a.2 with
  |nil=>
   rcases((kp.mem i).mp (aK 0 Y)) with⟨x,z,_⟩|⟨u,L,s⟩
   .rw[q] at z;cases z
   .refine .unit u (Prod.ext (VF (hO s) λj=>⟨λc=>?_,?_⟩) q) (hO s) s
    .obtain⟨p,hp⟩:=kp.hH j c;have:=one p (.inr ⟨j,c,hp⟩)
     subst this
     exact kg b hp s
    .rintro rfl;exact L
  |cons x xs=>
   obtain⟨v,d⟩:=kp.gq x (by rw[q];simp)
   have e:=one v (.inl ⟨x,by rw[q];simp,d⟩)
   subst e;have D:xs=[]:=by
    cases xs with
    |nil=>rfl
    |cons y Q=>
     obtain⟨B,r⟩:=kp.gq y (by rw[q];simp)
     have t:=one B (.inl ⟨y,by rw[q];simp,r⟩)
     subst t;have:=iQ H b d r
     subst this
     exact absurd (q▸w.nd) (by simp)
   subst D;refine .thing x (Prod.ext (zero λj c=>?_) q) d;obtain⟨p,hp⟩:=kp.hH j c;have t:=one p (.inr ⟨j,c,hp⟩);subst t;exact gW b hp d
 .refine .many K l e ?_ kp.mem;have:=vY A kp
  unfold a8;exact(Xp w)▸aba (by omega)
theorem Uu(h:bO a=bO b)(f:bQ a=bQ b)(d:a.2=b.2):bM R a c↔bM R b c:=by
 unfold bM a8;rw[h,f,d]
theorem Ur(h:bO a=bO b)(f:bQ a=bQ b)(d:a.2=b.2):bM R c a↔bM R c b:=by
 unfold bM a8;rw[h,f,d]
noncomputable def bp:Row->Nat
 |.key _=>1
 |.fC _ _=>2
 |.str _=>3
 |.num=>4
 |.bl _=>6
 |.obj _=>8
 |.ref _ _=>9
 |.par _=>10
theorem oB(h:IsT W τ x i)(w:bG W x):∃r,τ[i]?=some r/\(bp r=8\/bp r=9):=by
 rcases IH h w with⟨ps,e,_⟩|⟨_,e⟩|⟨k,us,_,_,_,e,_⟩
 .exact⟨_,e,.inl Y⟩
 .exact⟨_,e,.inr Y⟩
 .exact⟨_,e,.inr Y⟩
theorem JK(h:u<8):∃r,h8 u=some r/\bp r<5/\(r=.str 1↔u=7):=
 Rz (P:=λu=>∃r,h8 u=some r/\bp r<5/\(r=.str 1↔u=7)) ⟨_,Y,(),nofun,nofun⟩ ⟨_,Y,(),nofun,nofun⟩ ⟨_,Y,(),nofun,nofun⟩ ⟨_,Y,(),nofun,nofun⟩ ⟨_,Y,(),nofun,nofun⟩ ⟨_,Y,(),nofun,nofun⟩ ⟨_,Y,(),nofun,nofun⟩ ⟨_,Y,(),λJ=>Y,λJ=>Y⟩ u h
theorem settle{W}(A:W.namesOk){τ}(H:τ.Nodup)(b:Base τ){a i j r}(w:aJ W a)(h:aB W τ a i)(D:τ[i]?=some r)(y:τ[j]?=some (.str 0)):
  ∃d,aJ W d/\aB W τ d (if r=.str 1 then j else i)/\d≠(128,[])/\(∀R c,bM R a c↔bM R d c)/\(∀R c,bM R c a↔bM R c d)/\(r≠.str 1->d=a):=by
 have keep:r≠.str 1->a≠_->∃d,aJ W d/\aB W τ d (if r=.str 1 then j else i)/\d≠(128,[])/\(∀R c,bM R a c↔bM R d c)/\(∀R c,bM R c a↔bM R c d)/\(r≠.str 1->d=a):=λM L=>
  ⟨a,w,(aa_ M).symm▸h,L,λJ J=>.rfl,λJ J=>.rfl,λJ=>Y⟩
 have same:∀{t},τ[i]?=some t->r=t:=λe=>aa0 (D.symm.trans e)
 rcases x1 A H b w h with⟨s,e⟩|⟨u,s,lt,e⟩|⟨x,s,e⟩|⟨K,l,e,m,p⟩
 .exact keep (same (e.symm▸bJ b 2 Y)▸nofun) (s▸nofun)
 .obtain⟨t,e2,N,z⟩:=JK lt;have er:=same ((p6 b e).1.trans e2);by_cases q:u=7
  .have er:=er.trans (z.mpr q);rw[abn er];have e1:=s.trans (aaU (λu=>(2^u,[])) q);exact⟨(1,[]),⟨.nil,nofun,(),(),(),(),()⟩,⟨[],trivial,[j],⟨.inr (.inl Y),List.pairwise_singleton ..⟩,λp m=>.inr ⟨0,Y,aaT.mp m▸y⟩,nofun,λv B=>⟨j,.head _,abl ((Nat.testBit_two_pow (n:=0)).symm.trans B)▸y⟩⟩,nofun,λR c=>e1▸Uu () () Y,λR c=>e1▸Ur () () Y,absurd er⟩
  .exact keep (λf=>q (z.mp (er.symm.trans f))) λf=>q ((():∀u<8,(2^u)=2^7->u=7) u lt (Prod.mk.inj (s.symm.trans f)).1)
 .obtain⟨t,e1,e2⟩:=oB e (w.th x (s▸.head _));refine keep (λf=>?_) (s▸λf=>nomatch (Prod.mk.inj f).2);rw[←same e1,f] at e2;rcases e2 with e2|e2<;>cases e2
 .exact keep (same e▸nofun) λf=>absurd (f▸m) ()
def eO(W:World)(τ:List Row)(a:Kind)(i:Nat):Prop:=(∃x,a=aA x/\IsT W τ x i)\/∃K,2<=K.length/\τ[i]?=some (.bl K)/\a8 a=true/\∀p,p∈K↔iB W τ a p
theorem G_{W}(s:W.namesOk){τ}(t:τ.Nodup)(b:Base τ){a i}(w:aJ W a)(h:aB W τ a i)(y:a≠(128,[])):
  ((∃r,τ[i]?=some r/\bp r<6)/\a.2=[]/\a8 a=false/\(bQ a=true↔i=13)/\bO a=a.1)\/((∃r,τ[i]?=some r/\¬bp r<6)/\eO W τ a i/\bQ a=false/\i≠13):=by
 have d:∀{r},τ[i]?=some r->¬bp r<6->i≠13:=λe1 e2 e=>e2 (aa0 ((bJ b 13 Y).symm.trans (e▸e1))▸())
 rcases x1 s t b w h with⟨c,e⟩|⟨u,c,lt,e⟩|⟨x,c,e⟩|⟨K,l,e,m,p⟩
 .exact .inl (e▸c▸⟨⟨_,bJ b 2 Y,()⟩,Y,(),(),()⟩)
 .obtain⟨j,e2,f,A⟩:=JK lt;exact c▸.inl ⟨⟨j,(p6 b e).1.trans e2,Nat.lt_succ_of_lt f⟩,Y,(():∀u<8,a8 (2^u,[])=false) u lt,((():∀u<8,(bQ (2^u,[])=true↔u=6)) u lt).trans ⟨λq=>(q▸e:a6 τ 6 i),λq=>kg b e (q)⟩,(():∀u<8,u≠7->bO (2^u,[])=2^u) u lt λq=>y (c.trans (aaU (λu=>(2^u,[])) q))⟩
 .obtain⟨r,e1,e2⟩:=oB e (w.th x (c▸.head _));have f:¬bp r<6:=λq=>e2.elim (λe=>absurd (e▸q) ()) λe=>absurd (e▸q) ();exact c▸.inr ⟨⟨r,e1,f⟩,.inl ⟨x,Y,e⟩,(():(0:Nat).testBit 6=false),d e1 f⟩
 .have q:bQ a=false:=abV.mpr λq=>absurd (w.err q▸m) ();have z:¬bp (.bl K)<6:=ab0.mpr (Nat.le_of_ble_eq_true Y);exact .inr ⟨⟨_,e,z⟩,.inr ⟨K,l,e,m,p⟩,q,d e z⟩
theorem z_(d:eO W τ a i):a.2≠[]\/a8 a=true:=by
 rcases d with⟨x,rfl,_⟩|⟨_,_,_,m,_⟩
 .exact .inl (List.cons_ne_nil _ _)
 .exact .inr m
theorem IF(j:a.2=[])(h:a8 a=false)(m:bQ a=false)(l:bQ c=false)(d:eO W τ c i):¬bM R a c/\¬bM R c a:=by
 constructor
 .rintro(e|e|⟨e1,e2,r,p⟩)
  .rw[m] at e;cases e
  .rw[l] at e;cases e
  .rcases z_ d with q|q
   .cases f:c.2 with
    |nil=>exact q f
    |cons y s=>
     obtain⟨x,b,_⟩:=p y (by rw[f];simp)
     rw[j] at b;cases b
   .rw[h,q] at e2;cases e2
 .rintro(e|e|⟨e1,e2,r,p⟩)
  .rw[l] at e;cases e
  .rw[m] at e;cases e
  .rcases z_ d with q|q
   .cases f:c.2 with
    |nil=>exact q f
    |cons y s=>
     obtain⟨x,b,_⟩:=r y (by rw[f];simp)
     rw[j] at b;cases b
   .rw[h,q] at e2;cases e2
theorem C9{W}(f:W.namesOk){τ}(j:τ.Nodup)(b:Base τ){a i}(w:aJ W a)(h:aB W τ a i):∃r,τ[i]?=some r/\jf r=true:=by
 rcases x1 f j b w h with⟨rfl,e⟩|⟨u,rfl,lt,e⟩|⟨x,rfl,e⟩|⟨K,l,e,m,p⟩
 .subst e;exact⟨_,bJ b 2 Y,Y⟩
 .obtain⟨r,d,c,_⟩:=tq b e;exact⟨r,d,c⟩
 .obtain⟨r,d,c,_⟩:=vk b e;exact⟨r,d,c⟩
 .exact⟨_,e,Y⟩
noncomputable def hK(kn:List ((Nat×Nat)×Bool))(k:Nat×Nat)(v:Bool):List ((Nat×Nat)×Bool):=if kn.any (λp=>decide (p.1=k)) then kn.map (λp=>if p.1=k then(p.1,v) else p) else kn++[(k,v)]
theorem EP:aM (eo kn) (bS k) (.bool v)=eo (hK kn k v):=by
 have h:((eo kn).any λp=>decide (p.1=bS k))=kn.any λp=>decide (p.1=k):=by
  unfold eo;rw[List.any_map];congr 1;funext p;simp[lL]
 unfold aM hK;rw[h];by_cases q:(kn.any λp=>decide (p.1=k))=true
 .rw[abn q,abn q];unfold eo;rw[List.map_map,List.map_map];refine List.map_congr_left λp J=>?_;simp[lL];by_cases e:p.1=k<;>simp[e]
 .rw[aa_ q,aa_ q];unfold eo;rw[abA];rfl
theorem wz(h:(l,w)∈hK kn k v):(l=k/\w=v)\/(l,w)∈kn:=by
 unfold hK at h;split at h
 .obtain⟨p,a,e⟩:=aa6.mp h;by_cases q:p.1=k
  .rw[abn q] at e;cases e
   exact .inl ⟨q,Y⟩
  .rw[aa_ q] at e;subst e;exact .inr a
 .rw[abq,aaT] at h;rcases h with h|h
  .exact .inr h
  .cases h;exact .inl ⟨Y,Y⟩
theorem C0:(hK kn k v).length<=kn.length+1:=by
 unfold hK;split<;>simp
theorem PZ(h:aO (eo kn) (bS k)=some v):∃b,v=.bool b/\(k,b)∈kn:=by
 unfold aO eo at h;rw[Option.map_eq_some_iff] at h;obtain⟨p,e,rfl⟩:=h;have q:=List.find?_some e;obtain⟨r,a,rfl⟩:=aa6.mp (List.mem_of_find?_eq_some e);have:=lL.mp (abl q)
 subst this
 exact⟨r.2,Y,a⟩
noncomputable def RS.into(s:RS)(k:Nat×Nat):RS:={s with tr:=s.tr++[k],deep:=s.deep+1,au:=s.au+1}
theorem aF.vV{E σ s}(h:aF E σ s){d l}(m:s.au<=l):aF E (σ.set E.R.rel (.inst 692 (i6 E.H E.R s.aw d l))) {s with deep:=d,au:=l}/\ag (E.mut s.aw) σ (σ.set E.R.rel (.inst 692 (i6 E.H E.R s.aw d l))):=by
 have c:ag [E.R.rel] σ (σ.set E.R.rel (.inst 692 (i6 E.H E.R s.aw d l))):=ag.set (aK 0 Y);have f:∀n∈[E.R.rel],n∈E.mut s.aw:=fa (aK 3 Y) nofun;have b:∀(i){a},(E.mut s.aw)[i]?=some a->i≠3->a∉[E.R.rel]:=λi a e j=>by
  simp[(bV h.nd i 3 e Y j)]
 refine⟨h.upd c f (b 0 Y ()) (b 1 Y ()) (b 2 Y ()) (b 8 Y ()) Y Y Y ⟨h.inv.base,h.inv.str0,h.inv.dW,h.inv.ins,h.inv.je,h.inv.jx⟩ (ba h.rel) (c.get h.aV (b 4 Y ())) (c.get h.kn (b 5 Y ())) (c.get h.aw (b 7 Y ())) (c.get h.rd (b 6 Y ())) h.iJ ?_,c.mono f⟩;have:=h.cnt
 omega
theorem aF.push{E}{σ}{s}(h:aF E σ s){k}(l:k∉s.tr)(u:s.kn.length+s.tr.length<s.au):aF E ((σ.set E.R.aV (.dict .tup (cR (s.tr++[k])))).set s.aw (.list ((s.tr++[k]).map bS))) {s with tr:=s.tr++[k]}/\ag (E.mut s.aw) σ ((σ.set E.R.aV (.dict .tup (cR (s.tr++[k])))).set s.aw (.list ((s.tr++[k]).map bS))):=by
 have c:ag [E.R.aV,s.aw] σ ((σ.set E.R.aV (.dict .tup (cR (s.tr++[k])))).set s.aw (.list ((s.tr++[k]).map bS))):=ag.trans (ag.set (aK 0 Y)) (ag.set (aK 1 Y));have j:∀n∈[E.R.aV,s.aw],n∈E.mut s.aw:=fa (aK 4 Y) (fa (aK 7 Y) nofun);have d:∀(i){a},(E.mut s.aw)[i]?=some a->i≠4->i≠7->a∉[E.R.aV,s.aw]:=λi a e p m=>by
  have r:=bV h.nd i 4 e Y p;have q:=bV h.nd i 7 e Y m;simp[r,q]
 refine⟨h.upd (s':={s with tr:=s.tr++[k]}) c j (d 0 Y () ()) (d 1 Y () ()) (d 2 Y () ()) (d 8 Y () ()) Y Y Y ⟨h.inv.base,h.inv.str0,h.inv.dW,h.inv.ins,h.inv.je,h.inv.jx⟩ (c.get h.rel (d 3 Y () ())) ?_ (c.get h.kn (d 5 Y () ())) ?_ (c.get h.rd (d 6 Y () ())) ?_ ?_,c.mono j⟩
 .exact a4 (ba h.aV) (bV h.nd 7 4 Y Y ())
 .have t:(σ.set E.R.aV (.dict .tup (cR (s.tr++[k]))))[s.aw]?=some (.list (s.tr.map bS)):=a4 h.aw (bV h.nd 4 7 Y Y ());exact ba t
 .show(s.tr++[k]).Nodup;rw[abR];refine⟨h.iJ,by simp,λa ma b f e=>?_⟩
  rw[aaT] at f;subst e;subst f;exact l ma
 .show s.kn.length+(s.tr++[k]).length<=s.au;rw[aa4,List.length_singleton];omega
theorem aF.V3{E σ s}(h:aF E σ s){k v}(j:v=true->i7 E.W s.τ k.1 k.2)(d:v=false->jG E.W s.τ k.1 k.2)(q:s.kn.length+s.tr.length<s.au):aF E (σ.set E.R.kn (.dict .tup (eo (hK s.kn k v)))) {s with kn:=hK s.kn k v}/\ag (E.mut s.aw) σ (σ.set E.R.kn (.dict .tup (eo (hK s.kn k v)))):=by
 have c:ag [E.R.kn] σ (σ.set E.R.kn (.dict .tup (eo (hK s.kn k v)))):=ag.set (aK 0 Y);have f:∀n∈[E.R.kn],n∈E.mut s.aw:=fa (aK 5 Y) nofun;have b:∀(i){a},(E.mut s.aw)[i]?=some a->i≠5->a∉[E.R.kn]:=λi a e p=>by
  simp[(bV h.nd i 5 e Y p)]
 refine⟨h.upd c f (b 0 Y ()) (b 1 Y ()) (b 2 Y ()) (b 8 Y ()) Y Y Y ⟨h.inv.base,h.inv.str0,h.inv.dW,h.inv.ins,λl m=>?_,λl m=>?_⟩ (c.get h.rel (b 3 Y ())) (c.get h.aV (b 4 Y ())) (ba h.kn) (c.get h.aw (b 7 Y ())) (c.get h.rd (b 6 Y ())) h.iJ ?_,c.mono f⟩
 .rcases wz m with⟨e1,e2⟩|m
  .exact e1▸j e2.symm
  .exact h.inv.je l m
 .rcases wz m with⟨e1,e2⟩|m
  .exact e1▸d e2.symm
  .exact h.inv.jx l m
 .have:=C0 (kn:=s.kn) (k:=k) (v:=v)
  omega
theorem dN(h:dZ a):aJ W a.kind:=by
 obtain⟨b,x⟩:=a;cases x with
 |none=>exact⟨.nil,nofun,h.lt,λe=>Prod.ext (h.any e).1 Y,λe=>Prod.ext (h.err e).1 Y,h.a0,h.s0⟩
 |some x=>exact⟨List.pairwise_singleton ..,λy m=>aaT.mp m▸h.2,h.1.lt,λe=>(nomatch (h.1.any e).2),λe=>(nomatch (h.1.err e).2),h.1.a0,h.1.s0⟩
theorem Sm:∀{b},b<256->(∀k∈ks,aJ W k)->b7 b ks<256:=by
 induction ks with
 |nil=>exactλh J=>h
 |cons k ks a=>exactλ{b}h w=>a (b:=b|||k.1) (Nat.or_lt_two_pow (n:=8) h (w k (.head _)).lt) λl m=>w l (.tail _ m)
theorem KO:∀{xs},xs.Nodup->(∀k∈ks,aJ W k)->(gc xs ks).Nodup:=by
 induction ks with
 |nil=>exactλh J=>h
 |cons k ks d=>exactλ{xs}h w=>d (xs:=xs++k.2.filter λx=>decide _) (abR.mpr ⟨h,(w k (.head _)).nd.filter _,λa ma b c e=>abl (abZ.mp c).2 (e▸ma)⟩) λl m=>w l (.tail _ m)
theorem zJ(h:b<256):dr b<256:=by
 unfold dr;by_cases q:b.testBit 2=true
 .rw[abn q];exact aaZ Nat.and_le_left h
 .rw[aa_ q];by_cases q:b.testBit 0=true
  .rw[abn q];exact aaZ Nat.and_le_left h
  .rw[aa_ q];exact h
theorem nk{ks}{P:Kind->Prop}(a:P (32,[]))(b:P (64,[]))(c:(b7 0 ks).testBit 5=false->(b7 0 ks).testBit 6=false->P (dr (b7 0 ks),gc [] ks)):P (aS ks):=by
 unfold aS;by_cases h:(b7 0 ks).testBit 5=true
 .rw[abn h];exact a
 .rw[aa_ h];by_cases d:(b7 0 ks).testBit 6=true
  .rw[abn d];exact b
  .rw[aa_ d];exact c (abV.mpr h) (abV.mpr d)
theorem IV{W ks}(w:∀k∈ks,aJ W k):aJ W (aS ks):=
 nk ⟨.nil,nofun,(),λJ=>Y,λe=>absurd e (),λe=>absurd e (),λe=>absurd e ()⟩
  ⟨.nil,nofun,(),λe=>absurd e (),λJ=>Y,λe=>absurd e (),λe=>absurd e ()⟩
  λf d=>
  have c:=qS ()
  have a:=qS ()
  have b:=qS ()
  ⟨KO .nil w,λx m=>(jW.mp m).elim nofun λq=>q.elim λk q=>(w k q.1).th x q.2,zJ (Sm () w),λe=>absurd (f.symm.trans (rh e)) aaY,λe=>absurd (d.symm.trans (rh e)) aaY,
   λe=>a.trans ((():∀x y z,(x&&!(true&&y)&&!(false&&(y||x)))=true->(z&&!(false&&y)&&!(true&&(y||x)))=false) _ _ _ (c.symm.trans e)),
   λe=>⟨c.trans ((():∀x y,(y&&!(false&&y)&&!(false&&(y||x)))=true->(x&&!(true&&y)&&!(false&&(y||x)))=false) _ _ (b.symm.trans e)),a.trans ((():∀x y z:Bool,(y&&!(false&&y)&&!(false&&(y||x)))=true->(z&&!(false&&y)&&!(true&&(y||x)))=false) _ _ _ (b.symm.trans e))⟩⟩
theorem jb(h:bG W x):aJ W (0,[x]):=⟨by simp,by simpa using h,(():0<256),λe=>absurd e (by simp),λe=>absurd e (by simp),λe=>absurd e (by simp),λe=>absurd e (by simp)⟩
theorem ki(h:iH b false):aJ W (b,[]):=dN (a:=(b,none)) h
theorem Y_:iH 9 false:=⟨(),(),(),(),()⟩
theorem VY:iH 16 false:=⟨(),(),(),(),()⟩
theorem j5:iH 1 false:=⟨(),(),(),(),()⟩
theorem rN:iH 0 false:=⟨(),(),(),(),()⟩
theorem ye:∀{a},dZ a->bG W (.lf (Lf.box a))
 |(_,none),h=>h
 |(_,some _),h=>h
theorem NJ(w:aJ W k):aJ W (bP m k):=by
 unfold bP;split
 .refine IV λl a=>?_;simp at a;rcases a with rfl|rfl
  .exact w
  .exact ki VY
 .exact w
theorem pJ{as:List AK}(h:∀a∈as,dZ a):dZ (as.headD (0,none)):=by
 cases as with
 |nil=>exact rN
 |cons a as=>exact h a abK
theorem Ah{as:List AK}(h:∀a∈as,dZ a):dZ (as.getLastD (0,none)):=by
 rcases List.eq_nil_or_concat as with e|⟨l,a,e⟩
 .subst e;exact rN
 .subst e;exact((by simp:(l.concat a).getLastD _=a))▸h a (by simp)
theorem CB{W k how as}(h:∀a∈as,dZ a)(d:how=4\/how=6->as.length=(aX W (W.own k)).length):aJ W (cell W k how as):=by
 have two {a b} (i f):aJ W (aS [a,b]):=IV λl c=>(aa5.mp c).elim (·▸i) λm=>aaT.mp m▸f;exact i8 (P:=λn K=>(n=4\/n=6->as.length=(aX W _).length)->aJ W K) (λJ=>dN (pJ h)) (λJ=>dN (Ah h)) (λJ=>two (dN (pJ h)) (ki Y_)) (λq=>jb ⟨q (.inl Y),h⟩) (λq=>jb ⟨List.length_reverse.trans (q (.inr Y)),λa m=>h a (List.mem_reverse.mp m)⟩) (λJ=>two (jb (ye (Ah h))) (dN (pJ h))) (λJ=>jb trivial) (λJ=>jb (ye (pJ h))) (λJ=>jb (ye j5)) (λJ J J J J=>ki j5) how d
theorem uw(k)(a:k<2):(aX W k).length=(aX W 0).length:=by
 rcases k with _|_|k
 .rfl
 .unfold aX;by_cases h:W.n=2<;>simp[h]
 .exact absurd a (ab0.mpr (abj ..))
theorem BI(d:W.Ok)(w:bG W x)(j:∀k as,x=.own k as->k<2):∀m∈bW W x,aJ W m.2:=by
 have lo:∀k,k<2->W.own k<2:=λk J=>by
  unfold World.own;split
  .exact d.dz
  .decide
 have box:∀{as},_->∀m∈(cP W 2).map λm=>(m,cell W 2 m.how as),aJ W m.2:=λh m c=>by
  obtain⟨r,f,rfl⟩:=aa6.mp c;have:=aaT.mp f
  exact CB h λe=>by have:=d.lW;omega
 have own:∀{k as},k<2->as.length=(aX W k).length->_->∀{l:List Mem},∀m∈l.map λm=>(m,cell W k m.how as),aJ W m.2:=λi p h J m c=>by
  obtain⟨r,f,rfl⟩:=aa6.mp c;exact CB h λJ=>by rw[p,uw _ i,uw _ (lo _ i)]
 cases x with
 |own k as=>exact own (j k as Y) w.1 w.2
 |six=>
  refine own () ?_ d.six.2;rw[d.six.1];rcases d.n with e|e<;>simp[aX,e]
 |lf x=>
  cases x with
  |par=>exact w.elim
  |i3=>intro m c;have:m=(mP,(1,[])):=aaT.mp c;subst this;exact ki j5
  |i4=>intro m c;have:m=(mP,(1,[])):=aaT.mp c;subst this;exact ki j5
  |a9 b=>exact box (by intro a m;rw[aaT] at m;subst m;exact w)
  |aY b x=>exact box (by intro a m;rw[aaT] at m;subst m;exact w)
def b9(k:Nat)(s:RS):Prop:=s.τ.length+s.es.length+k<=10000000+140*s.au/\s.au<=20000
theorem b9.le(h:b9 k s)(l:k'<=k):b9 k' s:=⟨aaS (aa3 l _) h.1,h.2⟩
theorem b9.out(h:b9 (k+m) s)(o:aP E k σ s a s')(l:s'.au<=20000):b9 m s':=by
 refine⟨?_,l⟩;have:=h.1
 have:=o.sz
 omega
theorem b9.row(h:b9 k s):s.τ.length<=12800000/\s.es.length<=12800000:=by
 have:=h.1;have:=h.2
 constructor<;>omega
theorem Qq{E:EN}{b σ a}(c:ag [E.T.rows,E.T.index] σ a):ag (E.mut b) σ a:=c.mono (fa (aK 0 Y) (fa (aK 1 Y) nofun))
theorem aP.dK(h:aF E σ s)(o:bg σ E.T s.τ c b a):aP E c σ s b {s with τ:=a}:=
 ⟨h.dK o,Qq o.chg,o.pre,.inl Y,Y,Y,aaX _,by have:=o.len;omega⟩
theorem aP.shape{E σ b s}(h:aF E σ s){a es'}(o:yM E.W σ E.H E.T s.τ s.es b a es'):aP E 62 σ s b {s with τ:=a,es:=es'}:=
 ⟨h.shaped o.tab o.host o.ins o.chg o.pre,o.chg.mono (fa (aK 0 Y) (fa (aK 1 Y) (fa (aK 2 Y) nofun))),o.pre,.inl Y,Y,Y,aaX _,by have:=o.len;have:=o.Va;omega⟩
theorem EF:∀{xs},(gc xs ks).length<=xs.length+(ks.map λk=>k.2.length).sum:=by
 induction ks with
 |nil=>exactλ{xs}=>aaX _
 |cons k ks a=>exactλ{xs}=>aaS (a (xs:=xs++k.2.filter λx=>decide _)) (by
   rw[aa4,abu]
   exact aa3 (aa2 (abS ..) _) _)
theorem E9{ks}:(aS ks).2.length<=(ks.map λk=>k.2.length).sum:=
 nk (P:=λk=>k.2.length<=(ks.map λk=>k.2.length).sum) (aa9 _) (aa9 _) λJ J=>aaS (EF) (aa7 (ab5 _))
theorem gU(a:AK):a.kind.2.length<=1:=by
 obtain⟨b,_|x⟩:=a<;>simp[AK.kind]
theorem B7(h:a.2.length+b.2.length<=n):(aS [a,b]).2.length<=n:=aaS E9 h
theorem tW(W k how as):(cell W k how as).2.length<=2:=
 have b a:=Nat.le_succ_of_le (gU a)
 i8 (P:=λJ K=>K.2.length<=2) (b _) (b _) (B7 (b _)) (ab7 1) (ab7 1) (B7 (aa3 (gU _) 1)) (ab7 1) (ab7 1) (ab7 1) (λJ J J J=>aa9 _) how
theorem lH(c:W.Ok)(x):(bW W x).length<=3/\∀m∈bW W x,m.1.nm<128/\m.2.2.length<=2:=by
 have gen:∀k as,((cP W k).map λm=>(m,cell W k m.how as)).length<=3/\∀m∈(cP W k).map λm=>(m,cell W k m.how as),m.1.nm<128/\m.2.2.length<=2:=λk as=>by
  refine⟨by rw[aa1];exact c.len k,λm a=>?_⟩
  obtain⟨r,d,rfl⟩:=aa6.mp a;exact⟨c.nm k r d,tW ..⟩
 have one:([(mP,((1,[]):Kind))]).length<=3/\∀m∈[(mP,((1,[]):Kind))],m.1.nm<128/\m.2.2.length<=2:=by
  refine⟨by simp,λm a=>?_⟩
  rw[aaT] at a;subst a;exact⟨(),by simp⟩
 cases x with
 |own k as=>exact gen k as
 |six=>exact gen 0 W.six
 |lf x=>
  cases x with
  |par=>exact⟨by simp[bW],λm a=>by simp[bW] at a⟩
  |i3=>exact one
  |i4=>exact one
  |a9 b=>exact gen 2 _
  |aY b x=>exact gen 2 _
abbrev tL:=List (Kind×Kind)->RS->Prop
def sL(A:tL):Prop:=∀l s a es',A l s->s.τ<+:a->A l {s with τ:=a,es:=es'}
theorem T_{d:Type}{l m:List d}{k:Nat}{a b}(f:l[k]?=some a)(c:m[k]?=some b)(h:a≠b):l≠m:=by
 rintro rfl;rw[f] at c;exact h (aa0 c)
theorem Wk:dG [a,b,c,d,e,f,g] (some 4) (some 6) none=[e,f]:=by rfl
theorem Ec(q:Q (.tup [e,f]) σ):Ok (d7 (.tup [a,b,c,d,e,f,g]) (.int 4) (.int 6) .none) σ Q:=⟨some 4,some 6,none,⟨Y,Y,Y,λe=>aa8 _ e.symm⟩,by show(dG ..).length<=sizeLine/\Q _ σ;rw[Wk];exact⟨show 2<=sizeLine by decide,q⟩⟩
theorem Zi:dG [a,b,c,d,e,f,g] (some 2) (some 4) none=[c,d]:=by rfl
theorem I6(q:Q (.tup [c,d]) σ):Ok (d7 (.tup [a,b,c,d,e,f,g]) (.int 2) (.int 4) .none) σ Q:=⟨some 2,some 4,none,⟨Y,Y,Y,λe=>aa8 _ e.symm⟩,by show(dG ..).length<=sizeLine/\Q _ σ;rw[Zi];exact⟨show 2<=sizeLine by decide,q⟩⟩
theorem sf(h:aG R l m):∀{i},i<l.length->∃a b,l[i]?=some a/\m[i]?=some b/\R a b:=
 h.ind (P:=λl m=>∀{i},i<l.length->∃a b,l[i]?=some a/\m[i]?=some b/\R a b) (λh=>absurd h (Nat.not_lt_zero _)) λa b l m x _ r{i}c=>by
  cases i with
  |zero=>exact⟨a,b,Y,Y,x⟩
  |succ i=>exact r (Nat.lt_of_succ_lt_succ c)
theorem drop_cons{b:Type}{l:List b}{k a}(h:l[k]?=some a):l.drop k=a::l.drop (k+1):=by
 obtain⟨d,c⟩:=abg.mp h;rw[List.drop_eq_getElem_cons d,c]
theorem aF.EA{E σ s}(h:aF E σ s)(rd):aF E (σ.set E.R.rd (.list (rd.map gQ))) {s with rd:=rd}/\ag (E.mut s.aw) σ (σ.set E.R.rd (.list (rd.map gQ))):=by
 have c:ag [E.R.rd] σ (σ.set E.R.rd (.list (rd.map gQ))):=ag.set (aK 0 Y);have d:∀n∈[E.R.rd],n∈E.mut s.aw:=fa (aK 6 Y) nofun;have b:∀(i){a},(E.mut s.aw)[i]?=some a->i≠6->a∉[E.R.rd]:=λi a e f=>by
  simp[(bV h.nd i 6 e Y f)]
 exact⟨h.upd c d (b 0 Y ()) (b 1 Y ()) (b 2 Y ()) (b 8 Y ()) Y Y Y ⟨h.inv.base,h.inv.str0,h.inv.dW,h.inv.ins,h.inv.je,h.inv.jx⟩ (c.get h.rel (b 3 Y ())) (c.get h.aV (b 4 Y ())) (c.get h.kn (b 5 Y ())) (c.get h.aw (b 7 Y ())) (ba h.rd) h.iJ h.cnt,c.mono d⟩
noncomputable def RS.push(s:RS)(e:Nat×Nat×Nat×Nat):RS:={s with rd:=s.rd++[e]}
noncomputable def aW:Th->Nat
 |.own k _=>k+1
 |.six=>0
 |.lf .i3=>4
 |.lf .i4=>0
 |.lf (.par _)=>0
 |.lf (.a9 _)=>3
 |.lf (.aY _ _)=>3
theorem yf(h:IsT W τ x i)(w:bG W x):∃r,τ[i]?=some r/\dU r=aW x:=by
 cases x with
 |own k as=>obtain⟨_,us,e,_⟩:=h;exact⟨_,e,Y⟩
 |six=>obtain⟨ps,e,_⟩:=h;exact⟨_,e,Y⟩
 |lf x=>
  cases x with
  |i3=>exact⟨_,h,Y⟩
  |i4=>obtain⟨u,e,_⟩:=h;exact⟨_,e,Y⟩
  |par i=>exact w.elim
  |a9 b=>obtain⟨u,e,_⟩:=h;exact⟨_,e,Y⟩
  |aY b x=>obtain⟨u,v,e,_⟩:=h;exact⟨_,e,Y⟩
theorem Fz(h:IsT W τ x i)(w:bG W x):(c8 x=none/\((∃ps,τ[i]?=some (.obj ps))\/x=.lf .i3/\τ[i]?=some (.ref 4 [])))\/∃k as us,c8 x=some (k,as)/\k<3/\τ[i]?=some (.ref (k+1) us)/\aG (aB W τ) (as.map AK.kind) us/\as.length=(aX W k).length:=by
 have am:∀{as us},aG (dD τ) as us->aG (aB W τ) (as.map AK.kind) us:=by
  intro as;induction as with
  |nil=>intro us a;cases us with|nil=>trivial|cons=>exact a.elim
  |cons a as c=>
   intro us r;cases us with
   |nil=>exact r.elim
   |cons u us=>exact⟨zO.mp r.1,c r.2⟩
 cases x with
 |own k as=>obtain⟨lt,us,e,a⟩:=h;exact .inr ⟨k,as,us,Y,by omega,e,am a,w.1⟩
 |six=>obtain⟨ps,e,_⟩:=h;exact .inl ⟨Y,.inl ⟨ps,e⟩⟩
 |lf x=>
  cases x with
  |i3=>exact .inl ⟨Y,.inr ⟨Y,h⟩⟩
  |i4=>obtain⟨u,e,_⟩:=h;exact .inl ⟨Y,.inl ⟨_,e⟩⟩
  |par i=>exact w.elim
  |a9 b=>obtain⟨u,e,k⟩:=h;exact .inr ⟨2,[_],[u],Y,(),e,am ⟨k,trivial⟩,Y⟩
  |aY b x=>obtain⟨u,v,e,l,k⟩:=h;exact .inr ⟨2,[_],[u],Y,(),e,am ⟨⟨v,l,k⟩,trivial⟩,Y⟩
theorem QA{W k}{as bs:List AK}(b:as.length=(aX W k).length)(a:bs.length=(aX W k).length):(as.map AK.kind).length=(bs.map AK.kind).length:=by
 rw[aa1,aa1,b,a]
theorem oV:(aX W k).length<=2:=by
 unfold aX;split
 .simp
 split
 .simp
 split<;>simp
structure Rg where
 U:List (Th×Th)
 wt:Th×Th->Nat
noncomputable def Rg.none:Rg:=⟨[],λJ=>0⟩
def fN(W:World)(s:RS)(p:Th×Th):Prop:=∃i j,IsT W s.τ p.1 i/\IsT W s.τ p.2 j/\(i,j)∈s.tr
theorem fN.mono(h:s.τ<+:s'.τ)(k:∀x∈s.tr,x∈s'.tr):fN W s p->fN W s' p:=λ⟨i,j,a,b,m⟩=>⟨i,j,a.mono h,b.mono h,k _ m⟩
open Classical in
def Rg.left(G:Rg)(W:World)(s:RS):List (Th×Th):=G.U.filter λp=>decide (¬fN W s p)
open Classical in
theorem Rg.Xt{G:Rg}{W:World}{s:RS}{p:Th×Th}(m:p∈G.U)(n:¬fN W s p):p∈G.left W s:=abZ.mpr ⟨m,by rw[abr];exact n⟩
def Rg.rem(G:Rg)(W:World)(s:RS):Nat:=((G.left W s).map G.wt).sum
theorem pZ{c:Type}{f:c->Nat}{p q}(h:∀a,p a=true->q a=true)(l:List c):((l.filter p).map f).sum<=((l.filter q).map f).sum:=by
 induction l with
 |nil=>exact aaX _
 |cons a l b=>
  rw[List.filter_cons,List.filter_cons];by_cases e:p a=true
  .rw[abn e,abn (h a e)];exact aa3 b _
  .rw[aa_ e];by_cases d:q a=true
   .rw[abn d];exact aaS b (abj ..)
   .rw[aa_ d];exact b
theorem DY{c:Type}{f:c->Nat}{p q}(h:∀a,p a=true->q a=true){x}(i:p x=false)(j:q x=true)(l:List c)(m:x∈l):((l.filter p).map f).sum+f x<=((l.filter q).map f).sum:=by
 induction l with
 |nil=>cases m
 |cons a l b=>
  rw[List.filter_cons,List.filter_cons];by_cases e:a=x
  .subst e;rw[i,j,abE];exact aa3 (pZ h l) _
  .have b:=b ((aa5.mp m).resolve_left (Ne.symm e));by_cases e:p a=true
   .rw[abn e,abn (h a e)];exact aaS (aa7 (abu ..)) (aa3 b _)
   .rw[aa_ e];by_cases d:q a=true
    .rw[abn d];exact aaS b (abj ..)
    .rw[aa_ d];exact b
open Classical in
theorem ur(h:s.τ<+:s'.τ)(k:∀x∈s.tr,x∈s'.tr)(p:Th×Th)(e:decide (¬fN W s' p)=true):decide (¬fN W s p)=true:=by
 rw[abr] at e⊢;exactλo=>e (o.mono h k)
open Classical in
theorem Rg.sm{G:Rg}{W:World}{s s':RS}(h:s.τ<+:s'.τ)(k:∀x∈s.tr,x∈s'.tr):G.rem W s'<=G.rem W s:=pZ (ur h k) _
theorem Rg.nO:Rg.none.rem W s=0:=rfl
open Classical in
theorem Rg.Vs{G:Rg}{W:World}{s s':RS}(h:s.τ<+:s'.τ)(k:∀x∈s.tr,x∈s'.tr){p:Th×Th}(m:p∈G.U)(n:¬fN W s p)(o:fN W s' p):G.rem W s'+G.wt p<=G.rem W s:=
 DY (ur h k) (by rw[decide_eq_false_iff_not];exactλf=>f o) (by rw[abr];exact n) _ m
theorem oC(l:List b):(l.map λJ=>1).sum=l.length:=by
 induction l with
 |nil=>rfl
 |cons _ l a=>exact(aaU _ a).trans (abE ..)
open Classical in
theorem Rg.Yo{G:Rg}{W:World}{s s':RS}(h:s.τ<+:s'.τ)(k:∀x∈s.tr,x∈s'.tr):(G.left W s').length<=(G.left W s).length:=by
 have:=pZ (f:=λJ=>1) (ur (W:=W) h k) G.U
 rw[oC,oC] at this
 exact this
open Classical in
theorem Rg.K7{G:Rg}{W:World}{s s':RS}(h:s.τ<+:s'.τ)(k:∀x∈s.tr,x∈s'.tr){p:Th×Th}(m:p∈G.U)(n:¬fN W s p)(o:fN W s' p):(G.left W s').length+1<=(G.left W s).length:=by
 have:=DY (f:=λJ=>1) (ur (W:=W) h k) (x:=p) (by rw[decide_eq_false_iff_not];exactλf=>f o) (by rw[abr];exact n) G.U m
 rw[oC,oC] at this
 exact this
structure Sb(E)(G:Rg)(c a b v)(σ s aj s'):Prop where
 g:aP E 0 σ s aj s'
 n:bI E s s'
 l:s'.au<=20000
 t:v=true->d6 E.W s'.τ s'.tr a b
 f:v=false->¬aQ E.W a b/\s'.tr=s.tr
 c:s'.au+(if v then G.rem E.W s' else 0)<=s.au+G.rem E.W s+c
structure fw(E:EN)(G:Rg)(c g d)(Rd:RS->Prop)(s):Prop where
 z:b9 0 s
 rd:s.rd.length+g<=23
 deep:s.deep+d<60
 c:s.au+G.rem E.W s+c<=20000
 r:Rd s
structure TG(E)(G:Rg)(c)(a b k v σ)(s:RS)(aj s'):Prop where
 g:aP E 140 σ (s.into k) aj s'
 n:bI E (s.into k) s'
 l:s'.au<=20000
 t:v=true->kj E.W s'.τ s'.tr k
 f:v=false->¬aQ E.W a b
 c:s'.au+(if v then G.rem E.W s' else 0)<=s.au+G.rem E.W s+c
theorem fw.A4{E}{G c g d a s}(p:fw E G c g d a s):s.deep<60:=by
 have:=p.deep;omega
theorem oX:aQ W (aA x) (aA y)↔x=y\/br W x y:=by
 constructor
 .rintro(e|e|⟨_,_,e,_⟩)
  .exact absurd (show(0:Nat).testBit 6=true from e) ()
  .exact absurd (show(0:Nat).testBit 6=true from e) ()
  .obtain⟨z,a,o⟩:=e x (.head _);have:=aaT.mp a
   subst this
   exact o
 .intro o;refine .inr (.inr ⟨Y,Y,λz a=>?_,λz a=>?_⟩)
  .have:=aaT.mp a
   subst this
   exact⟨y,.head _,o⟩
  .have:=aaT.mp a
   subst this
   exact⟨x,.head _,o⟩
noncomputable def b8(f:Kind×Kind->Nat)(l:List (Kind×Kind)):Nat:=(l.map f).sum
theorem s9:b8 f (p::l)=f p+b8 f l:=by simp[b8]
def bq(W:World)(x y:Th):List (Kind×Kind):=(bX W x).zip (bX W y)
def cw(f:Kind×Kind->Nat)(x y:Th):Nat:=((aZ x y).map (b8 f)).sum
theorem xF:aZ x y=[]\/∃k as bs,c8 x=some (k,as)/\c8 y=some (k,bs)/\aZ x y=[(as.map AK.kind).zip (bs.map AK.kind)]:=by
 unfold aZ;cases d:c8 x with
 |none=>exact .inl Y
 |some a=>cases c:c8 y with
  |none=>exact .inl Y
  |some b=>exact(Decidable.em _).elim (λq=>.inr ⟨a.1,a.2,b.2,Y,aaU (λk=>some (k,b.2)) q.symm,abn q⟩) λq=>.inl (aa_ q)
theorem q_:aZ x y=[]\/∃r,aZ x y=[r]:=xF.imp id λq=>q.elim λJ q=>q.elim λJ q=>q.elim λJ q=>⟨_,q.2.2⟩
theorem x3(m:r∈aZ x y):cw f x y=b8 f r:=by
 unfold cw;rcases q_ (x:=x) (y:=y) with e|⟨a,e⟩
 .rw[e] at m;cases m
 .rw[e,aaT] at m;subst m;rw[e];simp
theorem zY(h:x≠y)(d:∀road∈aZ x y,∃p∈road,¬aQ W p.1 p.2)(c:aU W x≠aU W y\/∃p∈bq W x y,¬aQ W p.1 p.2):¬aQ W (aA x) (aA y):=by
 intro l;rcases oX.mp l with e|l
 .exact h e
 .obtain⟨road,a,all⟩:=l.step;rcases abq.mp a with a|a
  .obtain⟨p,b,np⟩:=d road a;exact np (all p b)
  .by_cases q:aU W x=aU W y
   .rw[abn q,aaT] at a;subst a;rcases c with c|⟨p,b,np⟩
    .exact c q
    .exact np (all p b)
   .rw[aa_ q] at a;cases a
theorem ig(h:aB W τ (aA x) i):IsT W τ x i:=by
 obtain⟨vs,a,p⟩:=h;match vs,a with
 |[v],⟨b,_⟩=>
  have:=yS p
  subst this
  exact b
theorem bI.Lx{E s s'}(h:bI E s s'){a es'}(p:s'.τ<+:a):bI E s {s' with τ:=a,es:=es'}:=
 ⟨h.aw,h.ext,λk m=>(h.n9 k m).imp id λj=>j.mono p λJ m=>m⟩
theorem bI.p7(h:bI E s s'):bI E s {s' with rd:=rd}:=⟨h.aw,h.ext,h.n9⟩
open Classical in
def pP{a β:Type}(R:a->β->Prop)(xs:List a)(g:a->Nat)(p:β):Nat:=(xs.map λx=>if R x p then g x else 0).sum
def wsum{a β}(R:a->β->Prop)(xs:List a)(g:a->Nat)(r:List β):Nat:=(r.map (pP R xs g)).sum
theorem wJ:wsum R xs g (p::r)=pP R xs g p+wsum R xs g r:=by simp[wsum]
open Classical in
theorem G6(h:R x p)(m:x∈xs):g x<=pP R xs g p:=by
 induction xs with
 |nil=>cases m
 |cons a xs b=>
  unfold pP;rw[abM,List.sum_cons];rcases aa5.mp m with e|m
  .rw[←e,abn h];exact aaW _ _
  .exact aaS (b m) (abj _ _)
open Classical in
open Classical in
theorem Nu{β:Type}{R:β->Prop}{n:Nat}(l:List β):(∀x∈l,¬R x)->(l.map λp=>if R p then n else 0).sum=0:=by
 induction l with
 |nil=>exactλJ=>Y
 |cons x l a=>exactλh=>(aaU (·+_) (aa_ (h x (.head _)))).trans ((ab5 _).trans (a λy m=>h y (.tail _ m)))
open Classical in
theorem QB{β:Type}{R:β->Prop}{n:Nat}(f:∀p q,R p->R q->p=q){l:List β}(h:l.Nodup):(l.map λp=>if R p then n else 0).sum<=n:=by
 induction l with
 |nil=>exact aa9 _
 |cons p r b=>
  rw[abv] at h;rw[abM,List.sum_cons];by_cases q:R p
  .rw[abn q,Nu r λx m a=>h.1 (f p x q a▸m)];exact aaX _
  .rw[aa_ q,ab5];exact b h.2
theorem QO(r:List β):wsum R [] g r=0:=by
 induction r with
 |nil=>rfl
 |cons p r a=>exact(ab5 _).trans a
open Classical in
theorem NP(r:List β):wsum R (a::xs) g r=(r.map λp=>if R a p then g a else 0).sum+wsum R xs g r:=by
 induction r with
 |nil=>rfl
 |cons p r b=>exact(aaU (((if R a p then g a else 0)+pP R xs g p)+·) b).trans (Nat.add_add_add_comm ..)
theorem Ej{b β R}(f:∀x p q,R x p->R x q->p=q){g}{r:List β}(d:r.Nodup)(xs:List b):wsum R xs g r<=(xs.map g).sum:=by
 induction xs with
 |nil=>exact aa7 (QO r)
 |cons a xs c=>rw[NP];exact abw (QB (f a) d) c
theorem Vq{W τ}(d:τ.Nodup)(b:Base τ){a i K}(h:aB W τ a i)(e:τ[i]?=some (.bl K)):K.Nodup:=by
 obtain⟨f,kp⟩:=gG d h;obtain⟨r,c,p⟩:=uh b kp;rw[e] at c;cases c
 unfold f6 at p;by_cases q:i=2
 .subst q;rw[bJ b 2 Y] at e;cases e
 .rw[aa_ q] at p;exact(show K=f from p)▸(kp.sorted.imp abx)
theorem rQ(h:u<8):aJ W (2^u,[]):=⟨by simp,by simp,((():∀u<8,(2^u)<256) u h),λe=>Prod.ext ((():∀u<8,(2^u).testBit 5=true->2^u=32) u h e) Y,λe=>Prod.ext ((():∀u<8,(2^u:Nat).testBit 6=true->2^u=64) u h e) Y,((():∀u<8,(2^u:Nat).testBit 0=true->(2^u).testBit 7=false) u h),((():∀u<8,(2^u:Nat).testBit 2=true->(2^u).testBit 0=false/\(2^u).testBit 7=false) u h)⟩
noncomputable def cJ(u:Nat):Nat:=if u=7 then 0 else u
theorem Gu(b:u<8)(a:v<8)(d:u≠6)(c:v≠6):aQ W (2^u,[]) (2^v,[])↔cJ u=cJ v:=by
 have i:∀u<8,u≠6->bQ (2^u,[])=false:=();have h:∀u<8,∀v<8,u≠6->v≠6->(bO (2^u,[])=bO (2^v,[])↔cJ u=cJ v):=();have f:∀u<8,a8 (2^u,[])=false:=();constructor
 .rintro(e|e|⟨e,_⟩)
  .rw[i u b d] at e;cases e
  .rw[i v a c] at e;cases e
  .exact(h u b v a d c).mp e
 .intro e;exact .inr (.inr ⟨(h u b v a d c).mpr e,by rw[f u b,f v a],λx m=>(nomatch m),λx m=>(nomatch m)⟩)
theorem Gy(c:u<8)(b:u≠6):¬aQ W (2^u,[]) (aA y)/\¬aQ W (aA y) (2^u,[]):=by
 have f:∀u<8,u≠6->bQ (2^u,[])=false:=();have d:bQ (aA y)=false:=(():(0:Nat).testBit 6=false);constructor
 .rintro(e|e|⟨_,_,_,e⟩)
  .rw[f u c b] at e;cases e
  .rw[d] at e;cases e
  .obtain⟨x,a,_⟩:=e y (.head _);cases a
 .rintro(e|e|⟨_,_,e,_⟩)
  .rw[d] at e;cases e
  .rw[f u c b] at e;cases e
  .obtain⟨x,a,_⟩:=e y (.head _);cases a
theorem vW(a:u<8):¬eO W τ (2^u,[]) i:=by
 rintro(⟨x,e,_⟩|⟨_,_,_,m,_⟩)
 .exact absurd (Prod.mk.inj e).2 (by simp)
 .rw[(():∀u<8,a8 (2^u,[])=false) u a] at m;cases m
theorem zN(w:aJ W a)(e:bQ a=false)(h:a.1.testBit u=true):u≠6:=by
 rintro rfl;unfold bQ at e;rw[e] at h;cases h
structure Parts(W τ a)(K:List Nat):Prop where
 nd:K.Nodup
 mem:∀p,p∈K↔iB W τ a p
 w:aJ W a
 ne:bQ a=false
 gq:∀x∈a.2,∃v,IsT W τ x v
 hH:∀j,a.1.testBit j=true->∃p,a6 τ j p
theorem HT{W τ}(c:τ.Nodup)(b:Base τ){a i K}(w:aJ W a)(ne:bQ a=false)(h:aB W τ a i)(e:τ[i]?=some (.bl K))(m:∀p,p∈K↔iB W τ a p):Parts W τ a K:=by
 obtain⟨d,kp⟩:=gG c h;exact⟨Vq c b h e,m,w,ne,kp.gq,kp.hH⟩
theorem uS(h:k.1<256):(bO k).testBit t=true↔∃u,k.1.testBit u=true/\cJ u=t:=by
 have d:∀u,8<=u->k.1.testBit u=false:=λu a=>Nat.testBit_lt_two_pow (abb h (Nat.pow_le_pow_right (n:=2) () a));have c:∀t,(127:Nat).testBit t=decide (t<7):=λt=>by
  have:127=2^7-1:=Y
  rw[this,Nat.testBit_two_pow_sub_one]
 unfold bO;rw[Nat.testBit_or,Nat.testBit_and,Nat.testBit_shiftRight,c,Bool.or_eq_true,abY,abr];constructor
 .rintro(⟨b,f⟩|b)
  .exact⟨t,b,by unfold cJ;rw[aa_ (by omega)]⟩
  .refine⟨7+t,b,?_⟩;by_cases q:t=0
   .subst q;rfl
   .rw[d (7+t) (by omega)] at b;cases b
 .rintro⟨u,a,e⟩;unfold cJ at e;by_cases q:u=7
  .rw[abn q] at e;subst e;subst q;exact .inr a
  .rw[aa_ q] at e;subst e;refine .inl ⟨a,?_⟩;rcases Nat.lt_or_ge u 8 with l|l
   .omega
   .rw[d u l] at a;cases a
theorem Lh(h:a.1<256)(f:b.1<256)(j:∀u,a.1.testBit u=true->∃v,b.1.testBit v=true/\cJ u=cJ v)(i:∀u,b.1.testBit u=true->∃v,a.1.testBit v=true/\cJ u=cJ v):bO a=bO b:=by
 refine Nat.eq_of_testBit_eq λt=>?_;rw[abP,uS h,uS f];constructor
 .rintro⟨u,d,rfl⟩;obtain⟨v,c,e⟩:=j u d;exact⟨v,c,e.symm⟩
 .rintro⟨u,d,rfl⟩;obtain⟨v,c,e⟩:=i u d;exact⟨v,c,e.symm⟩
theorem FI(l:a.1<256)(j:b.1<256)(p:bQ a=false)(m:bQ b=false)(bad:(∃x∈a.2,∀y∈b.2,¬aQ W (aA x) (aA y))\/∃u,a.1.testBit u=true/\∀v,b.1.testBit v=true->cJ u≠cJ v):¬aQ W a b:=by
 rintro(e|e|⟨e1,_,q,_⟩)
 .rw[p] at e;cases e
 .rw[m] at e;cases e
 .rcases bad with⟨x,f,nl⟩|⟨u,i,c⟩
  .obtain⟨y,d,o⟩:=q x f;exact nl y d (oX.mpr o)
  .have:=(uS l).mpr ⟨u,i,Y⟩
   rw[e1] at this
   obtain⟨v,h,e⟩:=(uS j).mp this
   exact c v h e.symm
theorem qW:a8 (aA x)=false:=by
 unfold a8;rw[(by simp[bO,aA]:bO _=0)]
 rfl
noncomputable def sum2(f:Th->Th->Nat)(l m:List Th):Nat:=(l.map λx=>(m.map (f x)).sum).sum
def dY(a:Kind):Bool:=a.2.isEmpty&&!a8 a
def cz(f:Th->Th->Nat)(a b:Kind):Nat:=if a=b||dY a||dY b then 0 else if a8 a !=a8 b then 1 else if(a.1=0/\a.2.length=1)/\b.1=0/\b.2.length=1 then sum2 f a.2 b.2 else 1+sum2 f a.2 b.2+sum2 f b.2 a.2
theorem FK(h:a.1=0/\a.2.length=1):∃x,a=aA x:=by
 obtain⟨b,l⟩:=a;obtain⟨rfl,h⟩:=h;cases l with
 |nil=>cases h
 |cons x l=>cases l with
  |nil=>exact⟨x,Y⟩
  |cons=>cases h
theorem ite_le{p}[Decidable p]{a b N:Nat}(h:a<=N)(c:b<=N):ite p a b<=N:=by
 by_cases q:p
 .rw[abn q];exact h
 .rw[aa_ q];exact c
theorem ym(h:x≠y):cz f (aA x) (aA y)=f x y:=by
 unfold cz;rw[abf (λe=>h (List.cons.inj (Prod.mk.inj e).2).1:aA x≠aA y),qW,qW];rfl
theorem rS(h:a≠b)(n:¬((∃x,a=aA x)/\∃y,b=aA y))(d:dY a=false)(c:dY b=false)(m:a8 a=a8 b):cz f a b=1+sum2 f a.2 b.2+sum2 f b.2 a.2:=by
 unfold cz;rw[abf h,d,c,m,bne_self_eq_false];exact aa_ (λq=>n ⟨FK q.1,FK q.2⟩:¬(_/\b.1=0/\b.2.length=1))
theorem sO(h:a≠b)(d:dY a=false)(c:dY b=false)(m:a8 a≠a8 b):cz f a b=1:=by
 unfold cz;rw[abf h,d,c,bne_iff_ne.mpr m];rfl
theorem m_(v:dY a=true):¬eO W τ a i:=λd=>by
 unfold dY at v
 rw[abY] at v
 rcases z_ d with h|h
 .exact h (abD.mp v.1)
 .rw[h] at v;exact absurd v.2 ()
noncomputable def aI:Th->Bool
 |.lf _=>true
 |_=>false
noncomputable def bE:Lf->Nat
 |.aY _ x=>bE x+1
 |_=>1
def fk:Th->Nat
 |.lf x=>bE x
 |_=>0
def dH(f:Th->Th->Bool)(a b:Kind):Bool:=bQ a||bQ b||(decide (bO a=bO b)&&decide (a8 a=a8 b)&&a.2.all (λx=>b.2.any λy=>decide (x=y)||f x y)&&b.2.all λy=>a.2.any λx=>decide (x=y)||f x y)
theorem qE(h:dH f a b=true):bM (λx y=>f x y=true) a b:=by
 unfold dH at h;simp at h;rcases h with(h|h)|⟨⟨⟨j,i⟩,d⟩,c⟩
 .exact .inl h
 .exact .inr (.inl h)
 .exact .inr (.inr ⟨j,i,d,c⟩)
noncomputable def jS(W:World):Nat->Th->Th->Bool
 |0,_,_=>false
 |g+1,x,y=>((aZ x y).any λr=>r.all λp=>dH (jS W g) p.1 p.2)||(decide (aU W x=aU W y)&&(bq W x y).all λp=>dH (jS W g) p.1 p.2)
theorem zH:∀g x y,jS W g x y=true->br W x y
 |0,_,_,h=>by cases h
 |g+1,x,y,h=>by
  unfold jS at h
  rw[Bool.or_eq_true] at h
  rcases h with h|h
  .obtain⟨r,b,h⟩:=List.any_eq_true.mp h;exact br.intro ⟨r,abe _ b,λp a=>(qE (abd.mp h p a)).mono λx J y J=>zH g x y⟩
  .rw[abY,abr] at h;exact br.intro ⟨bq W x y,abi _ ((abn h.1)▸aaT.mpr Y),λp a=>(qE (abd.mp h.2 p a)).mono λx J y J=>zH g x y⟩
def pS(W:World)(x y:Th):Bool:=(aZ x y).any λr=>r.all λp=>dH (jS W 4) p.1 p.2
theorem YF(h:pS W x y=true):∃road∈aZ x y,∀p∈road,aQ W p.1 p.2:=by
 obtain⟨r,a,h⟩:=List.any_eq_true.mp h;exact⟨r,a,λp b=>(qE (abd.mp h p b)).mono λx J y J=>zH 4 x y⟩
noncomputable def tN(W:World)(o:Th->Th->Nat):Nat->Th->Th->Nat
 |0,_,_=>0
 |g+1,x,y=>if x=y then 0 else if aI x&&aI y then 1+cw (λp=>cz (tN W o g) p.1 p.2) x y+(if !pS W x y then b8 (λp=>cz (tN W o g) p.1 p.2) (bq W x y) else 0) else if aI x||aI y then 1 else o x y
def bT(W:World)(x:Th):Prop:=bG W x/\∀k as,x=.own k as->k<2
def RL(m:Nat)(s:RS):Prop:=(s.rd.filter λe=>decide (3<=e.1)).length<=m/\(s.rd.filter λe=>decide (3<=e.2.2.1)).length<=m
theorem O7(l:List (Nat×Nat)):∀st,(l.foldl (e8 did) st).2<=st.2+(l.filter λp=>decide (p.1=did)).length:=by
 induction l with
 |nil=>exactλJ=>aaX _
 |cons p l a=>
  refineλst=>aaS (a _) ?_;rw[List.filter_cons];unfold e8;by_cases c:p.1=did/\(p.2)>st.1
  .rw[abn c,aba c.1];exact aa7 (abT st.2 1 _)
  .rw[aa_ c];by_cases q:decide (p.1=did)=true
   .rw[abn q];exact ab7 _
   .rw[aa_ q];exact aaX _
theorem HM{b:Type}{p q}(h:∀a,p a=true->q a=true)(l:List b):(l.filter p).length<=(l.filter q).length:=by
 have:=pZ (f:=λJ=>1) h l
 rw[oC,oC] at this
 exact this
theorem F4{m s}(r:RL m s)(j:m<=2){d i}(f:d=0\/3<=d):cW (s.rd.map (cH 0)) d i=false/\cW (s.rd.map (cH 2)) d i=false:=by
 have gen:∀b,(s.rd.filter λe=>decide (3<=(cH b e).1)).length<=m->cW (s.rd.map (cH b)) d i=false:=λb h=>by
  unfold cW pT;rcases f with rfl|f
  .simp
  .have c:=O7 (did:=d) (s.rd.map (cH b)) (-1,0);rw[List.filter_map] at c;have:=HM (p:=(λp:Nat×Nat=>decide (p.1=d))∘cH b) (q:=λe=>decide (3<=(cH b e).1)) (λa l=>by
    omega) s.rd
   have:¬3<=((s.rd.map (cH b)).foldl (e8 d) (-1,0)).2:=by simp at c;omega
   rw[abf this]
   simp
 exact⟨gen 0 r.1,gen 2 r.2⟩
theorem pR:z∈(aS ks).2->∃k∈ks,z∈k.2:=
 nk (P:=λk=>z∈k.2->∃k∈ks,z∈k.2) nofun nofun λJ J h=>(jW.mp h).elim nofun id
theorem nI{a b}{P:Th->Prop}(f:∀z∈a.2,P z)(d:∀z∈b.2,P z):∀z∈(aS [a,b]).2,P z:=λz c=>(pR c).elim λk e=>(aa5.mp e.1).elim (λq=>f z (q▸e.2)) λq=>d z (aaT.mp q▸e.2)
theorem u5(h:z∈(bP m k).2):z∈k.2:=by
 unfold bP at h;split at h
 .obtain⟨k',mk,a⟩:=pR h;simp at mk;rcases mk with rfl|rfl
  .exact a
  .cases a
 .exact h
theorem fq{a:AK}{z}(h:z∈a.kind.2):∃y,a.2=some y/\z=.lf y:=by
 obtain⟨b,_|x⟩:=a
 .cases h
 .have:z=.lf x:=by simpa[AK.kind] using h
  exact⟨x,Y,this⟩
theorem um(c:how<=2)(h:z∈(cell W 2 how [a]).2):z∈a.kind.2:=by
 rcases(by omega:how=0\/how=1\/how=2) with rfl|rfl|rfl
 .exact h
 .cases h
 .obtain⟨k',mk,b⟩:=pR (show z∈(aS [a.kind,_]).2 from h);simp at mk;rcases mk with rfl|rfl
  .exact b
  .cases b
theorem LI{W:World}{a}(h:dZ a){z}(m:z∈a.kind.2):∃y,z=.lf y/\d8 y:=by
 obtain⟨y,e,rfl⟩:=fq m;obtain⟨b,_|x⟩:=a
 .cases e
 .cases e;exact⟨_,Y,h.2⟩
def Small(x:Lf)(z:Th):Prop:=∃y,z=.lf y/\bE y+1<=bE x/\d8 y
theorem Gg{W}(h:W.Ok){x}(f:d8 x):∀k∈bX W (.lf x),∀z∈k.2,Small x z:=by
 intro k mk z a;obtain⟨m,c,rfl⟩:=aa6.mp mk;have a:=u5 a;cases x with
 |par i=>exact f.elim
 |i3=>
  have:=aaT.mp c
  subst this;cases a
 |i4=>
  have:=aaT.mp c
  subst this;cases a
 |a9 b=>
  obtain⟨r,d,rfl⟩:=aa6.mp c;have:=aaT.mp d
  subst this
  obtain⟨y,e,_⟩:=fq (um h.lW a);cases e
 |aY b x=>
  obtain⟨r,d,rfl⟩:=aa6.mp c;have:=aaT.mp d
  subst this
  obtain⟨y,e,rfl⟩:=fq (um h.lW a);cases e
  exact⟨_,Y,aaX _,f.2⟩
theorem Gp(c:bG W x)(h:c8 x=some (k,as)):∀a∈as,dZ a:=by
 cases x with
 |own l bs=>
  have:=aa0 h
  cases this
  exact c.2
 |six=>cases h
 |lf x=>
  cases x with
  |par i=>cases h
  |i3=>cases h
  |i4=>cases h
  |a9 b=>
   have:=aa0 h
   cases this
   intro a m;rw[aaT] at m;subst m;exact c
  |aY b x=>
   have:=aa0 h
   cases this
   intro a m;rw[aaT] at m;subst m;exact c
theorem args_mem(m:road∈aZ x y):∃k as bs,c8 x=some (k,as)/\c8 y=some (k,bs)/\road=(as.map AK.kind).zip (bs.map AK.kind):=by
 rcases xF (x:=x) (y:=y) with e|⟨k,as,bs,b,a,e⟩
 .rw[e] at m;cases m
 .rw[e,aaT] at m;exact⟨k,as,bs,b,a,m⟩
theorem vl(j:bG W x)(i:bG W y)(m:road∈aZ x y)(l:p∈road):∃a b,p=(a.kind,b.kind)/\dZ a/\dZ b/\(∃k as bs,c8 x=some (k,as)/\c8 y=some (k,bs)/\a∈as/\b∈bs):=by
 obtain⟨k,as,bs,h,f,rfl⟩:=args_mem m;have d:=(List.of_mem_zip (l));obtain⟨a,ma,r⟩:=aa6.mp d.1;obtain⟨b,c,q⟩:=aa6.mp d.2;exact⟨a,b,Prod.ext r.symm q.symm,Gp j h a ma,Gp i f b c,k,as,bs,h,f,ma,c⟩
theorem Aj{x}(d:d8 x){k as}(h:c8 (.lf x)=some (k,as)){a}(m:a∈as){z}(c:z∈a.kind.2):Small x z:=by
 cases x with
 |par i=>cases h
 |i3=>cases h
 |i4=>cases h
 |a9 b=>
  have:=aa0 h
  cases this
  rw[aaT] at m;subst m;obtain⟨y,e,_⟩:=fq c;cases e
 |aY b x=>
  have:=aa0 h
  cases this
  rw[aaT] at m;subst m;obtain⟨y,e,rfl⟩:=fq c;cases e
  exact⟨_,Y,aaX _,d.2⟩
theorem yH(c:W.Ok)(a:bT W x):∀k∈bX W x,aJ W k:=by
 intro k mk;obtain⟨m,b,rfl⟩:=aa6.mp mk;exact NJ (BI c a.1 a.2 m b)
theorem uv(b:W.Ok)(d:bT W x)(c:bT W y)(m:p∈bq W x y):(p.1∈bX W x/\p.2∈bX W y)/\aJ W p.1/\aJ W p.2:=by
 have a:=List.of_mem_zip (m);exact⟨a,yH b d _ a.1,yH b c _ a.2⟩
theorem Rb(a:W.Ok)(b:bT W x)(h:aI x=false):∃f,(aU W x)[0]?=some f/\(f.1=110\/f.1=118\/f.1=119):=by
 have gen:∀{l:List Mem}{g:Mem->Mem×Kind},(∀m,(g m).1=m)->0<l.length->(∀m∈l,m.nm=110\/m.nm=118\/m.nm=119)->∃f,((l.map g).map λm=>c_ m.1)[0]?=some f/\(f.1=110\/f.1=118\/f.1=119):=λ{l g}j d c=>by
  cases l with
  |nil=>exact absurd d (Nat.lt_irrefl _)
  |cons m l=>exact⟨_,Y,show(g m).1.nm=110\/(g m).1.nm=118\/(g m).1.nm=119 from(j m).symm▸c m (.head _)⟩
 cases x with
 |lf x=>cases h
 |six=>exact gen (λJ=>Y) a.len0.1 a.kY
 |own k as=>
  have i:=b.2 k as Y;rcases k with _|_|k
  .exact gen (λJ=>Y) a.len0.1 a.kY
  .exact gen (λJ=>Y) a.fO.1 a.oY
  .exact absurd i (ab0.mpr (abj ..))
theorem Ng(a:W.Ok)(c:d8 x):∃f,(aU W (.lf x))[0]?=some f/\(f.1=112\/f.1=122):=by
 cases x with
 |par i=>exact c.elim
 |i3=>exact⟨c_ mP,Y,.inl Y⟩
 |i4=>exact⟨c_ mP,Y,.inl Y⟩
 |a9 b=>exact⟨c_ W.bx,Y,.inr a.bx⟩
 |aY b x=>exact⟨c_ W.bx,Y,.inr a.bx⟩
theorem AQ(h:aI x=false)(a:bT W x)(e:c8 x=some (k,as)):k<2:=by
 cases x with
 |lf x=>cases h
 |six=>cases e
 |own l bs=>
  have:=aa0 e
  cases this
  exact a.2 _ _ Y
theorem Bv(e:c8 (.lf x)=some (k,as)):k=2:=by
 cases x with
 |par i=>cases e
 |i3=>cases e
 |i4=>cases e
 |a9 b=>exact(Prod.mk.inj (aa0 e)).1.symm
 |aY b x=>exact(Prod.mk.inj (aa0 e)).1.symm
theorem PB(p:W.Ok)(c:bT W x)(d:bT W y)(h:aI x≠aI y):aZ x y=[]/\(aU W x)[0]?≠(aU W y)[0]?:=by
 have go:∀{x y},bT W x->bT W y->aI x=false->aI y=true->(aZ x y=[]/\aZ y x=[])/\_[0]?≠(aU W y)[0]?:=λ{x y}c d a b=>by
  cases y with
  |own=>cases b
  |six=>cases b
  |lf y=>
   obtain⟨f,e1,e2⟩:=Rb p c a;obtain⟨t,m,s⟩:=Ng p d.1;refine⟨⟨?_,?_⟩,λe=>?_⟩
   .cases q:aZ x _ with
    |nil=>rfl
    |cons r l=>
     obtain⟨k,as,bs,j,i,_⟩:=args_mem (road:=r) (by rw[q];simp)
     have:=AQ a c j
     have:=Bv i
     omega
   .cases q:aZ _ x with
    |nil=>rfl
    |cons r l=>
     obtain⟨k,as,bs,j,i,_⟩:=args_mem (road:=r) (by rw[q];simp)
     have:=AQ a c i
     have:=Bv j
     omega
   .rw[e1,m] at e;cases e
    omega
 cases a:aI x<;>cases b:aI y
 .rw[a,b] at h;exact absurd Y h
 .have:=go c d a b;exact⟨this.1.1,this.2⟩
 .have:=go d c b a;exact⟨this.1.2,λe=>this.2 e.symm⟩
 .rw[a,b] at h;exact absurd Y h
noncomputable def NT(g:Nat):Nat:=31*g+10
theorem RL.mono(h:RL m s)(e:s'.rd=s.rd)(l:m<=m'):RL m' s':=by
 unfold RL at h⊢;exact e▸⟨aaS h.1 l,aaS h.2 l⟩
theorem RL.push(h:RL m s)(e:s'.rd=s.rd++[x]):RL (m+1) s':=by
 unfold RL at h⊢;rw[e,List.filter_append,List.filter_append,aa4,aa4];have b:=abS (λe:Nat×Nat×Nat×Nat=>decide (3<=e.1)) [x];have a:=abS (λe:Nat×Nat×Nat×Nat=>decide (3<=e.2.2.1)) [x];rw[List.length_singleton] at b a;omega
theorem DR(h:aI x=true):aW x=0\/3<=aW x:=by
 cases x with
 |own=>cases h
 |six=>cases h
 |lf x=>cases x<;>simp[aW]
theorem DL(x):1<=bE x:=by
 cases x<;>simp[bE]
theorem fW(h:bG W x):aJ W (aA x):=jb h
theorem xm:∀(l:List _)(st)(A:List Nat),A.Nodup->A.length=st.2->(∀a∈A,(a:Int)<=st.1)->∃B:List Nat,B.Nodup/\B.length=(l.foldl (e8 did) st).2/\∀a∈B,(a)<=(l.foldl (e8 did) st).1/\(a∈A\/∃p∈l,p.1=did/\p.2=a)
 |[],st,A,i,f,b=>⟨A,i,f,λa m=>⟨b a m,.inl m⟩⟩
 |p::l,st,A,i,f,b=>by
  rw[List.foldl_cons]
  by_cases c:p.1=did/\(p.2)>st.1
  .have e:e8 did st p=((p.2:Int),st.2+1):=by unfold e8;rw[abn c]
   have t:p.2∉A:=λm=>by have:=b p.2 m;omega
   obtain⟨B,s,r,d⟩:=xm l (e8 did st p) _ (abv.mpr ⟨t,i⟩) (by rw[e,abt,f]) λa m=>by
    rw[e];rcases aa5.mp m with rfl|m
    .exact Int.le_refl _
    .have:=b a m
     omega
   refine⟨B,s,r,λa m=>⟨(d a m).1,?_⟩⟩;rcases(d a m).2 with m'|⟨q,j,e1,e2⟩
   .rcases aa5.mp m' with rfl|m'
    .exact .inr ⟨p,abK,c.1,Y⟩
    .exact .inl m'
   .exact .inr ⟨q,abF _ j,e1,e2⟩
  .have e:e8 did st p=st:=by unfold e8;rw[aa_ c]
   rw[e];obtain⟨B,s,r,d⟩:=xm l st A i f b;refine⟨B,s,r,λa m=>⟨(d a m).1,(d a m).2.imp id λ⟨q,j,h⟩=>⟨q,abF _ j,h⟩⟩⟩
theorem NV(h:cW l did i=true):0<did/\∃B:List Nat,B.Nodup/\3<=B.length/\∀a∈B,a<i/\∃p∈l,p.1=did/\p.2=a:=by
 unfold cW at h;rw[abY,abY,abr,abr,abr] at h;obtain⟨f,d,c⟩:=h;obtain⟨B,q,j,b⟩:=xm (did:=did) l (-1,0) [] ab6 Y λa m=>nomatch m;refine⟨f,B,q,j▸d,λa m=>⟨?_,?_⟩⟩
 .have:=(b a m).1
  unfold pT at c;omega
 .rcases(b a m).2 with m'|m'
  .cases m'
  .exact m'
def fh(W:World)(V:List Th)(s:RS):Prop:=∀e∈s.rd,∃x∈V,∃y∈V,IsT W s.τ x e.2.1/\IsT W s.τ y e.2.2.2/\e.1=aW x/\e.2.2.1=aW y
theorem fh.mono{W V s s'}(h:fh W V s)(e:s'.rd=s.rd)(p:s.τ<+:s'.τ):fh W V s':=λk m=>by
 rw[e] at m
 obtain⟨x,b,y,a,i,f,d,c⟩:=h k m
 exact⟨x,b,y,a,i.mono p,f.mono p,d,c⟩
theorem ZX{W τ}(q:τ.Nodup){P:Th->Prop}{A:List Nat}(c:A.Nodup)(h:∀a∈A,∃z,P z/\IsT W τ z a):∃B:List Th,B.Nodup/\B.length=A.length/\∀z∈B,P z/\∃a∈A,IsT W τ z a:=by
 induction A with
 |nil=>exact⟨[],ab6,Y,λz m=>nomatch m⟩
 |cons a A l=>
  rw[abv] at c;obtain⟨B,s,r,f⟩:=l c.2 λa m=>h a (abF _ m);obtain⟨z,j,hz⟩:=h a abK;refine⟨z::B,abv.mpr ⟨λm=>?_,s⟩,by rw[abt,abt,r],λw m=>?_⟩
  .obtain⟨_,i,b,d⟩:=f z m;rw[fH q hz d] at c;exact c.1 b
  .rcases aa5.mp m with rfl|m
   .exact⟨j,a,abK,hz⟩
   .obtain⟨p,i,b,d⟩:=f w m;exact⟨p,i,abF _ b,d⟩
theorem Jy{W V s}(d:s.τ.Nodup)(r:fh W V s){j x i}(L:IsT W s.τ x i)(mx:x∈V)(h:cW (s.rd.map (cH j)) (aW x) i=true):0<aW x/\∃B,(x::B).Nodup/\3<=B.length/\∀z∈B,(z∈V/\aW z=aW x)/\∃a,a<i/\IsT W s.τ z a:=by
 obtain⟨M,A,U,a2,c⟩:=NV h;refine⟨M,?_⟩;obtain⟨B,T,b2,f⟩:=ZX (P:=λz=>z∈V/\aW z=aW x) d U λa ma=>by
  obtain⟨_,p,u,e1,e2⟩:=c a ma;obtain⟨e,y,rfl⟩:=aa6.mp u;obtain⟨z,l,w,t,H,D,Q,N⟩:=r e y;unfold cH at e1 e2;split at e1
  .rename_i q;rw[abn q] at e2;exact⟨z,⟨l,Q.symm.trans e1⟩,e2▸H⟩
  .rename_i q;rw[aa_ q] at e2;exact⟨w,⟨t,N.symm.trans e1⟩,e2▸D⟩
 refine⟨B,abv.mpr ⟨λm=>?_,T⟩,by omega,λz m=>?_⟩
 .obtain⟨_,a,ma,b⟩:=f x m;have:=fH d L b
  have:=(c a ma).1
  omega
 .obtain⟨p,a,ma,b⟩:=f z m;exact⟨p,a,(c a ma).1,b⟩
theorem LW{W V}(h7:V.length<=7)(h4:∀d,0<d->∀B:List Th,B.Nodup->(∀z∈B,z∈V/\aW z=d)->B.length<=4){s}(A:s.τ.Nodup)(r:fh W V s){x y i j}(t:IsT W s.τ x i)(p:IsT W s.τ y j)(h:x∈V)(f:y∈V)(ne:x≠y):
  ¬(cW (s.rd.map (cH 0)) (aW x) i=true/\cW (s.rd.map (cH 2)) (aW y) j=true):=by
 rintro⟨h1,h2⟩
 obtain⟨w,B,u,M,l⟩:=Jy A r t h h1
 obtain⟨N,C,L,c2,D⟩:=Jy A r p f h2
 by_cases e:aW x=aW y
 .have key:∀{x y i j B},IsT W s.τ x i->IsT W s.τ y j->x∈V->y∈V->x≠y->0<aW x->aW x=aW y->(x::B).Nodup->3<=B.length->(∀z∈B,(z∈V/\aW z=aW x)/\∃a,a<i/\IsT W s.τ z a)->j<i:=λ{x y i j B}t p h f ne w e u M l=>by
   by_cases m:y∈B
   .obtain⟨_,a,T,U⟩:=l y m;exact(fH A p U)▸T
   .have:=h4 _ w _ (abv.mpr ⟨λq=>(aa5.mp q).elim (λq=>ne q.symm) m,u⟩) λz c=>by
     rcases aa5.mp c with rfl|c
     .exact⟨f,e.symm⟩
     rcases aa5.mp c with rfl|c
     .exact⟨h,Y⟩
     .exact(l z c).1
    rw[abt,abt] at this
    omega
  have l1:=key t p h f ne w e u M l;have l2:=key p t f h (Ne.symm ne) N e.symm L c2 D;omega
 .have:=lR (by
   rw[abR];refine⟨u,L,λa ma b Q H=>?_⟩;subst H;apply e;have d1:aW a=aW x:=by
    rcases aa5.mp ma with rfl|m
    .rfl
    .exact(l a m).1.2
   have d2:aW a=aW y:=by
    rcases aa5.mp Q with rfl|m
    .rfl
    .exact(D a m).1.2
   exact d1.symm.trans d2) λz c=>by
    rcases abq.mp c with m|m
    .rcases aa5.mp m with rfl|m
     .exact h
     .exact(l z m).1.1
    .rcases aa5.mp m with rfl|m
     .exact f
     .exact(D z m).1.1
  rw[aa4,abt,abt] at this
  omega
noncomputable def fV(W:World):Th->List AK
 |.own _ as=>as
 |.six=>W.six
 |.lf _=>[]
def bk(W:World):Th->List Th
 |.own k as=>[.own (W.own k) as,.own (W.own k) as.reverse]
 |.six=>[.own (W.own 0) W.six,.own (W.own 0) W.six.reverse]
 |.lf _=>[]
structure cQ(W x):Prop where
 ok:bT W x
 own:aI x=false
 dep:∀a∈fV W x,∀y,a.2=some y->bE y<=2
theorem kO{W:World}(a:W.Ok){k}(h:k<2):W.own k<2:=by
 unfold World.own;split
 .exact a.dz
 .decide
theorem Bu{W:World}(a:W.Ok){k}:W.own (W.own k)=W.own k:=by
 have:=a.dz
 unfold World.own;by_cases h:k=1
 .rw[abn h];by_cases q:W.dz=1
  .rw[abn q]
  .rw[aa_ q];omega
 .rw[aa_ h];rfl
theorem IM(c:W.Ok)(o:bT W (.own k as))(d:∀a∈as,∀y,a.2=some y->bE y<=2):∀z∈[Th.own (W.own k) as,.own (W.own k) as.reverse],cQ W z:=by
 have b:=o.2 k as Y;have l1:as.length=(aX W (W.own k)).length:=by rw[o.1.1,uw _ b,uw _ (kO c b)]
 intro z f;simp at f;rcases f with rfl|rfl
 .exact⟨⟨⟨l1,o.1.2⟩,λl bs e=>by cases e;exact kO c b⟩,Y,d⟩
 .exact⟨⟨⟨by rw[List.length_reverse];exact l1,λa m=>o.1.2 a (List.mem_reverse.mp m)⟩,λl bs e=>by cases e;exact kO c b⟩,Y,λa m=>d a (List.mem_reverse.mp m)⟩
theorem Wj(a:W.Ok):bT W (.own 0 W.six):=⟨⟨by rw[a.six.1];rcases a.n with e|e<;>simp[aX,e],a.six.2⟩,λl bs e=>by cases e;decide⟩
theorem jD(a:W.Ok)(o:cQ W x):∀z∈bk W x,cQ W z:=by
 cases x with
 |lf x=>cases(o.own)
 |own k as=>exact IM a o.ok o.dep
 |six=>exact IM a (Wj a) o.dep
theorem Fs{W}(c:W.Ok){x}:∀z∈bk W x,∀w∈bk W z,w∈bk W x:=by
 have gen:∀k as,∀z∈[Th.own (W.own k) as,.own (W.own k) as.reverse],∀w∈bk W z,w∈[Th.own _ as,.own _ as.reverse]:=λk as z a w b=>by
  simp at a;rcases a with rfl|rfl
  .simp only[bk,Bu c] at b;exact b
  .simp[bk,Bu c] at b⊢;exact b.symm
 cases x with
 |lf x=>intro z a;cases a
 |own k as=>exact gen k as
 |six=>exact gen 0 W.six
noncomputable def ku(l m:List Th):List (Th×Th):=l.flatMap λa=>m.map λb=>(a,b)
theorem sN:p∈ku l m↔p.1∈l/\p.2∈m:=by
 unfold ku;rw[List.mem_flatMap];constructor
 .rintro⟨a,ma,c⟩;obtain⟨b,d,rfl⟩:=aa6.mp c;exact⟨ma,d⟩
 .rintro⟨h,f⟩;exact⟨p.1,h,aa6.mpr ⟨p.2,f,Y⟩⟩
theorem jL:(bk W x).length<=2:=by cases x<;>simp[bk]
theorem pairs_len(l m):(ku l m).length=l.length*m.length:=by
 unfold ku;induction l with
 |nil=>simp
 |cons a l b=>rw[List.flatMap_cons,aa4,aa1,b,abt,Nat.succ_mul];omega
def dR(k:Kind):Prop:=∀z∈k.2,∃y,z=.lf y/\bE y<=3/\d8 y
theorem jB{a}(w:dZ a)(d:∀y,a.2=some y->bE y<=2):dR a.kind:=by
 intro z b;obtain⟨y,e,rfl⟩:=fq b;obtain⟨h,f,c⟩:=LI (W:=w0) w b;cases f
 exact⟨y,Y,by have:=d y e;omega,c⟩
theorem Hx(w:dZ a)(d:∀y,a.2=some y->bE y<=2):∃y,Th.lf (Lf.box a)=.lf y/\bE y<=3/\d8 y:=by
 obtain⟨b,_|x⟩:=a
 .exact⟨_,Y,by simp[Lf.box,bE],w⟩
 .refine⟨_,Y,?_,w⟩;have:=d x Y
  simp[Lf.box,bE];omega
theorem aaj(h:∀k∈ks,dR k):dR (aS ks):=λz a=>by
 obtain⟨k,mk,m⟩:=pR a
 exact h k mk z m
theorem uz{as:List AK}{a}(h:a=as.headD (0,none)):a∈as\/a=(0,none):=by
 subst h;cases as with
 |nil=>exact .inr Y
 |cons b as=>exact .inl abK
theorem u_{as:List AK}{a}(h:a=as.getLastD (0,none)):a∈as\/a=(0,none):=by
 subst h;rcases List.eq_nil_or_concat as with e|⟨l,a,e⟩
 .subst e;exact .inr Y
 .subst e;exact .inl (by simp)
theorem OI{W}{k how as}(w:∀a∈as,dZ a)(d:∀a∈as,∀y,a.2=some y->bE y<=2):dR (cell W k how as)\/∃z∈[Th.own (W.own k) as,.own (W.own k) as.reverse],(cell W k how as).2=[z]:=by
 have b:=pJ w;have f:=Ah w;have c:=λy e=>(uz Y).elim (λm=>d _ m y e) λm=>by rw[m] at e;cases e
 have dl:=λy e=>(u_ Y).elim (λm=>d _ m y e) λm=>by rw[m] at e;cases e
 have one {x} (h):dR (0,[x]):=λz m=>aaT.mp m▸h;exact i8 (P:=λJ K=>dR K\/∃z∈[Th.own _ as,.own _ as.reverse],K.2=[z]) (.inl (jB b c)) (.inl (jB f dl)) (.inl (nI (jB b c) nofun)) (.inr ⟨_,.head _,Y⟩) (.inr ⟨_,.tail _ (.head _),Y⟩) (.inl (nI (one (Hx f dl)) (jB b c))) (.inl (one ⟨.i3,Y,(),trivial⟩)) (.inl (one (Hx b c))) (.inl (one ⟨_,Y,(),j5⟩)) (λJ J J J=>.inl nofun) how
theorem xR(h:k.2=[z])(b:k.1.testBit 5=false)(a:k.1.testBit 6=false):(bP m k).2=[z]:=by
 unfold bP;split
 .unfold aS;rw[(by simp[b7]:b7 0 [k,_]=k.1|||16),Nat.testBit_or,b,Nat.testBit_or,a]
  simp[(by simp[gc,h]:gc [] [k,(16,[])]=[z]),(():Nat.testBit 16 5=false),(():Nat.testBit 16 6=false)]
 .exact h
theorem kP(j:W.Ok)(o:cQ W x):∀k∈bX W x,dR k\/∃z∈bk W x,k.2=[z]:=by
 have gen:∀k as,_->_->∀(l:List Mem)(q),q∈((l.map λm=>(m,cell W k m.how as)).map λm=>bP m.1 m.2)->(∀m∈l,aJ W (cell W k m.how as))->dR q\/∃z∈[Th.own _ as,.own _ as.reverse],q.2=[z]:=λk as w d l q b wc=>by
  obtain⟨m,a,rfl⟩:=aa6.mp b;obtain⟨r,i,rfl⟩:=aa6.mp a;rcases OI w d with h|⟨z,c,e⟩
  .exact .inl λz c=>h z (u5 c)
  .refine .inr ⟨z,c,xR e ?_ ?_⟩
   .cases q:(cell W k r.how as).1.testBit 5
    .rfl
    .have:=(wc r i).any q
     rw[this] at e
     cases e
   .cases q:(cell W k r.how as).1.testBit 6
    .rfl
    .have:=(wc r i).err q
     rw[this] at e
     cases e
 have f:=BI j o.ok.1 o.ok.2;intro q b;cases x with
 |lf x=>cases(o.own)
 |own k as=>exact gen k as o.ok.1.2 o.dep _ q b λm a=>f _ (aa6.mpr ⟨m,a,Y⟩)
 |six=>exact gen 0 W.six j.six.2 o.dep W.r0 q b λm a=>f _ (aa6.mpr ⟨m,a,Y⟩)
theorem SP(h:p∈bq W x y):p.swap∈bq W y x:=by
 unfold bq at h⊢;rw[←vE];exact aa6.mpr ⟨p,h,Y⟩
def yt(p:Kind×Kind):Option (Th×Th):=match p.1.2,p.2.2 with
 |[z],[w]=>if !aI z&&!aI w then some (z,w) else none
 |_,_=>none
theorem En:yt p=some (z,w)↔p.1.2=[z]/\p.2.2=[w]/\aI z=false/\aI w=false:=by
 obtain⟨⟨b,l⟩,⟨c,m⟩⟩:=p;rcases l with _|⟨a,_|⟨q,l⟩⟩
 .exact⟨nofun,λh=>nomatch h.1⟩
 .rcases m with _|⟨d,_|⟨j,m⟩⟩
  .exact⟨nofun,λh=>nomatch h.2.1⟩
  .show(if !aI a&&!aI d then some (a,d) else none)=some (z,w)↔[a]=[z]/\[d]=[w]/\aI z=false/\aI w=false;refine⟨λe=>?_,λh=>?_⟩
   .cases f:aI a with
    |true=>rw[f] at e;cases e
    |false=>cases i:aI d with
     |true=>rw[f,i] at e;cases e
     |false=>rw[f,i] at e;cases e;exact⟨Y,Y,f,i⟩
   .rw[(List.cons.inj h.1).1,(List.cons.inj h.2.1).1,h.2.2.1,h.2.2.2];rfl
  .exact⟨nofun,λh=>nomatch (List.cons.inj h.2.1).2⟩
 .exact⟨λe=>(by cases m<;>cases e),λh=>nomatch (List.cons.inj h.1).2⟩
def b5(W:World)(x y:Th):List (Th×Th):=(bq W x y).filterMap yt
theorem j_:(z,w)∈b5 W x y↔∃p∈bq W x y,p.1.2=[z]/\p.2.2=[w]/\aI z=false/\aI w=false:=by
 unfold b5;rw[List.mem_filterMap];constructor
 .rintro⟨p,m,e⟩;exact⟨p,m,En.mp e⟩
 .rintro⟨p,m,e⟩;exact⟨p,m,En.mpr e⟩
def ik(W:World)(x y:Th):Bool:=!(b5 W ((bk W x).headD .six) ((bk W y).headD .six)).isEmpty
theorem uD(m:z∈([.lf x]:List Th)):aI z=true:=aaT.mp m▸Y
theorem sS{a:AK}{z}(m:z∈a.kind.2):aI z=true:=(fq m).elim λJ e=>e.2▸Y
theorem UM{W k how as}(b:how≠4)(a:how≠6):∀z∈(cell W k how as).2,aI z=true:=
 i8 (P:=λn K=>n≠4->n≠6->∀z∈K.2,aI z=true) (λJ J J m=>sS m) (λJ J J=>sS) (λJ J=>nI (λJ m=>sS m) nofun) (absurd Y) (λJ=>absurd Y) (λJ J=>nI (λJ=>uD) λJ m=>sS m) (λJ J J=>uD) (λJ J J=>uD) (λJ J J m=>uD m) (λJ J J J J J=>nofun) how b a
theorem AZ(h:m.how=4\/m.how=6):∃z,(bP m (cell W k m.how as)).2=[z]/\aI z=false:=by
 rcases h with h|h<;>rw[h]
 .exact⟨.own _ as,xR Y (():(0:Nat).testBit 5=false) (():(0:Nat).testBit 6=false),Y⟩
 .exact⟨.own _ as.reverse,xR Y (():(0:Nat).testBit 5=false) (():(0:Nat).testBit 6=false),Y⟩
theorem BR(h:(bP m (cell W k m.how as)).2=[z])(n:aI z=false):m.how=4\/m.how=6:=by
 by_cases b:m.how=4
 .exact .inl b
 by_cases a:m.how=6
 .exact .inr a
 have:=UM b a z (u5 (by rw[h];simp))
 rw[n] at this;cases this
theorem wM{W k as}{i:Nat}:(bX W (.own k as))[i]?=((cP W k)[i]?).map λm=>bP m (cell W k m.how as):=by
 show(((cP W k).map λm=>(m,cell W k m.how as)).map λm=>bP m.1 m.2)[i]?=_;rw[List.map_map,abm];rfl
theorem I7{W k l as a bs d z w}(h:(z,w)∈b5 W (.own k as) (.own l bs)):∃p,p∈b5 W (.own k a) (.own l d):=by
 obtain⟨p,s,e1,e2,r,q⟩:=j_.mp h;obtain⟨i,x⟩:=List.getElem?_of_mem s;obtain⟨j,f⟩:=List.getElem?_zip_eq_some.mp x;rw[wM] at j f;obtain⟨m,u,c⟩:=Option.map_eq_some_iff.mp j;obtain⟨m',t,b⟩:=Option.map_eq_some_iff.mp f;obtain⟨H,D,B⟩:=AZ (W:=W) (k:=k) (as:=a) (BR (c▸e1) r);obtain⟨L,A,y⟩:=AZ (BR (b▸e2) q);refine⟨_,j_.mpr ⟨(_,_),?_,D,A,B,y⟩⟩;refine abk (i:=i) (List.getElem?_zip_eq_some.mpr ⟨?_,?_⟩)
 .rw[wM,u];rfl
 .rw[wM,t];rfl
theorem rX(h:a∈bk W x):∃k as bs,(bk W x).headD .six=.own k bs/\a=.own k as:=by
 cases x with
 |lf=>cases h
 |own k as=>
  simp only[bk,aa5,abo,or_false] at h;rcases h with rfl|rfl
  .exact⟨_,_,as,Y,Y⟩
  .exact⟨_,_,as,Y,Y⟩
 |six=>
  simp only[bk,aa5,abo,or_false] at h;rcases h with rfl|rfl
  .exact⟨_,_,W.six,Y,Y⟩
  .exact⟨_,_,W.six,Y,Y⟩
theorem rz(b:W.Ok)(i:cQ W x)(f:cQ W y)(h:(z,w)∈b5 W x y):z∈bk W x/\w∈bk W y:=by
 obtain⟨p,q,e1,e2,l,j⟩:=j_.mp h;have a:=List.of_mem_zip (q);constructor
 .rcases kP b i _ a.1 with h|⟨c,m,e⟩
  .obtain⟨d,rfl,_⟩:=h z (by rw[e1];simp)
   cases l
  .rw[e1] at e;cases e
 .rcases kP b f _ a.2 with h|⟨c,m,e⟩
  .obtain⟨d,rfl,_⟩:=h w (by rw[e2];simp)
   cases j
  .rw[e2] at e;cases e
theorem Jt(f:a∈bk W x)(d:b∈bk W y)(h:(z,w)∈b5 W a b):ik W x y=true:=by
 obtain⟨k,as,j,e1,rfl⟩:=rX f;obtain⟨l,bs,i,e2,rfl⟩:=rX d;obtain⟨p,c⟩:=I7 h;unfold ik;rw[e1,e2];cases q:b5 W _ _ with
 |nil=>rw[q] at c;cases c
 |cons=>rfl
def eV(W:World)(x y:Th):List (Th×Th):=(x,y)::(y,x)::(if ik W x y then ku (bk W x) (bk W y)++ku (bk W y) (bk W x) else b5 W x y++(b5 W x y).map Prod.swap)
def eP(W:World)(x y:Th):List Th:=x::y::(bk W x++bk W y)
theorem yk:(a,b)∈eV W x y↔(a=x/\b=y)\/(a=y/\b=x)\/(ik W x y=true/\((a∈bk W x/\b∈bk W y)\/(a∈bk W y/\b∈bk W x)))\/(ik W x y=false/\((a,b)∈b5 W x y\/(b,a)∈b5 W x y)):=by
 have f:(a,b)∈(b5 W x y).map Prod.swap↔(b,a)∈b5 W x y:=by
  rw[aa6];constructor
  .rintro⟨⟨c,d⟩,m,e⟩;cases e;exact m
  .exactλm=>⟨(b,a),m,Y⟩
 unfold eV;cases q:ik W x y<;>simp[sN,f]
theorem Dn(h:(a,b)∈eV W x y):(b,a)∈eV W x y:=by
 rw[yk] at h⊢;rcases h with⟨d,c⟩|⟨d,c⟩|⟨e,h|h⟩|⟨e,h|h⟩
 .exact .inr (.inl ⟨c,d⟩)
 .exact .inl ⟨c,d⟩
 .exact .inr (.inr (.inl ⟨e,.inr ⟨h.2,h.1⟩⟩))
 .exact .inr (.inr (.inl ⟨e,.inl ⟨h.2,h.1⟩⟩))
 .exact .inr (.inr (.inr ⟨e,.inr h⟩))
 .exact .inr (.inr (.inr ⟨e,.inl h⟩))
theorem w_(h:(z,w)∈b5 W x y):(w,z)∈b5 W y x:=by
 obtain⟨p,c,e1,e2,b,a⟩:=j_.mp h;exact j_.mpr ⟨p.swap,SP c,e2,e1,a,b⟩
theorem EO(f:W.Ok)(p:cQ W x)(m:cQ W y)(h:(a,b)∈eV W x y)(l:c∈bk W a)(j:d∈bk W b)(i:(c,d)∈b5 W a b):(c,d)∈eV W x y:=by
 have s:=Fs f (x:=x);have r:=Fs f (x:=y);rw[yk] at h⊢;cases q:ik W x y
 .rcases h with⟨rfl,rfl⟩|⟨rfl,rfl⟩|⟨e,h|h⟩|⟨e,h|h⟩
  .exact .inr (.inr (.inr ⟨Y,.inl i⟩))
  .exact .inr (.inr (.inr ⟨Y,.inr (w_ i)⟩))
  .rw[q] at e;cases e
  .rw[q] at e;cases e
  .have:=rz f p m h
   rw[Jt this.1 this.2 i] at q;cases q
  .have:=rz f p m h
   rw[Jt this.1 this.2 (w_ i)] at q;cases q
 .rcases h with⟨rfl,rfl⟩|⟨rfl,rfl⟩|⟨e,h|h⟩|⟨e,h|h⟩
  .exact .inr (.inr (.inl ⟨Y,.inl ⟨l,j⟩⟩))
  .exact .inr (.inr (.inl ⟨Y,.inr ⟨l,j⟩⟩))
  .exact .inr (.inr (.inl ⟨Y,.inl ⟨s a h.1 c l,r b h.2 d j⟩⟩))
  .exact .inr (.inr (.inl ⟨Y,.inr ⟨r a h.1 c l,s b h.2 d j⟩⟩))
  .rw[q] at e;cases e
  .rw[q] at e;cases e
theorem IC(c:W.Ok)(b:cQ W x)(a:cQ W y)(h:p∈eV W x y):p.1∈eP W x y/\p.2∈eP W x y:=by
 rw[yk] at h;unfold eP;simp;rcases h with⟨rfl,rfl⟩|⟨rfl,rfl⟩|⟨e,h|h⟩|⟨e,h|h⟩
 .exact⟨.inl Y,.inr (.inl Y)⟩
 .exact⟨.inr (.inl Y),.inl Y⟩
 .exact⟨.inr (.inr (.inl h.1)),.inr (.inr (.inr h.2))⟩
 .exact⟨.inr (.inr (.inr h.1)),.inr (.inr (.inl h.2))⟩
 .have:=rz c b a h
  exact⟨.inr (.inr (.inl this.1)),.inr (.inr (.inr this.2))⟩
 .have:=rz c b a h
  exact⟨.inr (.inr (.inr this.2)),.inr (.inr (.inl this.1))⟩
theorem Cu(d:W.Ok)(c:cQ W x)(b:cQ W y):∀z∈eP W x y,cQ W z:=by
 intro z a;unfold eP at a;simp at a;rcases a with rfl|rfl|m|m
 .exact c
 .exact b
 .exact jD d c z m
 .exact jD d b z m
theorem xP(a:W.Ok):(b5 W x y).length<=3:=by
 have c:=List.length_filterMap_le yt (bq W x y);have b:(bq W x y).length<=3:=by
  unfold bq bX;rw[List.length_zip,aa1];have:=(lH a x).1
  omega
 unfold b5;omega
theorem J0(a:W.Ok):(eV W x y).length<=10:=by
 have b:=xP a (x:=x) (y:=y);unfold eV;rw[abt,abt];split
 .rw[aa4,pairs_len,pairs_len];have:=Nat.mul_le_mul (jL (W:=W) (x:=y)) (jL (W:=W) (x:=x))
  omega
 .rw[aa4,aa1];omega
theorem JY:(eP W x y).length<=7:=by
 have b:=jL (W:=W) (x:=x);have a:=jL (W:=W) (x:=y);unfold eP;rw[abt,abt,aa4];omega
theorem WY(c:aI x=false)(i:aI y=false):∀d,0<d->∀B:List Th,B.Nodup->(∀z∈B,z∈eP W x y/\aW z=d)->B.length<=4:=by
 refineλd l B j h=>lR (M:=[.own (d-1) (fV W x),.own (d-1) (fV W x).reverse,.own (d-1) (fV W y),.own (d-1) (fV W y).reverse]) j λz f=>?_;obtain⟨b,e⟩:=h z f;have a:∀{x},z∈bk W x->z=.own (d-1) (fV W x)\/z=.own (d-1) (fV W x).reverse:=λ{x}m=>by
  cases x with
  |lf=>cases m
  |own k as=>
   simp[bk] at m;rcases m with rfl|rfl<;>(simp[aW] at e;subst e;simp[fV])
  |six=>
   simp[bk] at m;rcases m with rfl|rfl<;>(simp only[aW] at e;subst e;simp[fV])
 have self:∀{x},aI x=false->aW x=d->x=.own (d-1) (fV W x):=λ{x}c e=>by
  cases x with
  |lf=>cases c
  |six=>simp[aW] at e;omega
  |own k as=>simp[aW] at e;subst e;simp[fV]
 unfold eP at b;simp at b⊢;rcases b with rfl|rfl|m|m
 .exact .inl (self c e)
 .exact .inr (.inr (.inl (self i e)))
 .rcases a m with e|e
  .exact .inl e
  .exact .inr (.inl e)
 .rcases a m with e|e
  .exact .inr (.inr (.inl e))
  .exact .inr (.inr (.inr e))
def tc(W:World):Th->Th->Nat:=tN W (λJ J=>0) 3
def kc(W:World)(p:Kind×Kind):Nat:=cz (tc W) p.1 p.2
def j9(W:World)(x y:Th):Rg:=⟨eV W x y,λp=>1+cw (kc W) p.1 p.2+b8 (kc W) (bq W p.1 p.2)⟩
def Dk(W:World)(x y:Th)(m:Nat)(s:RS):Prop:=((j9 W x y).left W s).length<=m/\fh W (eP W x y) s
theorem wA(a:s.τ.Nodup)(c:IsT W s.τ x i)(b:IsT W s.τ y j)(kt:(i,j)∉s.tr):¬fN W s (x,y):=by
 rintro⟨l,h,f,d,m⟩;rw[fH a f c,fH a d b] at m;exact kt m
theorem B6(o:cQ W x):aW x<3:=by
 cases x with
 |lf x=>cases(o.own)
 |own k as=>have:=o.ok.2 k as Y;simp only[aW];omega
 |six=>simp[aW]
theorem fh.leaf(j:W.Ok)(i:cQ W x)(f:cQ W y)(h:fh W (eP W x y) s)(e:s'.rd=s.rd):RL 0 s':=by
 have b:=Cu j i f;unfold RL;rw[e];constructor
 .rw[Nat.le_zero,List.length_eq_zero_iff,List.filter_eq_nil_iff];intro a ma;obtain⟨z,c,w,d,_,_,m,_⟩:=h a ma;have:=B6 (b z c)
  rw[abr,m];omega
 .rw[Nat.le_zero,List.length_eq_zero_iff,List.filter_eq_nil_iff];intro a ma;obtain⟨z,c,w,d,_,_,_,l⟩:=h a ma;have:=B6 (b w d)
  rw[abr,l];omega
theorem Ai(h:s.τ.Nodup)(d:IsT W s.τ p.1 i)(c:IsT W s.τ p.2 j)(kt:(i,j)∉s.tr)(m:p∈eV W b a):(j9 W b a).rem W (s.into (i,j))+(1+cw (kc W) p.1 p.2+b8 (kc W) (bq W p.1 p.2))<=(j9 W b a).rem W s:=
 Rg.Vs (s:=s) (s':=s.into (i,j)) (abp _) (λx f=>by simp[RS.into,f]) m (wA h d c kt) ⟨i,j,d,c,by simp[RS.into]⟩
theorem dR.ok(h:dR k):(∀z∈k.2,bT W z/\fk z<=3)/\∀z∈k.2,aI z=true:=by
 refine⟨λz a=>?_,λz a=>?_⟩
 .obtain⟨y,rfl,d,w⟩:=h z a;exact⟨⟨w,λk as e=>nomatch e⟩,d⟩
 .obtain⟨y,rfl,d,w⟩:=h z a;rfl
theorem oE(o:aI x=false)(h:c8 x=some (k,as)):as=fV W x:=by
 cases x with
 |lf x=>cases o
 |six=>cases h
 |own l bs=>
  have:=aa0 h
  cases this
  rfl
theorem Qu(h:k∉r):gO (cR (k::r)) (bS k)=cR r:=by
 unfold gO cR;rw[abM,List.filter_cons];rw[aa_ (by simp)]
 rw[List.filter_eq_self];intro p m;obtain⟨l,a,rfl⟩:=aa6.mp m;have:¬bS l=bS k:=λe=>h (lL.mp e▸a)
 simp[this]
theorem DD(h:IsT W τ x i)(w:bG W x):bT W x:=by
 refine⟨w,λk as e=>?_⟩;subst e;exact h.1
theorem P_(i:W.Ok)(d:bT W x)(c:bT W y)(m:road∈de W x y)(f:p∈road):aJ W p.1/\aJ W p.2:=by
 rcases abq.mp m with m|m
 .obtain⟨a,b,rfl,h,wb,_⟩:=vl d.1 c.1 m f;exact⟨dN h,dN wb⟩
 .split at m
  .rw[aaT] at m;subst m;exact(uv i d c f).2
  .cases m
theorem MS(M:W.Ok)(bs:Base τ)(c:∀k∈H,kj W τ H k):∀k∈H,i7 W τ k.1 k.2:=by
 let R:Th->Th->Prop:=λx y=>∃i j,IsT W τ x i/\IsT W τ y j/\bG W x/\bG W y/\((i,j)∈H\/(j,i)∈H);let S:Th->Th->Prop:=λx y=>R x y\/br W x y;have Ss:∀x y,S x y->S y x:=λx y h=>h.imp ((λx y ⟨i,j,N,T,h3,h4,h5⟩=>⟨j,i,T,N,h4,h3,h5.symm⟩:∀x y,R x y->R y x) x y) br.symm;have one:∀{x y},bG W x->bG W y->d6 W τ H (aA x) (aA y)->x=y\/S x y:=λ{x y}d t h=>by
  rcases h with l|⟨i,j,N,T,m⟩
  .exact(oX.mp l).imp id .inr
  .exact .inr (.inl ⟨i,j,ig N,ig T,d,t,.inl m⟩)
 have D:∀{a b},aJ W a->aJ W b->bO a=bO b->a8 a=a8 b->(∀x∈a.2,∃y∈b.2,x=y\/d6 W τ H (aA x) (aA y))->(∀y∈b.2,∃x∈a.2,x=y\/d6 W τ H (aA y) (aA x))->bM S a b:=λ{a b}u wb e1 e2 l r=>
  .inr (.inr ⟨e1,e2,λx mx=>by
   obtain⟨y,U,o⟩:=l x mx;exact⟨y,U,(o.elim .inl (one (u.th x mx) (wb.th y U)))⟩,λy U=>by
   obtain⟨x,mx,o⟩:=r y U;exact⟨x,mx,(o.elim .inl λo=>(one (wb.th y U) (u.th x mx) o).imp Eq.symm (Ss y x))⟩⟩)
 have Rv:∀{a b},aJ W a->aJ W b->d6 W τ H a b->bM S a b:=λ{a b}u wb h=>by
  rcases h with l|⟨i,j,N,T,m⟩
  .exact l.mono λx J y J=>.inr
  .cases c _ m with
   |thing x y f A d t road mr all=>
    have s:bM S (aA x) (aA y):=.inr (.inr ⟨Y,Y,λz mz=>⟨y,.head _,.inr (by
     have:=aaT.mp mz
     subst this
     exact .inl ⟨i,j,f,A,d,t,.inl m⟩)⟩,λz mz=>⟨x,.head _,.inr (by
     have:=aaT.mp mz
     subst this
     exact .inl ⟨i,j,f,A,d,t,.inl m⟩)⟩⟩)
    exact s.congr (fW d) u (fW t) wb (hZ M.names bs (fD f) N) (hZ M.names bs (fD A) T)
   |many a' b' Q hb AD o_ e1 e2 e3 l r=>
    exact(D AD o_ e1 e2 l r).congr AD u o_ wb (hZ M.names bs Q N) (hZ M.names bs hb T)
 have L:∀{x a i},IsT W τ x i->bG W x->aB W τ a i->aJ W a->a8 a=true->False:=λ{x a i}f d Q u e=>by
  have q:=hZ M.names bs Q (fD f);have N:bO a=bO (aA x):=by unfold bO;rw[q.1];rfl
  have:a8 a=a8 (aA x):=by unfold a8;rw[N,(yd u.nd (fW d).nd q.2)]
  rw[this,qW] at e
  cases e
 have B:∀{x y i j},IsT W τ x i->IsT W τ y j->bG W x->bG W y->(i,j)∈H->gd W S x y:=λ{x y i j}f A d t m=>by
  cases c _ m with
  |thing x' y' PW KJ C6 I1 road mr all=>
   have e1:=iQ M.names bs f PW;have e2:=iQ M.names bs A KJ;subst e1;subst e2;refine⟨road,mr,λp mp=>?_⟩;have w:=P_ M (DD f d) (DD A t) mr mp;exact Rv w.1 w.2 (all p mp)
  |many a b Q hb u wb e1 e2 e3 l r=>exact(L f d Q u e3).elim
 have step:∀x y,R x y->gd W S x y:=λx y ⟨i,j,f,A,d,t,m⟩=>by
  exact m.elim (B f A d t) λm=>(B A f t d m).symm Ss
 have like:∀x y,S x y->br W x y:=λx y h=>by
  exact h.elim (br.co step) λh=>h
 intro k mk;cases c k mk with
 |thing x y f A d t road mr all=>exact⟨aA x,aA y,fW d,fW t,fD f,fD A,oX.mpr (.inr (like x y (.inl ⟨k.1,k.2,f,A,d,t,.inl mk⟩)))⟩
 |many a b Q hb u wb e1 e2 e3 l r=>exact⟨a,b,u,wb,Q,hb,(D u wb e1 e2 l r).mono λx J y J=>like x y⟩
structure tR(E c a b v)(σ s aj s'):Prop where
 g:aP E 0 σ s aj s'
 tr:s'.tr=[]
 l:s'.au<=s.au+c
 v:v=true↔aQ E.W a b
theorem fw.room{E}{G c g d R s}(p:fw E G c g d R s):s.au+c<=20000:=by have:=p.c;omega
def p5(W:World)(x y:Th):Prop:=((eV W x y).map (j9 W x y).wt).sum<=1240
theorem UZ(a:W.Ok)(l:p5 W x y):(j9 W x y).rem W s<=1240/\((j9 W x y).left W s).length<=10:=by
 refine⟨?_,?_⟩
 .have:=pZ (f:=(j9 W x y).wt) (p:=open Classical inλp=>decide (¬fN W s p)) (λJ J=>Y) (eV W x y)
  rw[List.filter_eq_self.mpr λJ J=>Y] at this
  exact aaS this l
 .unfold Rg.left;exact aaS (abS ..) (J0 a)
def tt(W:World):Th->Th->Nat:=tN W (λJ J=>1240) 3
def kt(W:World)(p:Kind×Kind):Nat:=cz (tt W) p.1 p.2
theorem TJ(ne:x≠y)(b:aI x=false)(a:aI y=false):tt W x y=1240:=by
 unfold tt tN;rw[aa_ ne,b,a];rfl
theorem Jv(ne:x≠y):1<=tt W x y:=by
 unfold tt tN;rw[aa_ ne];split
 .omega
 .split
  .exact aaX _
  .decide
section
variable{E:EN}{R:RS->Prop}
theorem Bc(ne:a≠b)(f:dY a=false)(d:dY b=false):1<=kt W (a,b):=by
 unfold kt;by_cases h:(∃x,a=aA x)/\∃y,b=aA y
 .obtain⟨⟨x,rfl⟩,⟨y,rfl⟩⟩:=h;have c:x≠y:=λe=>ne (by rw[e])
  exact(ym c)▸Jv c
 .by_cases m:a8 a=a8 b
  .rw[rS ne h f d m];omega
  .rw[sO ne f d m];exact aaX _
end
theorem LM{l:List c}{p}:p∈l.zip l->p.1=p.2:=by
 induction l with
 |nil=>exact nofun
 |cons a l b=>exactλm=>(aa5.mp m).elim (λe=>e▸Y) b
theorem ID(c:∀road∈aZ x y,∃p∈road,¬aQ W p.1 p.2)(a:aU W x≠aU W y\/∃p∈bq W x y,¬aQ W p.1 p.2):¬(x=y\/br W x y):=by
 by_cases e:x=y
 .subst e;rcases a with h|⟨p,b,np⟩
  .exact absurd Y h
  .exact absurd (bM.refl _) ((LM b)▸np)
 .intro o;exact zY e c a (oX.mpr o)
noncomputable def wc(h:Nat)(b:Bool):World:=⟨1,[],[],⟨122,h,if b then 1 else 0,0⟩,0,[]⟩
noncomputable def a7:List AK:=[(1,none),(2,none),(0,some .i4),(0,some .i3),(128,none),(9,none),(0,some (.a9 1)),(32,none),(8,some .i3),(0,none),(4,none),(64,none),(136,none),(10,none),(1,some .i4),(0,some (.aY 0 .i3)),(0,some (.a9 128)),(8,some .i4),(128,some .i3),(0,some (.aY 0 .i4)),(17,none),(18,none),(16,some .i4),(16,some .i3),(144,none),(25,none),(16,some (.a9 1)),(24,some .i3),(16,none),(20,none),(152,none),(26,none),(17,some .i4),(16,some (.aY 0 .i3))]
noncomputable def fj:List Lf:=[.i3,.i4,.a9 1,.a9 128,.aY 0 .i3,.aY 0 .i4]
def mq(h:Nat)(b:Bool):Th->Th->Nat:=tN (wc h b) (λJ J=>0) 3
noncomputable def sorts:List (Nat×Bool):=[(0,true),(0,false),(1,true),(1,false),(2,true),(2,false)]
def L5:Bool:=sorts.all λs=>a7.all λa=>a7.all λb=>decide (mq s.1 s.2 (.lf (Lf.box a)) (.lf (Lf.box b))<=11)
def KZ:Bool:=sorts.all λs=>a7.all λa=>fj.all λb=>decide (mq s.1 s.2 (.lf (Lf.box a)) (.lf b)<=5)&&decide (mq s.1 s.2 (.lf b) (.lf (Lf.box a))<=5)
def Zf:Bool:=sorts.all λs=>fj.all λa=>fj.all λb=>decide (mq s.1 s.2 (.lf a) (.lf b)<=2)
def Zr:Bool:=sorts.all λs=>a7.all λa=>a7.all λb=>decide (cz (mq s.1 s.2) a.kind b.kind<=5)
theorem Wh:Zf=true:=by decide+kernel
theorem LG:Zr=true:=by decide+kernel
theorem IT:KZ=true:=by decide+kernel
theorem LD:L5=true:=by decide+kernel
theorem all_eq{l:List c}:(∀x∈l,f x=g x)->l.all f=l.all g:=by
 induction l with
 |nil=>exactλJ=>Y
 |cons a l b=>exactλh=>by rw[List.all_cons,List.all_cons,h a (.head _),b λx m=>h x (.tail _ m)]
theorem any_eq{l:List c}:(∀x∈l,f x=g x)->l.any f=l.any g:=by
 induction l with
 |nil=>exactλJ=>Y
 |cons a l b=>exactλh=>by rw[List.any_cons,List.any_cons,h a (.head _),b λx m=>h x (.tail _ m)]
theorem map_eq{b:Type}{f g:b->Nat}{l:List b}:(∀x∈l,f x=g x)->l.map f=l.map g:=by
 induction l with
 |nil=>exactλJ=>Y
 |cons a l c=>exactλh=>show f a::l.map f=g a::l.map g from congr (aaU List.cons (h a (.head _))) (c λx m=>h x (.tail _ m))
def iE(k:Kind):Prop:=∀z∈k.2,∃y,z=.lf y
theorem yo(h:∀x y,f (.lf x) (.lf y)=g (.lf x) (.lf y))(m:iE a)(l:iE b):dH f a b=dH g a b:=by
 have e:∀x∈a.2,∀y∈b.2,f x y=g x y:=λx d y c=>by
  obtain⟨j,rfl⟩:=m x d;obtain⟨i,rfl⟩:=l y c;exact h j i
 unfold dH;rw[(all_eq λx d=>any_eq λy c=>by rw[e x d y c]),(all_eq λy c=>any_eq λx d=>by rw[e x d y c]:_=b.2.all λy=>a.2.any λx=>decide (x=y)||g x y)]
theorem CV(h:∀x y,f (.lf x) (.lf y)=g (.lf x) (.lf y))(i:∀z∈l,∃y,z=Th.lf y)(lm:∀z∈m,∃y,z=Th.lf y):sum2 f l m=sum2 g l m:=by
 unfold sum2;congr 1;refine map_eq λx d=>?_;congr 1;refine map_eq λy c=>?_;obtain⟨b,rfl⟩:=i x d;obtain⟨a,rfl⟩:=lm y c;exact h b a
theorem zW(h:∀x y,f (.lf x) (.lf y)=g (.lf x) (.lf y))(d:iE a)(c:iE b):cz f a b=cz g a b:=by
 unfold cz;rw[CV h d c,CV h c d]
theorem mH(m:road∈aZ (.lf x) (.lf y))(f:p∈road):iE p.1/\iE p.2:=by
 obtain⟨k,as,bs,_,_,rfl⟩:=args_mem m;have d:=(List.of_mem_zip (f));obtain⟨a,ma,i⟩:=aa6.mp d.1;obtain⟨b,j,h⟩:=aa6.mp d.2;rw[←i,←h];exact⟨λz c=>let⟨y,_,e⟩:=fq c;⟨y,e⟩,λz c=>let⟨y,_,e⟩:=fq c;⟨y,e⟩⟩
theorem HV(j:W.bx.how<=2):∀k∈bX W (.lf x),iE k:=by
 intro k mk z d;obtain⟨m,c,rfl⟩:=aa6.mp mk;have d:=u5 d;have f:∀{a},m∈(cP W 2).map (λm=>(m,cell W 2 m.how [a]))->∃y,z=.lf y:=λ{a}c=>by
  obtain⟨r,h,rfl⟩:=aa6.mp c;have:=aaT.mp h
  subst this
  obtain⟨y,_,e⟩:=fq (um j d);exact⟨y,e⟩
 cases x with
 |par i=>simp[bW] at c
 |i3=>
  have:m=(mP,(1,[])):=aaT.mp c
  subst this;cases d
 |i4=>
  have:m=(mP,(1,[])):=aaT.mp c
  subst this;cases d
 |a9 b=>exact f c
 |aY b x=>exact f c
theorem t2(b:W.bx.how<=2)(m:p∈bq W (.lf x) (.lf y)):iE p.1/\iE p.2:=by
 have a:=List.of_mem_zip (m);exact⟨HV b _ a.1,HV b _ a.2⟩
def wb(W:World):World:=wc W.bx.how (W.bx.ms.testBit 0)
theorem Vg(b:Bool):(if b then 1 else 0:Nat).testBit 0=b:=by cases b<;>rfl
theorem Ge(d:W.bx.how<=2)(x):bX W (.lf x)=bX (wb W) (.lf x):=by
 have cl:∀a,cell W 2 W.bx.how [a]=cell _ 2 W.bx.how [a]:=λa=>by
  rcases(by omega:W.bx.how=0\/W.bx.how=1\/W.bx.how=2) with e|e|e<;>rw[e]<;>rfl
 have rd:∀k,bP W.bx k=bP (wb W).bx k:=λk=>by
  unfold bP;have:(wb W).bx.ms.testBit 0=W.bx.ms.testBit 0:=Vg _
  rw[this]
 have c:=λa=>by
  show[bP W.bx (cell W 2 W.bx.how [a])]=[bP (wb W).bx (cell (wb W) 2 (wb W).bx.how [a])];rw[rd];rfl
 cases x with
 |par i=>rfl
 |i3=>rfl
 |i4=>rfl
 |a9 b=>exact c _
 |aY b x=>exact c _
theorem Ff(a:W.bx.how<=2)(x y):bq W (.lf x) (.lf y)=bq (wb W) (.lf x) (.lf y):=by
 unfold bq;rw[Ge a x,Ge a y]
noncomputable def mj:Lf->Nat
 |.a9 _=>2
 |.aY _ _=>2
 |.par _=>0
 |_=>1
theorem sd(x):aU W (.lf x)=if mj x=2 then[c_ W.bx] else if mj x=1 then[c_ mP] else[]:=by
 cases x<;>rfl
theorem R1(f:W.bx.nm=122)(x y):(aU W (.lf x)=aU W (.lf y))↔(aU (wb W) (.lf x)=aU (wb W) (.lf y)):=by
 have d:c_ W.bx≠c_ mP:=λe=>by
  have:=aaU (·.1) e
  simp only[c_,mP,f] at this
  exact absurd this ()
 have c:c_ (wb W).bx≠c_ mP:=λe=>by
  have:=aaU (·.1) e
  simp only[c_,mP,wb,wc] at this
  exact absurd this ()
 rw[sd,sd,sd,sd];have b:∀x,mj x=0\/mj x=1\/mj x=2:=λx=>by cases x<;>simp[mj]
 rcases b x with e|e|e<;>rcases b y with a|a|a<;>rw[e,a]<;>simp[d,c,Ne.symm d,Ne.symm c]
theorem EG(b:W.bx.how<=2)(f:W.bx.nm=122):∀g x y,jS W g (.lf x) (.lf y)=jS (wb W) g (.lf x) (.lf y)
 |0,_,_=>rfl
 |g+1,x,y=>by
  have d:=EG b f g
  unfold jS
  congr 1
  .exact any_eq λr c=>all_eq λp a=>yo d (mH c a).1 (mH c a).2
  .rw[←Ff b];rw[(ab8.mpr (R1 f x y))];congr 1;exact all_eq λp a=>yo d (t2 b a).1 (t2 b a).2
theorem X6(d:W.bx.how<=2)(c:W.bx.nm=122)(x y):pS W (.lf x) (.lf y)=pS (wb W) (.lf x) (.lf y):=
 any_eq λr a=>all_eq λp b=>yo (EG d c 4) (mH a b).1 (mH a b).2
theorem IK(b:W.bx.how<=2)(f:W.bx.nm=122)(o o'):∀g x y,tN W o g (.lf x) (.lf y)=tN (wb W) o' g (.lf x) (.lf y)
 |0,_,_=>rfl
 |g+1,x,y=>by
  have d:=IK b f o o' g
  unfold tN
  have e1:cw (λp=>cz (tN W o g) p.1 p.2) (.lf x) (.lf y)=cw (λp=>cz (tN (wb W) o' g) p.1 p.2) (.lf x) (.lf y):=by
   unfold cw;congr 1;refine map_eq λr c=>?_;unfold b8;congr 1;exact map_eq λp a=>zW d (mH c a).1 (mH c a).2
  have e2:b8 (λp=>cz (tN W o g) p.1 p.2) (bq W (.lf x) (.lf y))=b8 (λp=>cz (tN (wb W) o' g) p.1 p.2) (bq (wb W) (.lf x) (.lf y)):=by
   rw[←Ff b];unfold b8;congr 1;exact map_eq λp a=>zW d (t2 b a).1 (t2 b a).2
  rw[e1,e2,X6 b f]
  have l:(aI (.lf x)&&aI (.lf y))=true:=Y
  rw[l,abn Y,abn Y]
theorem l_:∀a∈a7,∀y,a.2=some y->y∈fj/\bE y<=2:=by
 intro a ma y e;have:=abd.mp (():(a7.all λa=>match a.2 with|none=>true|some y=>decide (y∈fj)&&decide (bE y<=2))=true) a ma
 rw[e] at this
 simpa using this
theorem Ii:((0,none):AK)∈a7:=()
structure qp(f:Th->Th->Nat)(O):Prop where
 bb:∀a∈a7,∀a'∈a7,f (.lf (Lf.box a)) (.lf (Lf.box a'))<=11
 bt:∀a∈a7,∀t∈fj,f (.lf (Lf.box a)) (.lf t)<=5
 tb:∀a∈a7,∀t∈fj,f (.lf t) (.lf (Lf.box a))<=5
 tt:∀a∈fj,∀t∈fj,f (.lf a) (.lf t)<=2
 k:∀a∈a7,∀a'∈a7,cz f a.kind a'.kind<=5
 mix:∀x y,aI x≠aI y->f x y<=1
 own:∀x y,aI x=false->aI y=false->f x y<=O
theorem rV(j:W.Ok)(O):qp (tN W (λJ J=>O) 3) O:=by
 have m:=j.lW;have e:∀x y,tN W (λJ J=>O) 3 _ _=mq W.bx.how _ _ _:=IK m j.bx _ _ 3;have ms:(W.bx.how,W.bx.ms.testBit 0)∈sorts:=by
  rcases(by omega:W.bx.how=0\/W.bx.how=1\/W.bx.how=2) with q|q|q<;>rw[q]<;>cases W.bx.ms.testBit 0<;>decide
 have b:∀a:AK,iE a.kind:=λa z l=>let⟨y,_,e⟩:=fq l;⟨y,e⟩;refine⟨λa ma d c=>?_,λa ma t mt=>?_,λa ma t mt=>?_,λa ma t mt=>?_,λa ma d c=>?_,λx y h=>?_,λx y r p=>?_⟩
 .rw[e];exact abl (abd.mp (abd.mp (abd.mp LD _ ms) a ma) d c)
 .rw[e];have:=abd.mp (abd.mp (abd.mp IT _ ms) a ma) t mt
  rw[abY] at this
  exact abl this.1
 .rw[e];have:=abd.mp (abd.mp (abd.mp IT _ ms) a ma) t mt
  rw[abY] at this
  exact abl this.2
 .rw[e];exact abl (abd.mp (abd.mp (abd.mp Wh _ ms) a ma) t mt)
 .rw[zW e (b a) (b d)];exact abl (abd.mp (abd.mp (abd.mp LG _ ms) a ma) d c)
 .unfold tN;split
  .exact aa9 _
  .cases i:aI x<;>cases f:aI y
   .rw[i,f] at h;exact absurd Y h
   .simp
   .simp
   .rw[i,f] at h;exact absurd Y h
 .unfold tN;split
  .exact aa9 _
  .rw[r,p];simp
def js(l:List Th):Prop:=l=[]\/(∃t∈fj,l=[.lf t])\/(∃a∈a7,l=[.lf (Lf.box a)])\/∃a∈a7,∃t∈fj,l=[.lf (Lf.box a),.lf t]
theorem aaK:sum2 f [] m=0:=rfl
theorem YL:sum2 f (x::l) m=(m.map (f x)).sum+sum2 f l m:=by simp[sum2]
theorem IS(c:qp f O)(r:js l)(q:js m):sum2 f l m<=23:=by
 have h (t) (mt:t∈fj):(m.map (f (.lf t))).sum<=7:=by
  rcases q with rfl|⟨j,d,rfl⟩|⟨a,ma,rfl⟩|⟨a,ma,j,d,rfl⟩
  .exact aa9 _
  .exact aaS (c.tt t mt j d) ()
  .exact aaS (c.tb a ma t mt) ()
  .exact abw (c.tb a ma t mt) (c.tt t mt j d)
 have i (b) (p:b∈a7):(m.map (f (.lf (Lf.box b)))).sum<=16:=by
  rcases q with rfl|⟨j,d,rfl⟩|⟨a,ma,rfl⟩|⟨a,ma,j,d,rfl⟩
  .exact aa9 _
  .exact aaS (c.bt b p j d) ()
  .exact aaS (c.bb b p a ma) ()
  .exact abw (c.bb b p a ma) (c.bt b p j d)
 rcases r with rfl|⟨t,mt,rfl⟩|⟨a,ma,rfl⟩|⟨a,ma,t,mt,rfl⟩
 .exact aa9 _
 .exact aaS (h t mt) ()
 .exact aaS (i a ma) ()
 .exact abw (i a ma) (h t mt)
theorem jw(h:1+sum2 f a.2 b.2+sum2 f b.2 a.2<=N):cz f a b<=N:=
 have s:=aaS (aaW ..) h
 ite_le (aa9 _) (ite_le (aaS (aaW ..) s) (ite_le (aaS (abj ..) s) h))
theorem Gz(c:qp f O)(hz:aI z=false)(j:js m):sum2 f [z] m<=2/\sum2 f m [z]<=2:=by
 have d:∀t,f z (.lf t)<=1:=λt=>c.mix _ _ (hz▸(():false≠true));have b:∀t,f (.lf t) z<=1:=λt=>c.mix _ _ (by exact hz▸(():true≠false))
 have one:∀t,sum2 f [z] [.lf t]<=2/\sum2 f [.lf t] [z]<=2:=λt=>⟨Nat.le_succ_of_le (d t),Nat.le_succ_of_le (b t)⟩;rcases j with rfl|⟨i,h,rfl⟩|⟨a,ma,rfl⟩|⟨a,ma,i,h,rfl⟩
 .exact⟨aa9 2,aa9 2⟩
 .exact one _
 .exact one _
 .exact⟨abw (d _) (d _),abw (b _) (b _)⟩
def jO(k:Kind):Prop:=js k.2\/∃z,k.2=[z]/\aI z=false
theorem Eo(c:qp f O)(h:jO a)(d:jO b):cz f a b<=47\/(cz f a b<=1+2*O/\∃z w,a.2=[z]/\b.2=[w]/\aI z=false/\aI w=false):=by
 rcases h with h|⟨z,m,hz⟩<;>rcases d with d|⟨w,l,i⟩
 .have j:=IS c h d;have p:=IS c d h;exact .inl (jw (by omega))
 .have j:=Gz c i h;left;refine jw ?_;rw[l];omega
 .have j:=Gz c hz d;left;refine jw ?_;rw[m];omega
 .refine .inr ⟨jw ?_,z,w,m,l,hz,i⟩;have j:=c.own z w hz i;have p:=c.own w z i hz;rw[m,l];simp[sum2];omega
theorem xA:(aS [a,b]).2=[]\/(aS [a,b]).2=a.2++b.2.filter λx=>decide (x∉a.2):=
 nk (P:=λk=>k.2=[]\/k.2=a.2++b.2.filter λx=>decide (x∉a.2)) (.inl Y) (.inl Y) λJ J=>.inr (by simp[gc])
theorem x8:(bP m k).2=k.2\/(bP m k).2=[]:=by
 unfold bP;split
 .exact xA.symm.imp (λe=>e.trans (abO _)) id
 .exact .inl Y
theorem qU(m:a∈a7):js a.kind.2:=by
 obtain⟨b,_|x⟩:=a
 .exact .inl Y
 .exact .inr (.inl ⟨x,(l_ _ m x Y).1,Y⟩)
theorem js.box(i:d∈a7)(ma:a∈a7):js ([.lf (Lf.box d)]++a.kind.2.filter λx=>decide (x∉[Th.lf (Lf.box d)])):=by
 obtain⟨b,_|x⟩:=a
 .exact .inr (.inr (.inl ⟨_,i,Y⟩))
 .have f (c) (h:decide (Th.lf x∉[Th.lf (Lf.box d)])=c):([Th.lf x].filter λx=>decide (x∉[Th.lf (Lf.box d)]))=bif c then[Th.lf x] else[]:=by
   rw[List.filter_cons,h];cases c<;>rfl
  by_cases eq:x=Lf.box d
  .exact .inr (.inr (.inl ⟨_,i,aaU _ (f false (abf λh=>h (eq▸.head _)))⟩))
  .exact .inr (.inr (.inr ⟨_,i,x,(l_ _ ma x Y).1,aaU _ (f true (aba λh=>eq (Th.lf.inj (aaT.mp h))))⟩))
theorem CR{W k how as}(h:∀a∈as,a∈a7):jO (cell W k how as):=by
 have b:=(uz Y).elim (h _) λm=>m.symm▸Ii;have c:=(u_ Y).elim (h _) λm=>m.symm▸Ii;refine i8 (P:=λJ=>jO) (.inl (qU b)) (.inl (qU c)) ?_ (.inr ⟨_,Y,Y⟩) (.inr ⟨_,Y,Y⟩) ?_ (.inl (.inr (.inl ⟨.i3,(),Y⟩))) (.inl (.inr (.inr (.inl ⟨_,b,Y⟩)))) (.inl (.inr (.inr (.inl ⟨_,(),Y⟩)))) (λJ J J J=>.inl (.inl Y)) how
 .refine xA.elim (λe=>.inl (.inl e)) λe=>.inl (e▸?_);exact(abO _).symm▸qU b
 .exact xA.elim (λe=>.inl (.inl e)) λe=>.inl (e▸js.box c b)
theorem Lk(h:jO k):jO (bP m k):=by
 rcases x8 with e|e
 .unfold jO;rw[e];exact h
 .exact .inl (.inl e)
structure bu(W x):Prop where
 ok:bT W x
 own:aI x=false
 args:∀a∈fV W x,a∈a7
theorem bu.iS(h:bu W x):cQ W x:=⟨h.ok,h.own,λa ma y e=>(l_ a (h.args a ma) y e).2⟩
theorem rJ(h:bu W x):∀k∈bX W x,jO k:=by
 intro k mk;obtain⟨m,a,rfl⟩:=aa6.mp mk;refine Lk ?_;cases x with
 |lf x=>cases(h.own)
 |own l as=>
  obtain⟨r,b,rfl⟩:=aa6.mp a;exact CR h.args
 |six=>
  obtain⟨r,b,rfl⟩:=aa6.mp a;exact CR h.args
theorem nJ(c:W.Ok)(h:bu W x):∀z∈bk W x,bu W z:=by
 intro z b;have o:=jD c h.iS z b;refine⟨o.ok,o.own,?_⟩;cases x with
 |lf x=>cases(h.own)
 |own l as=>
  simp only[bk,aa5,abo,or_false] at b;rcases b with rfl|rfl
  .exact h.args
  .exactλa m=>h.args a (List.mem_reverse.mp m)
 |six=>
  simp only[bk,aa5,abo,or_false] at b;rcases b with rfl|rfl
  .exact h.args
  .exactλa m=>h.args a (List.mem_reverse.mp m)
theorem uq{l}:(∀p∈l,f p<=N)->b8 f l<=N*l.length:=by
 induction l with
 |nil=>exactλJ=>aa9 _
 |cons p l a=>exactλh=>aaS (abw (h p (.head _)) (a λq m=>h q (.tail _ m))) (aa7 (abE N _))
theorem RY(i:M<=N){l}:(∀p∈l,f p<=N)->(∃p∈l,f p<=M)->b8 f l+(N-M)<=N*l.length:=by
 induction l with
 |nil=>exactλJ q=>q.elim λJ q=>absurd q.1 abo
 |cons p l d=>
  intro h q;have c:=λq m=>h q (.tail p m);refine aaS ?_ (aa7 (abE N _));obtain⟨q,a,b⟩:=q;exact(aa5.mp a).elim (λe=>aaS (aa7 (abT (f p) (b8 f l) (N-M))) (abw (aaS (aa2 (e▸b) _) (aa7 (Nat.add_sub_of_le i))) (uq c))) λa=>aaS (aa7 (abu (f p) (b8 f l) (N-M))) (abw (h p (.head _)) (d c ⟨q,a,b⟩))
theorem Jx(c:qp f O)(d:bu W x)(q:bu W y):cw (λp=>cz f p.1 p.2) x y<=10:=by
 rcases q_ (x:=x) (y:=y) with e|⟨r,e⟩
 .unfold cw;exact e▸aa9 _
 .have i:r∈aZ x y:=by rw[e];simp
  rw[x3 i];obtain⟨k,as,bs,h,t,er⟩:=args_mem i;have z:r.length<=2:=by
   rw[er,List.length_zip,aa1];have:as.length<=2:=by
    cases x with
    |lf x=>cases(d.own)
    |six=>cases h
    |own l A=>
     have:=aa0 h
     cases this
     exact d.ok.1.1▸oV
   omega
  have:=uq (f:=λp=>cz f p.1 p.2) (l:=r) λp j=>by
   rw[er] at j;have m:=List.of_mem_zip (j);obtain⟨a,ma,w⟩:=aa6.mp m.1;obtain⟨b,s,u⟩:=aa6.mp m.2;rw[←w,←u];exact c.k a (d.args a ((oE (W:=W) d.own h)▸ma)) b (q.args b ((oE (W:=W) q.own t)▸s))
  omega
theorem Hy(a:W.Ok):(bq W x y).length<=3:=by
 unfold bq bX;rw[List.length_zip,aa1,aa1];have:=(lH a x).1
 omega
theorem oJ(t:W.Ok)(s:bu W x)(r:bu W y):1+cw (kc W) x y+b8 (kc W) (bq W x y)<=152/\(b5 W x y≠[]->1+cw (kc W) x y+b8 (kc W) (bq W x y)<=106):=by
 have c:=rV t 0;have f:=Jx c s r;have u:=Hy t (x:=x) (y:=y);have each:∀p∈bq W x y,kc W p<=47\/(kc W p<=1/\∃z w,p.1.2=[z]/\p.2.2=[w]/\aI z=false/\aI w=false):=λp b=>by
  have m:=List.of_mem_zip (b);exact Eo c (rJ s _ m.1) (rJ r _ m.2)
 have all:=λp b=>by
  rcases each p b with h|h
  .exact h
  .omega
 have B:=uq all;have f:cw (kc W) x y<=10:=f;refine⟨by omega,λne=>?_⟩
 obtain⟨⟨z,w⟩,d⟩:∃p,p∈b5 W x y:=by
  cases q:b5 W x y with
  |nil=>exact absurd q ne
  |cons a l=>exact⟨a,by simp⟩
 obtain⟨p,b,e1,e2,j,i⟩:=j_.mp d;have hp:kc W p<=1:=by
  refine jw ?_;have H:=c.own z w j i;have D:=c.own w z i j;rw[e1,e2];simp[sum2];unfold tc;omega
 have A:=RY () all ⟨p,b,hp⟩;omega
theorem BP{l:List b}:(∀p∈l,f p<=N)->(l.map f).sum<=N*l.length:=by
 induction l with
 |nil=>exactλJ=>aa9 _
 |cons p l a=>exactλh=>aaS (abw (h p (.head _)) (a λq m=>h q (.tail _ m))) (aa7 (abE N _))
theorem DE(h:ik W x y=true)(i:a∈bk W x)(f:b∈bk W y):b5 W a b≠[]:=by
 obtain⟨k,as,j,e1,rfl⟩:=rX i;obtain⟨l,bs,d,e2,rfl⟩:=rX f;unfold ik at h;rw[e1,e2] at h;cases q:b5 W _ (.own l d) with
 |nil=>rw[q] at h;cases h
 |cons p r=>
  obtain⟨z,w⟩:=p;obtain⟨m,c⟩:=I7 (show(z,w)∈b5 W _ _ by rw[q];simp)
  intro e;rw[e] at c;cases c
theorem Ka(h:b5 W x y≠[]):b5 W y x≠[]:=by
 intro e;cases q:b5 W x y with
 |nil=>exact h q
 |cons p l=>
  obtain⟨z,w⟩:=p;have:=w_ (show(z,w)∈b5 W x y by rw[q];simp)
  rw[e] at this;cases this
theorem Ay(a:W.Ok)(c:bu W x)(b:bu W y):p5 W x y:=by
 refine aaS (abw (oJ a c b).1 (abw (oJ a b c).1 (?_:_<=912))) ();cases q:ik W x y
 .have d {z w} (m):bu W z/\bu W w:=have t:=rz a c.iS b.iS m;⟨nJ a c _ t.1,nJ a b _ t.2⟩;refine aaS (BP (l:=b5 W x y++(b5 W x y).map Prod.swap) λp f=>(abq.mp f).elim (λm=>(oJ a (d m).1 (d m).2).1) λm=>?_) (abz 152 (?_:_<=6))
  .obtain⟨⟨z,w⟩,m',rfl⟩:=aa6.mp m;exact(oJ a (d m').2 (d m').1).1
  .rw[aa4,aa1];exact abw (xP a) (xP a)
 .refine aaS (BP (l:=ku _ _++ku ..) λp f=>(abq.mp f).elim (λm=>?_) λm=>?_) (aaS (abz 106 (?_:_<=8)) ())
  .have t:=sN.mp m;exact(oJ a (nJ a c _ t.1) (nJ a b _ t.2)).2 (DE q t.1 t.2)
  .have t:=sN.mp m;exact(oJ a (nJ a b _ t.1) (nJ a c _ t.2)).2 (Ka (DE q t.2 t.1))
  .rw[aa4,pairs_len,pairs_len];exact abw (Nat.mul_le_mul jL jL) (Nat.mul_le_mul jL jL)
theorem Qa(i:W.Ok)(d:bu W x)(b:bu W y):cw (kt W) x y+b8 (kt W) (bq W x y)<=8000:=by
 have c:=rV i 1240;have q:cw (kt W) x y<=10:=Jx c d b;have m:=Hy i (x:=x) (y:=y);have r:=uq (f:=kt W) (N:=2481) (l:=bq W x y) λp j=>by
  have a:=List.of_mem_zip (j);exact(Eo c (rJ d _ a.1) (rJ b _ a.2)).elim (λh=>aaS h ()) λh=>h.1
 omega
theorem Cz(c:W.Ok)(f:a∈a7)(d:b∈a7):kt W (a.kind,b.kind)<=5:=(rV c 1240).k a f b d
theorem rD(c:W.Ok)(b:aI x=false)(a:aI y=false):tt W x y<=1240:=(rV c 1240).own x y b a
theorem Jo:tt W x x=0:=by
 unfold tt tN;rw[abn Y]
end
def Lf.enc:Lf->AV:=@Lf.rec (λJ=>AV) (.tup [iv 3,.tup []]) (.tup [iv 4,.tup []]) (λb=>.tup [iv 2,.tup [.tup [iv b,.tup []]]]) (λb J e=>.tup [iv 2,.tup [.tup [iv b,.tup [e]]]]) λi=>.tup [iv 9,iv i]
def aE(a:AK):AV:=.tup [iv a.1,.tup (a.2.toList.map Lf.enc)]
theorem Iu(a):(Lf.box a).enc=.tup [iv 2,.tup [aE a]]:=by
 obtain⟨b,_|x⟩:=a<;>rfl
def tE(W:World):Th->AV
 |.lf x=>x.enc
 |.own k as=>.tup [iv k,.tup (as.map aE)]
 |.six=>.tup [iv 6,.tup (W.six.map aE)]
def kE(W:World)(k:Kind):AV:=.tup [iv k.1,.tup (k.2.map (tE W))]
theorem gZ(W a):aE a=kE W a.kind:=by
 obtain⟨b,_|x⟩:=a<;>rfl
theorem eh(h:AV.tup [a]=AV.tup [b]):a=b:=(tl h).1
theorem Lf.k5{x y:Lf}(h:x.enc=y.enc):x=y:=by
 induction x generalizing y with
 |i3=>cases y<;>first|exact fL h Y|rfl
 |i4=>cases y<;>first|exact fL h Y|rfl
 |par i=>cases y<;>first|exact fL h Y|exact aaU Lf.par (dO.mp (eh (tl h).2))
 |a9 b=>cases y<;>first|exact fL h Y|exact aaU Lf.a9 (dO.mp (tl (eh (eh (tl h).2))).1)|exact absurd (AV.tup.inj (eh (tl (eh (eh (tl h).2))).2)).symm (List.cons_ne_nil _ _)
 |aY b x a=>cases y<;>first|exact fL h Y|exact absurd (AV.tup.inj (eh (tl (eh (eh (tl h).2))).2)) (List.cons_ne_nil _ _)|exact congr (aaU Lf.aY (dO.mp (tl (eh (eh (tl h).2))).1)) (a (eh (eh (tl (eh (eh (tl h).2))).2)))
theorem KD{o p:Option Lf}(h:o.toList.map Lf.enc=p.toList.map Lf.enc):o=p:=by
 cases o with
 |none=>cases p<;>first|rfl|cases h
 |some a=>cases p with
  |none=>cases h
  |some b=>exact aaU some (Lf.k5 (List.cons.inj h).1)
theorem Rx{a b}(h:aE a=aE b):a=b:=Prod.ext (dO.mp (tl h).1) (KD (AV.tup.inj (eh (tl h).2)))
noncomputable def D'(x:Lf):Nat:=match x with|.i3=>3|.i4=>4|.a9 _=>2|.aY _ _=>2|.par _=>9
theorem NL(x:Lf):∃r,x.enc=.tup [iv (D' x),r]:=by cases x<;>exact⟨_,Y⟩
theorem ZL(x)(h:k<2\/k=6):D' x≠k:=λe=>by
 subst e;cases x<;>exact absurd h (by first|exact(():¬(2<2\/2=6))|exact(():¬(9<2\/9=6))|decide)
theorem sk(h:AV.tup [iv k,r]=.tup [iv l,s]):k=l:=dO.mp (tl h).1
theorem tY{x:Lf}{k s}{P:Prop}(h:x.enc=.tup [iv k,s])(n:k<2\/k=6):P:=(NL x).elim λJ e=>absurd (sk (e.symm.trans h)) (ZL x n)
theorem vp{W x y}(b:∀k as,x=.own k as->k<2)(a:∀k as,y=.own k as->k<2)(h:tE W x=tE W y):x=y:=by
 cases x with
 |lf x=>cases y with
  |lf y=>exact aaU Th.lf (Lf.k5 h)
  |own l bs=>exact tY h (.inl (a l bs Y))
  |six=>exact tY h (.inr Y)
 |own l as=>cases y with
  |lf y=>exact tY h.symm (.inl (b l as Y))
  |own m bs=>exact congr (aaU Th.own (sk h)) ((map_inj λJ J=>Rx).mp (AV.tup.inj (eh (tl h).2)))
  |six=>exact absurd (sk h▸b l as Y) ()
 |six=>cases y with
  |lf y=>exact tY h.symm (.inr Y)
  |own m bs=>exact absurd ((sk h).symm▸a m bs Y) ()
  |six=>rfl
theorem Cw(h:AV.keys l=true):(AV.tup [iv k,.tup l]).key=true:=eC h Y
theorem yw(h:x.key=true):AV.keys [x]=true:=eC h Y
theorem qB(h:AV.du l<=n):(AV.tup [iv k,.tup l]).depth<=n+2:=abI (Nat.max_le.mpr ⟨aa9 _,Nat.max_le.mpr ⟨abI h,aa9 _⟩⟩)
theorem Gj(h:x.depth<=n):AV.du [x]<=n:=Nat.max_le.mpr ⟨h,aa9 _⟩
theorem Lf.HY(x):x.enc.key=true/\x.enc.depth<=4*bE x:=by
 induction x with
 |i3=>exact⟨Y,()⟩
 |i4=>exact⟨Y,()⟩
 |par _=>exact⟨Y,(():1<=4)⟩
 |a9 _=>exact⟨Y,(():4<=4)⟩
 |aY b x a=>exact⟨Cw (yw (Cw (yw a.1))),aaS (qB (Gj (qB (Gj a.2)))) (aaX _)⟩
theorem Lf.Cf(x:Lf):x.enc.key=true:=x.HY.1
theorem Lf.E1(x):x.enc.depth<=4*bE x:=x.HY.2
theorem keys_map{b:Type}{f}(h:∀x,(f x).key=true)(l:List b):AV.keys (l.map f)=true:=by
 induction l with
 |nil=>rfl
 |cons a l c=>exact eC (h a) c
theorem EI(a):(aE a).key=true:=eC (keys_map Lf.Cf _) Y
theorem jP(W x):(tE W x).key=true:=by
 cases x with
 |lf x=>exact x.Cf
 |own k as=>exact eC (keys_map EI _) Y
 |six=>exact eC (keys_map EI _) Y
theorem qI{b:Type}{f N}{l:List b}(h:∀x∈l,(f x).depth<=N):AV.du (l.map f)<=N:=by
 induction l with
 |nil=>exact aa9 _
 |cons a l c=>exact Nat.max_le.mpr ⟨h a (.head _),c λx m=>h x (.tail _ m)⟩
def uk(a:AK):Prop:=∀y,a.2=some y->bE y<=4
def aL(W:World)(x:Th):Prop:=(∀k as,x=.own k as->k<2)/\(tE W x).depth<=25
theorem Cm{a}(h:uk a):(aE a).depth<=18:=qB (qI λx m=>aaS x.E1 (abz 4 (h x (Option.mem_toList.mp m))))
theorem wL{W k as}(b:k<2)(h:∀a∈as,uk a):aL W (.own k as):=
 ⟨λl bs e=>by cases e;exact b,aaS (qB (qI λa m=>Cm (h a m))) ()⟩
theorem P9{W}(h:∀a∈W.six,uk a):aL W .six:=
 ⟨(λl bs e=>nomatch e),aaS (qB (qI λa m=>Cm (h a m))) ()⟩
theorem nE(h:bE x<=5):aL W (.lf x):=
 ⟨(λl bs e=>nomatch e),aaS x.E1 (aaS (abz 4 h) ())⟩
theorem U7{W x}{l:List Th}(a:aL W x)(b:∀y∈l,aL W y):tE W x∈l.map (tE W)↔x∈l:=by
 rw[aa6];constructor
 .rintro⟨y,m,e⟩;exact(vp (b y m).1 a.1 e)▸m
 .exactλm=>⟨x,m,Y⟩
theorem V4{W}{l:List Th}(a:∀y∈l,aL W y):AV.du (l.map (tE W))<=25:=qI λx m=>(a x m).2
abbrev ai(σ a:Sg):Prop:=ag [] σ a
theorem ai.get{σ a}(k:ai σ a){n:Nat}{o}(e:σ[n]?=some o):a[n]?=some o:=k.2 n (by simp) o e
theorem ai.app:ai σ (σ++x):=ag.app
theorem ai.set{σ a}(k:ai σ a){n o}(h:σ.length<=n):ai σ (a.set n o):=by
 refine⟨List.length_set▸k.1,λm J o' e=>?_⟩;have:=(abg.mp e).1
 rw[List.getElem?_set_ne (by omega)]
 exact k.get e
theorem ai.chg(k:ai σ a):ag F σ a:=k.mono λn m=>nomatch m
theorem GY(h:b<256):(b&&&96≠0)↔(b.testBit 5=true\/b.testBit 6=true):=(by decide+kernel:∀b<256,(b&&&96≠0)↔(b.testBit 5=true\/b.testBit 6=true)) b h
theorem zj(h:b<256):(b&&&32≠0)↔b.testBit 5=true:=(by decide+kernel:∀b<256,(b&&&32≠0)↔b.testBit 5=true) b h
theorem Co(h:b<256):(b&&&4≠0)↔b.testBit 2=true:=(by decide+kernel:∀b<256,(b&&&4≠0)↔b.testBit 2=true) b h
theorem pY:(b&&&1≠0)↔b.testBit 0=true:=by
 rw[Iq]<;>simp_all
theorem Yr{b:Nat}(h:b<256):Builtin.bitAnd (b) (Builtin.bitNot 129)=((b&&&126:Nat):Int):=(by decide+kernel:∀(b:Nat),b<256->Builtin.bitAnd (b) _=((b&&&126:Nat))) b h
theorem Vv{b:Nat}(h:b<256):Builtin.bitAnd (b) (Builtin.bitNot 128)=((b&&&127:Nat):Int):=(by decide+kernel:∀(b:Nat),b<256->Builtin.bitAnd (b) _=((b&&&127:Nat))) b h
theorem Cs(c:σ[n]?=some (.list a))(d:σ[m]?=some (.list b))(ne:n≠m)(hz:a.length+b.length<=sizeLine)(q:Q (.loc n) (σ.set n (.list (a++b)))):Ok (W.Av n m) σ Q:=⟨a,b,⟨ne,c,d,hz⟩,q⟩
theorem s_:∀{ks b},b<256->(∀k∈ks,k.1<256)->b7 b ks<256
 |[],_,h,_=>h
 |k::ks,b,h,w=>s_ (b:=b|||k.1) (Nat.or_lt_two_pow (n:=8) h (w k abK)) λl m=>w l (abF _ m)
structure nj where
 w:Nat
 rows:Nat
 r0:Nat
 r1:Nat
 box:Nat
def mE(m:Mem):AV:=.tup [.str (cj m.nm),iv m.how,iv m.ms,iv m.ow]
structure cS(σ:Sg)(A:nj)(W:World):Prop where
 w:∃es,σ[A.w]?=some (.dict .str es)/\aO es (.str "n")=some (iv W.n)/\aO es (.str "rows")=some (.loc A.rows)/\aO es (.str "box")=some (.loc A.box)/\aO es (.str "self")=some (iv W.dz)
 rows:σ[A.rows]?=some (.list [.loc A.r0,.loc A.r1])
 r0:σ[A.r0]?=some (.list (W.r0.map mE))
 r1:σ[A.r1]?=some (.list (W.r1.map mE))
 box:σ[A.box]?=some (.list [mE W.bx])
theorem cS.keep{σ a A W}(h:cS σ A W)(k:ai σ a):cS a A W:=by
 obtain⟨es,e,r⟩:=h.w;exact⟨⟨es,k.get e,r⟩,k.get h.rows,k.get h.r0,k.get h.r1,k.get h.box⟩
theorem Li:dG [a] none none (some (-1))=[a]:=by
 unfold dG;simp;rfl
theorem W0:dG [a,b] none none (some (-1))=[b,a]:=by
 unfold dG;simp;rfl
theorem HQ(h:l.length=1\/l.length=2)(q:Q (.tup l.reverse) σ):Ok (d7 (.tup l) .none .none (.int (-1))) σ Q:=by
 have e:dG l none none (some (-1))=l.reverse/\l.length<=2:=by
  rcases l with _|⟨a,_|⟨b,_|⟨c,l⟩⟩⟩
  .exact absurd h ()
  .exact⟨Li,ab7 1⟩
  .exact⟨W0,aaX 2⟩
  .exact h.elim nofun nofun
 refine⟨none,none,some (-1),⟨Y,Y,Y,()⟩,?_⟩;show(dG l none none _).length<=sizeLine/\Q _ σ;rw[e.1,List.length_reverse];exact⟨aaS e.2 (),q⟩
def e6(a:AK):Prop:=a.1<256/\∀y,a.2=some y->bE y<=3
theorem e6.sh(h:e6 a):uk a:=λy e=>by have:=h.2 y e;omega
theorem jh(h:e6 a):a.kind.1<256/\∀x∈a.kind.2,aL W x:=by
 refine⟨h.1,λx b=>?_⟩;obtain⟨y,e,rfl⟩:=fq b;exact nE (by have:=h.2 y e;omega)
theorem uj(h:e6 a):aL W (.lf (Lf.box a)):=by
 refine nE ?_;obtain⟨b,_|x⟩:=a
 .simp[Lf.box,bE]
 .have:=h.2 x Y
  simp[Lf.box,bE];omega
theorem t7{W:World}(hs:W.dz<2){k}:W.own k<2:=by
 unfold World.own;split
 .exact hs
 .decide
theorem Bz{as:List AK}(h:∀a∈as,e6 a):e6 (as.headD (0,none)):=(uz (as:=as) Y).elim (h _) λm=>m▸⟨(),λy e=>nomatch e⟩
theorem E'{as:List AK}(h:∀a∈as,e6 a):e6 (as.getLastD (0,none)):=(u_ (as:=as) Y).elim (h _) λm=>m▸⟨(),λy e=>nomatch e⟩
def rE(W:World)(m:Mem×Kind):AV:=.tup [.str (cj m.1.nm),kE W m.2,iv m.1.ms,iv m.1.ow]
theorem Po(h:W.own k=W.own k'):cell W k how as=cell W k' how as:=by
 unfold cell;rw[h]
noncomputable def lh(W:World):Th->Option (Nat×List AK)
 |.own k as=>some (k,as)
 |.six=>some (6,W.six)
 |.lf (.a9 b)=>some (2,[(b,none)])
 |.lf (.aY b x)=>some (2,[(b,some x)])
 |.lf .i3=>some (3,[])
 |.lf .i4=>some (4,[])
 |.lf (.par _)=>none
theorem nL(h:lh W x=some (k,as)):tE W x=.tup [iv k,.tup (as.map aE)]:=by
 cases x with
 |own l bs=>cases h;rfl
 |six=>cases h;rfl
 |lf x=>
  cases x with
  |par i=>cases h
  |i3=>cases h;rfl
  |i4=>cases h;rfl
  |a9 b=>cases h;rfl
  |aY b x=>cases h;rfl
structure iZ(W x):Prop where
 ne:∃k as,lh W x=some (k,as)/\(∀a∈as,e6 a)/\(k≠3->k≠4->as.length=1\/as.length=2)
 own:∀k as,x=.own k as->k<2
def fS(f:Nat×Nat×Bool×Nat):AV:=.tup [.str (cj f.1),iv f.2.1,.bool f.2.2.1,iv f.2.2.2]
theorem UW(f g):PyData.eqv (toPy (fS f)) (toPy (fS g))=decide (f=g):=by
 obtain⟨a,b,c,d⟩:=f;obtain⟨m,l,h,j⟩:=g;have e2 (x y:Nat):decide ((x)=(y:Int))=decide (x=y):=kU ⟨abC,aaU _⟩;have i:PyData.eqv (toPy (.bool c)) (toPy (.bool h))=decide (c=h):=by cases c<;>cases h<;>rfl
 show((cj a==cj m)&&(decide ((b)=(l:Int))&&(PyData.eqv (toPy (.bool c)) (toPy (.bool h))&&(decide ((d)=(j:Int))&&true))))=_;rw[(abP.mpr (abc.trans (qq.trans decide_eq_true_iff.symm))),e2,e2,i,Bool.and_true,←Bool.decide_and,←Bool.decide_and,←Bool.decide_and];exact kU ⟨λ⟨p,q,r,s⟩=>congr (aaU _ p) (congr (aaU _ q) (congr (aaU _ r) s)),λe=>⟨aaU (·.1) e,aaU (·.2.1) e,aaU (·.2.2.1) e,aaU (·.2.2.2) e⟩⟩
theorem J'(l:List (Nat×Nat×Bool×Nat)):∀m,PyData.eqvAll (fB (l.map fS)) (fB (m.map fS))=decide (l=m):=by
 induction l with
 |nil=>intro m;cases m<;>rfl
 |cons f l a=>
  intro m;cases m with
  |nil=>rfl
  |cons g m=>
   show(PyData.eqv (toPy (fS f)) (toPy (fS g))&&PyData.eqvAll (fB _) (fB _))=_;rw[UW,a,←Bool.decide_and];exact kU ⟨λe=>congr (aaU _ e.1) e.2,List.cons.inj⟩
theorem wj(l:List (Nat×Nat×Bool×Nat)):(∀f∈l,f.1<128)->AV.e_ (l.map fS)=true/\AV.du (l.map fS)<=1:=by
 induction l with
 |nil=>exactλJ=>⟨Y,aa9 _⟩
 |cons f l a=>exactλh=>⟨eC (show(PyData.strOk _&&true)=true from eC (pW (h f (.head _))) Y) (a λg m=>h g (.tail _ m)).1,Nat.max_le.mpr ⟨aaX 1,(a λg m=>h g (.tail _ m)).2⟩⟩
theorem PC{σ n m}{l k:List (Nat×Nat×Bool×Nat)}(b:σ[n]?=some (.list (l.map fS)))(c:σ[m]?=some (.list (k.map fS)))(a:∀f∈l,f.1<128)(d:∀f∈k,f.1<128){Q}(q:Q (.bool (decide (l=k))) σ):Ok (Mine.Internal.fe (.loc n) (.loc m)) σ Q:=
 ⟨_,.list n m _ _ Y Y b c (wj l a).1 (wj k d).1 (aaS (wj l a).2 ()) (J' l k).symm,q⟩
def pE(W:World)(p:Kind×Kind):AV:=.tup [kE W p.1,kE W p.2]
theorem G2(h:∀k∈ks,k.1<256):(aS ks).1<256:=
 nk (P:=λk=>k.1<256) (():32<256) (():64<256) λJ J=>zJ (s_ () h)
def eS(W:World)(k:Kind):Prop:=k.1<256/\∀x∈k.2,aL W x
theorem K9(h:∀k∈ks,eS W k):eS W (aS ks):=by
 refine⟨G2 λk m=>(h k m).1,λx a=>?_⟩;obtain⟨k,mk,m⟩:=pR a;exact(h k mk).2 x m
theorem Ye{W}(hs:W.dz<2){k how as}(c:∀a∈as,e6 a):eS W (cell W k how as):=by
 have d:=Bz c;have f:=E' c;have one {x} (h):eS W (0,[x]):=⟨(():0<256),λy m=>aaT.mp m▸h⟩;have nil {b} (h:b<256):eS W (b,[]):=⟨h,nofun⟩;have two {a b} (c i):eS W (aS [a,b]):=K9 λk m=>(aa5.mp m).elim (·▸c) λm=>aaT.mp m▸i;exact i8 (jh d) (jh f) (two (jh d) (nil ())) (one (wL (t7 hs) λa m=>(c a m).sh)) (one (wL (t7 hs) λa m=>(c a (List.mem_reverse.mp m)).sh)) (two (one (uj f)) (jh d)) (one (nE ())) (one (uj d)) (one (nE ())) (λJ J J J=>nil ()) how
theorem JN(hs:W.dz<2)(f:iZ W x):∀m∈bW W x,eS W m.2/\m.2.2.length<=2:=by
 obtain⟨k,as,e,a,j⟩:=f.ne;have gen:∀(k as)(l:List Mem),_->∀m∈l.map λm=>(m,cell W k m.how as),eS W m.2/\m.2.2.length<=2:=λk as l a m c=>by
  obtain⟨r,h,rfl⟩:=aa6.mp c;exact⟨Ye hs a,tW ..⟩
 have d:∀m∈[(mP,((1,[])))],eS W m.2/\m.2.2.length<=2:=λm c=>by
  rw[aaT] at c;subst c;exact⟨⟨(),λy m=>nomatch m⟩,()⟩
 cases x with
 |own l bs=>cases e;exact gen _ _ _ a
 |six=>cases e;exact gen _ _ _ a
 |lf x=>
  cases x with
  |par i=>cases e
  |i3=>exact d
  |i4=>exact d
  |a9 b=>cases e;exact gen _ _ _ a
  |aY b x=>cases e;exact gen _ _ _ a
theorem aG.imp_mem(h:aG R l m):(∀a∈l,∀b,R a b->S a b)->aG S l m:=
 h.ind (P:=λl m=>(∀a∈l,∀b,R a b->S a b)->aG S l m) (λJ=>trivial) λa b J J x J r k=>⟨k a (.head _) b x,r λa m=>k a (.tail _ m)⟩
theorem aG.tl(h:aG R (a::l) (b::m)):aG R l m:=h.2
theorem FF(h:lh W x=some (k,as))(a:∀k as,x=.own k as->k<2):c8 x=if k<3 then some (k,as) else none:=by
 cases x with
 |own l bs=>cases h;have:=a _ _ Y;rw[abn (by omega)];rfl
 |six=>cases h;rfl
 |lf x=>
  cases x with
  |par i=>cases h
  |i3=>cases h;rfl
  |i4=>cases h;rfl
  |a9 b=>cases h;rfl
  |aY b x=>cases h;rfl
def cO(W:World)(p:Th×Th):AV:=.tup [tE W p.1,tE W p.2]
theorem nF(W p):(cO W p).key=true:=eC (jP W _) (yw (jP W _))
theorem rP{W p}{l:List (Th×Th)}(hp:aL W p.1/\aL W p.2)(a:∀q∈l,aL W q.1/\aL W q.2):cO W p∈l.map (cO W)↔p∈l:=by
 rw[aa6];constructor
 .rintro⟨q,m,e⟩;injection e with e;injection e with e1 e;injection e with e2 _;exact(Prod.ext (vp (a q m).1.1 hp.1.1 e1) (vp (a q m).2.1 hp.2.1 e2))▸m
 .exactλm=>⟨p,m,Y⟩
theorem vN{W}{l:List (Th×Th)}(a:∀q∈l,aL W q.1/\aL W q.2):AV.du (l.map (cO W))<=26:=qI λp m=>
  abI (Nat.max_le.mpr ⟨(a p m).1.2,Nat.max_le.mpr ⟨(a p m).2.2,aa9 _⟩⟩)
theorem AI(b:aL W x)(a:aL W y):decide (tE W x=tE W y)=decide (x=y):=by
 rw[abP,abr,abr];exact⟨vp b.1 a.1,λe=>by rw[e]⟩
theorem HX{a b:Nat}:((a):Int).fdiv (2^((b:Int)).toNat)=((a>>>b:Nat):Int):=by
 rw[Nat.shiftRight_eq_div_pow];exact((by simp:(2^((b:Int)).toNat)=((2^b):Int)))▸(Int.ofNat_fdiv a (2^b)).symm
theorem sF:(b>>>k)&&&1≠0↔b.testBit k=true:=by
 rw[pY];simp
theorem Ia(l:List Bool):AV.e_ (l.map .bool)=true/\AV.du (l.map .bool)=0:=by
 induction l with
 |nil=>exact⟨Y,Y⟩
 |cons b l a=>assumption
theorem JP(a b):e7 (.bool a) (.bool b)=decide (a=b):=by cases a<;>cases b<;>rfl
theorem Hn(q:Q (.bool !(decide (a=b))) σ):Ok (Mine.Internal.fv (.bool a) (.bool b)) σ Q:=⟨⟨Y,Y,aa9 _⟩,JP a b▸q⟩
theorem DC{σ}{l:List Bool}{b pos Q}(q:Q (.bool (decide (b∈l)==pos)) σ):Ok (oK pos (.bool b) (l.map .bool)) σ Q:=by
 have any:((l.map AV.bool).any λa=>e7 a (.bool b))=decide (b∈l):=by
  clear q;induction l with
  |nil=>rfl
  |cons a l c=>
   rw[abM,List.any_cons,c,JP,←Bool.decide_or];exact kU ⟨λh=>h.elim (λe=>e▸.head _) (.tail _),λm=>(aa5.mp m).imp Eq.symm id⟩
 exact⟨⟨⟨(Ia l).1,Y⟩,(Ia l).2▸aa9 _⟩,any.symm▸(show(decide _==pos)=(bif pos then decide _ else !decide _) from by cases pos<;>cases decide (b∈l)<;>rfl)▸q⟩
def dF(a:List (Th×Th))(x y:Th):Bool:=decide ((x,y)∈a)
theorem x2{a:Type}{f}{l:List a}:decide (true∈l.map f)=l.any f:=by
 rw[abP,abr,aa6,List.any_eq_true]
theorem filter_all(l:List a):decide ((l.filter f).length=l.length)=l.all f:=by
 rw[abP,abr,abd,List.length_filter_eq_length_iff]
theorem QG(f:a<256)(d:b<256):((a|||b)&&&64≠0)↔(a.testBit 6=true\/b.testBit 6=true):=by
 rw[(by decide+kernel:∀c,c<256->((c&&&64≠0)↔c.testBit 6=true)) _ (Nat.or_lt_two_pow (n:=8) f d),Nat.testBit_or,Bool.or_eq_true]
theorem JO(h:∀x∈a.2,∀y∈b.2,x≠y->br W x y->(x,y)∈i)(l:aQ W a b):dH (dF i) a b=true:=by
 unfold dH;simp[dF];rcases l with l|l|⟨l1,l2,f,l4⟩
 .exact .inl (.inl l)
 .exact .inl (.inr l)
 .refine .inr ⟨⟨⟨l1,l2⟩,λx d=>?_⟩,λy c=>?_⟩
  .obtain⟨y,c,o⟩:=f x d;refine⟨y,c,?_⟩;by_cases e:x=y
   .exact .inl e
   .exact .inr (h x d y c e (o.resolve_left e))
  .obtain⟨x,d,o⟩:=l4 y c;refine⟨x,d,?_⟩;by_cases e:x=y
   .exact .inl e
   .exact .inr (h x d y c e (o.resolve_left e))
def tv(W:World)(a:List (Th×Th))(p:Th×Th):Bool:=(de W p.1 p.2).any λr=>r.all λq=>dH (dF a) q.1 q.2
def nW(W:World)(ps a:List (Th×Th)):List (Th×Th):=ps.filter λp=>decide (p∈a)&&tv W a p
def yN(W:World)(ps:List (Th×Th)):Prop:=∀p∈ps,∀r∈de W p.1 p.2,∀q∈r,∀x∈q.1.2,∀y∈q.2.2,x≠y->(x,y)∈ps
structure jk(W)(ps al:List (Th×Th)):Prop where
 sub:al=ps.filter λp=>decide (p∈al)
 all:∀p∈ps,br W p.1 p.2->p∈al
theorem jk.init:jk W ps ps:=by
 refine⟨?_,λp m J=>m⟩;rw[List.filter_eq_self.mpr];exactλp=>aba
theorem jk.step(c:yN W ps)(h:jk W ps b):jk W ps (nW W ps b):=by
 refine⟨?_,λp a l=>?_⟩
 .refine List.filter_congr λp a=>?_;have:p∈nW W ps b↔(decide (p∈b)&&tv W b p)=true:=by
   unfold nW;rw[abZ];exact⟨λh=>h.2,λh=>⟨a,h⟩⟩
  rw[abP,abr,this]
 .refine abZ.mpr ⟨a,?_⟩;rw[abY,abr];refine⟨h.all p a l,?_⟩;obtain⟨r,f,d⟩:=l.step;exact List.any_eq_true.mpr ⟨r,f,abd.mpr λq i=>(JO (λx m y j ne=>h.all _ (c p a r f q i x m y j ne)) (d q i))⟩
theorem UX{a:Type}{f g:a->Bool}{l:List a}(h:(l.filter λx=>f x&&g x).length=(l.filter f).length)(x)(m:x∈l)(e:f x=true):g x=true:=by
 have b:((l.filter f).filter g).length=(l.filter f).length:=by rw[List.filter_filter,←h];exact aaU List.length (List.filter_congr λx J=>Bool.and_comm ..)
 exact List.length_filter_eq_length_iff.mp b x (abZ.mpr ⟨m,e⟩)
theorem jk.fin{W}{ps a}(h:jk W ps a)(e:(nW W ps a).length=a.length):∀p,p∈a↔p∈ps/\br W p.1 p.2:=by
 have sub:∀p∈a,p∈ps:=λp m=>(abZ.mp (h.sub▸m)).1;have like:∀p∈a,br W p.1 p.2:=λp m=>by
  refine br.co (R:=λx y=>(x,y)∈a) (λx y r=>?_) (m);have g:=(λp m=>UX (h.sub▸e:(ps.filter λp=>decide (p∈a)&&tv W a p).length=(ps.filter λp=>decide (p∈a)).length) p (sub p m) (aba m)) _ r;obtain⟨rd,b,g⟩:=List.any_eq_true.mp g;exact⟨rd,b,λq c=>((qE (abd.mp g q c)).mono λx J y J h=>.inl (abl h))⟩
 exactλp=>⟨λm=>⟨sub p m,like p m⟩,λ⟨m,l⟩=>h.all p m l⟩
theorem Q2(h:jk W ps a):(nW W ps a).length<=a.length:=by
 conv=>rhs;rw[h.sub]
 exact HM (λp h=>by rw[abY] at h;exact h.1) ps
theorem Nx{W}{ps d:List (Th×Th)}(h:∀p,p∈d↔p∈ps/\br W p.1 p.2){a b}(c:∀x∈a.2,∀y∈b.2,x≠y->(x,y)∈ps):dH (dF d) a b=true↔aQ W a b:=by
 constructor
 .intro e;exact(qE e).mono λx J y J m=>((h _).mp (abl m)).2
 .exact JO λx i y f ne l=>(h _).mpr ⟨c x i y f ne,l⟩
def UK(W:World)(U:List Th)(k:Kind):Prop:=(∀z∈k.2,z∈U)/\k.1<256/\k.2.length<=100
structure Un(W)(U:List Th):Prop where
 look:∀x∈U,iZ W x/\bG W x/\aL W x
 len:U.length<=60
 Ba:∀x∈U,∀y∈U,∀r∈de W x y,∀q∈r,UK W U q.1/\UK W U q.2
 wQ:∀x∈U,∀y∈U,(de W x y).flatten.length<=6
structure CX where
 W:World
 U:List Th
 A:nj
 asked:List (Kind×Kind)
 bc:Sg
 t:Nat
 p:Nat
 wy:Nat
theorem QQ{U:List Th}:∀{ps:List (Th×Th)},ps.Nodup->(∀p∈ps,p.1∈U/\p.2∈U)->ps.length<=U.length*U.length:=by
 intro ps nd h;have:=lR nd λp a=>sN.mpr (h p a)
 rw[pairs_len] at this
 exact this
structure KC(C:CX)(L:Loc)(at_):Prop where
 w:L.lookup 277=some (.loc C.A.w)
 t:L.lookup 263=some (.loc C.t)
 p:L.lookup 199=some (.loc C.p)
 wy:L.lookup 279=some (.loc C.wy)
 a:L.lookup 101=some (iv at_)
theorem KC.set{C L a}(h:KC C L a){x v}(b:x≠277/\x≠263/\x≠199/\x≠279/\x≠101):KC C (aT L x v) a:=by
 obtain⟨j,i,f,d,c⟩:=b;refine⟨?_,?_,?_,?_,?_⟩<;>rw[mD]
 .rw[aa_ (Ne.symm j)];exact h.w
 .rw[aa_ (Ne.symm i)];exact h.t
 .rw[aa_ (Ne.symm f)];exact h.p
 .rw[aa_ (Ne.symm d)];exact h.wy
 .rw[aa_ (Ne.symm c)];exact h.a
theorem KC.of{C L b a}(h:KC C L a)(e:∀z,z≠224->z≠284->z≠283->b.lookup z=L.lookup z):KC C b a:=
 ⟨(e _ () () ()).trans h.w,(e _ () () ()).trans h.t,(e _ () () ()).trans h.p,(e _ () () ()).trans h.wy,(e _ () () ()).trans h.a⟩
section
variable{C:CX}(u:Un C.W C.U)(hw:C.W.Ok)(ha:C.asked.length<=10)
include u hw ha
def sT(ps:List (Th×Th))(q:Kind×Kind):Prop:=∀x∈q.1.2,∀y∈q.2.2,x=y\/(x,y)∈ps
end
theorem Qz{a:Type}{f}{l:List a}:(decide (false∈l.map f)==false)=l.all f:=by
 rw[abP,abc,decide_eq_false_iff_not,aa6,abd];constructor
 .intro h x m;cases e:f x
  .exact absurd ⟨x,m,e⟩ h
  .rfl
 .rintro h ⟨x,m,e⟩;rw[h x m] at e;cases e
section
variable{Φ:aR}{L:Loc}{σ:Sg}
end
theorem XS:k7.Nodup:=()
theorem Ze:∀r∈k7,r.ok=true:=by decide+kernel
theorem PJ:yX=.tup (k7.map Row.enc):=by rfl
structure A5(σ T):Prop where
 tab:Tab σ T k7
 decls:σ[T.decls]?=some (.list [.none])
 bounds:σ[T.bounds]?=some (.list [])
 defaults:σ[T.defaults]?=some (.list [])
 names:σ[T.names]?=some (.list [])
noncomputable def tabAt(t s:Nat):TH:=⟨t,s,s+1,s+2,s+3,s+4,s+5,s+6,s+7⟩
def fJ(σ:Sg)(a did:Nat):Prop:=∃fs,σ[a]?=some (.inst 201 fs)/\fs.length<=20/\fs.lookup 125=some (iv did)/\fs.lookup 104=some (.tup [])/\fs.lookup 200=some (.tup [])
theorem Tab.keep(t:Tab σ T τ)(k:ai σ a):Tab a T τ:=t.chg k (λm=>nomatch m) (λm=>nomatch m) λm=>nomatch m
def bA(l:List Nat):Prop:=l.Pairwise (·<·)
theorem Z6(h:bA l):jv (l.map cj):=by
 unfold jv;rw[List.pairwise_map];refine h.imp λ{a b}h=>?_;rw[decide_eq_false_iff_not];intro c;have:=List.cons_lt_cons_iff.mp c
 omega
def fE(p:a_):AV×AV:=(.str (cj p.nm),p.enc)
theorem ND(h:∀q∈l,q.nm≠p.nm):aM (l.map fE) (.str (cj p.nm)) p.enc=(l++[p]).map fE:=by
 unfold aM;rw[aa_]
 .rw[abA];rfl
 .intro e;obtain⟨x,m,e⟩:=List.any_eq_true.mp e;obtain⟨q,a,rfl⟩:=aa6.mp m;have e:=abl e;injection e with e;exact h q a (qq.mp e)
theorem OU{l:List a_}(nd:bA (l.map a_.nm)){p}(h:p∈l):aO (l.map fE) (.str (cj p.nm))=some p.enc:=by
 induction l with
 |nil=>cases h
 |cons q l c=>
  rw[abM] at nd⊢;have a:=List.pairwise_cons.mp nd;unfold aO;rw[List.find?_cons];by_cases e:q.nm=p.nm
  .have:q=p:=by
    rcases aa5.mp h with h|h
    .exact h.symm
    .have:=a.1 p.nm (aa6.mpr ⟨p,h,Y⟩)
     omega
   subst this
   simp[fE]
  .have ne:decide ((fE q).1=AV.str (cj p.nm))=false:=by
    rw[decide_eq_false_iff_not];intro b;injection b with b;exact e (qq.mp b)
   exact ne▸(c a.2 ((aa5.mp h).elim (λh=>absurd Y (h▸e)) λh=>h))
structure BH where
 A:nj
 T:TH
 d_:Nat
 params:Nat
 pid:Nat->Nat
structure cq(B:BH)(W)(σ τ):Prop where
 tab:Tab σ B.T τ
 base:Base τ
 w:cS σ B.A W
 wd:∃es,σ[B.A.w]?=some (.dict .str es)/\aO es (.str "dids")=some (.loc B.d_)/\aO es (.str "params")=some (.loc B.params)
 d_:σ[B.d_]?=some (.list [iv 1,iv 2,iv 3,iv 4])
 params:∃l:List Nat,σ[B.params]?=some (.list (l.map iv))/\∀i<5,l[i]?=some (B.pid i)
 par:∀i<5,τ[B.pid i]?=some (.par i)
 ne:∀a∈[B.A.w,B.A.rows,B.A.r0,B.A.r1,B.A.box,B.d_,B.params],a∉[B.T.rows,B.T.index]
theorem cq.dK(h:cq B W σ τ)(o:bg σ B.T τ c b a):cq B W b a:=by
 obtain⟨es,e,r⟩:=h.w.w;obtain⟨es',p,d⟩:=h.wd;obtain⟨l,j,f⟩:=h.params;have ne:=h.ne;refine⟨o.tab,h.base.mono o.pre,⟨⟨es,o.chg.get e (ne _ (aK 0 Y)),r⟩,o.chg.get h.w.rows (ne _ (aK 1 Y)),o.chg.get h.w.r0 (ne _ (aK 2 Y)),o.chg.get h.w.r1 (ne _ (aK 3 Y)),o.chg.get h.w.box (ne _ (aK 4 Y))⟩,⟨es',o.chg.get p (ne _ (aK 0 Y)),d⟩,o.chg.get h.d_ (ne _ (aK 5 Y)),⟨l,o.chg.get j (ne _ (aK 6 Y)),f⟩,λi m=>cU o.pre (h.par i m),ne⟩
theorem QL(t:Tab σ T τ)(k:ai σ a):bg σ T τ 0 a τ:=⟨t.keep k,k.chg,abp _,aaX _⟩
theorem cq.keep(h:cq B W σ τ)(k:ai σ a):cq B W a τ:=h.dK (QL h.tab k)
structure fM(k:Kind):Prop where
 lt:k.1<256
 any:k.1.testBit 5=true->k=(32,[])
 err:k.1.testBit 6=true->k=(64,[])
 Wy:dr k.1=k.1
 nd:k.2.length<=10
theorem nv(w:aJ W k)(h:k.2.length<=10):fM k:=by
 refine⟨w.lt,w.any,w.err,?_,h⟩;refine Nat.eq_of_testBit_eq λj=>?_;by_cases d:j<8
 .rw[qS d];cases f:k.1.testBit 2
  .cases l:k.1.testBit 0
   .simp
   .have:=w.a0 l
    by_cases e:j=7
    .subst e;rw[this];rfl
    .simp[e]
  .obtain⟨a,b⟩:=w.s0 f;by_cases c:j=0
   .subst c;rw[a];rfl
   .by_cases e:j=7
    .subst e;rw[b];rfl
    .simp[e,c]
 .have i:=Nat.testBit_lt_two_pow (abb w.lt (show 2^8<=2^j from Nat.pow_le_pow_right () (by omega)))
  rw[i,(Nat.testBit_lt_two_pow (abb (zJ w.lt) (show 2^8<=2^j from Nat.pow_le_pow_right () (by omega))))]
noncomputable def unitsOf(b:Nat):List Nat:=(List.range 8).filter λj=>b.testBit j
theorem XD(h:fM k):dw (aS ((k.2.map λx=>(0,[x]))++(unitsOf k.1).map λj=>(2^j,[]))) k:=by
 have bits:∀j,(b7 0 ((k.2.map λx=>((0,[x])))++(unitsOf k.1).map λj=>(2^j,[]))).testBit j=k.1.testBit j:=λj=>by
  rw[abP,hV];constructor
  .rintro(e|⟨k',mk,e⟩)
   .simp at e
   .rcases abq.mp mk with m|m
    .obtain⟨x,_,rfl⟩:=aa6.mp m;simp at e
    .obtain⟨u,mu,rfl⟩:=aa6.mp m;rw[ou,abr] at e;subst e;exact(abZ.mp mu).2
  .intro e;have f:j<8:=by
    rcases Nat.lt_or_ge j 8 with l|l
    .exact l
    .rw[Nat.testBit_lt_two_pow (abb h.lt (show 2^8<=2^j from Nat.pow_le_pow_right () l))] at e;cases e
   exact .inr ⟨_,abi _ (aa6.mpr ⟨j,abZ.mpr ⟨List.mem_range.mpr f,e⟩,Y⟩),by rw[ou];exact aba Y⟩
 unfold aS;rw[(Nat.eq_of_testBit_eq bits)];by_cases c:k.1.testBit 5=true
 .rw[abn c,h.any c];exact dw.refl _
 rw[aa_ c];by_cases b:k.1.testBit 6=true
 .rw[abn b,h.err b];exact dw.refl _
 rw[aa_ b];refine⟨h.Wy,λx=>?_⟩;rw[jW];constructor
 .rintro(m|⟨k',mk,m⟩)
  .cases m
  .rcases abq.mp mk with a|a
   .obtain⟨y,d,rfl⟩:=aa6.mp a;rw[aaT] at m;subst m;exact d
   .obtain⟨u,mu,rfl⟩:=aa6.mp a;cases m
 .intro m;exact .inr ⟨_,abe _ (aa6.mpr ⟨x,m,Y⟩),aaT.mpr Y⟩
noncomputable def oD(c b a:Nat):List Nat:=[c,b,6,5,4,0,13,a]
theorem Mi(c:σ[n]?=some (.list a))(d:σ[m]?=some (.list b))(hz:a.length+b.length<=sizeLine)(q:Q (.loc σ.length) (σ++[.list (a++b)])):Ok (W.EU n m) σ Q:=⟨a,b,⟨c,d,hz⟩,q⟩
theorem Yx{xs vs}(h:aG (IsT W τ) xs vs):aG (aB W τ) (xs.map λx=>(0,[x])) vs:=
 h.ind (P:=λxs=>aG (aB W τ) (xs.map λx=>(0,[x]))) trivial λJ J J J x J=>And.intro (fD x)
theorem Xx{l:List Nat}:(∀j∈l,a6 τ j (f j))->aG (aB W τ) (l.map λj=>(2^j,[])) (l.map f):=by
 induction l with
 |nil=>exactλJ=>trivial
 |cons j l a=>exactλh=>And.intro (mn (h j (.head _))) (a λx m=>h x (.tail _ m))
theorem XZ{ms ps}(h:aG (dC W τ) ms ps):ps.map a_.nm=ms.map λm=>m.1.nm:=
 h.ind (P:=λ(ms:List _)(ps)=>ps.map a_.nm=ms.map λm=>m.1.nm) Y λm p ms ps x J=>congr (aaU List.cons x.1)
def nY:Lf->Prop
 |.i3=>True
 |.i4=>True
 |.par i=>i<5
 |.a9 b=>fM (b,[])
 |.aY b x=>fM (b,[.lf x])/\nY x
def we(a:AK):Prop:=fM a.kind/\∀x,a.2=some x->nY x
theorem Jf:∀{x},d8 x->nY x
 |.i3,_=>trivial
 |.i4,_=>trivial
 |.par _,h=>h.elim
 |.a9 b,h=>nv (W:=w0) (dN (a:=(b,none)) h) (aa9 _)
 |.aY b x,h=>⟨nv (W:=w0) (dN (a:=(b,some x)) h) (():1<=10),Jf h.2⟩
theorem qv(h:dZ a):we a:=by
 refine⟨nv (W:=w0) (dN h) (by have:=gU a;omega),λx e=>?_⟩
 obtain⟨b,_|y⟩:=a
 .cases e
 .cases e;exact Jf h.2
theorem RT(h:we a):nY (Lf.box a):=by
 obtain⟨b,_|y⟩:=a
 .exact h.1
 .exact⟨h.1,h.2 y Y⟩
theorem CC:fM (1,[]):=nv (W:=w0) (ki j5) (aa9 _)
theorem Tj(h:aB W τ (1,[]) i):PK τ 1 [] i:=by
 obtain⟨vs,a,p⟩:=h;cases vs with
 |nil=>exact p
 |cons=>exact a.elim
def d9(a:AK):Prop:=we a/\∀x,a.2=some x->bE x<=3
theorem d9.ok(h:d9 a):e6 a:=⟨h.1.1.lt,h.2⟩
theorem NZ(h:∀k∈ks,k.1<256)(a:(ks.map λk=>k.2.length).sum<=10):fM (aS ks):=
 nk (P:=λk=>k.1<256->k.2.length<=10->fM k) (λJ J=>nv (W:=w0) (ki ⟨(),λJ=>⟨Y,Y⟩,(),(),()⟩) (aa9 _)) (λJ J=>nv (W:=w0) (ki ⟨(),(),λJ=>⟨Y,Y⟩,(),()⟩) (aa9 _))
  (λd c lt ln=>⟨lt,λe=>absurd (d.symm.trans (rh e)) aaY,λe=>absurd (c.symm.trans (rh e)) aaY,(show∀b<256,dr (dr b)=dr b by decide+kernel) _ (s_ () h),ln⟩) (G2 h) (aaS E9 a)
theorem rA{as:List AK}(h:∀a∈as,d9 a):d9 (as.headD (0,none)):=(uz (as:=as) Y).elim (h _) λm=>m▸⟨qv rN,λy e=>nomatch e⟩
theorem xg{as:List AK}(h:∀a∈as,d9 a):d9 (as.getLastD (0,none)):=(u_ (as:=as) Y).elim (h _) λm=>m▸⟨qv rN,λy e=>nomatch e⟩
theorem rk:fM (0,[x]):=⟨(():0<256),λe=>absurd (show(0:Nat).testBit 5=true from e) (),λe=>absurd (show(0:Nat).testBit 6=true from e) (),(():dr 0=0),(():1<=10)⟩
theorem N1{W k how as}(h:∀a∈as,d9 a):fM (cell W k how as):=by
 have c:=rA h;have l0:=gU (as.headD (0,none));have two {a b} (i f) (d:a.2.length+b.2.length<=10):fM (aS [a,b]):=NZ (λk m=>(aa5.mp m).elim (·▸i) λm=>aaT.mp m▸f) d;exact i8 c.1.1 (xg h).1.1 (two c.1.1.lt () (aaS l0 ())) rk rk (two (():0<256) c.1.1.lt (aaS (aa3 l0 1) ())) rk rk rk (λJ J J J=>CC) how
def qo(W:World)(k:Nat)(as:List AK)(z:Th):Prop:=(∃y,z=.lf y/\nY y/\bE y<=5)\/z=.own (W.own k) as\/z=.own (W.own k) as.reverse
theorem Cx{W k how as}(h:∀a∈as,d9 a):∀z∈(cell W k how as).2,qo W k as z:=by
 have d {a} (c:d9 a):∀z∈a.kind.2,qo W k as z:=λz i=>by
  obtain⟨y,e,rfl⟩:=fq i;exact .inl ⟨y,Y,c.1.2 y e,aaS (c.2 y e) ()⟩
 have f {a} (c:d9 a):qo W k as (.lf (Lf.box a)):=by
  refine .inl ⟨_,Y,RT c.1,?_⟩;obtain⟨b,_|x⟩:=a
  .exact(():1<=5)
  .exact abI (Nat.le_succ_of_le (c.2 x Y))
 have one {x} (h):∀z∈([x]),qo W k as z:=λz m=>aaT.mp m▸h;exact i8 (P:=λJ K=>∀z∈K.2,qo W k as z) (d (rA h)) (d (xg h)) (nI (d (rA h)) nofun) (one (.inr (.inl Y))) (one (.inr (.inr Y))) (nI (one (f (xg h))) (d (rA h))) (one (.inl ⟨.i3,Y,trivial,()⟩)) (one (f (rA h))) (one (f ⟨qv j5,λy e=>nomatch e⟩)) (λJ J J J=>nofun) how
section
variable{B:BH}{W:World}(h0:W.r0.length<=100)(h1:W.r1.length<=100)
include h0 h1
end
theorem FV(h:∀a∈as,d9 a):xJ (cell W k how as):=λz b e=>by
 subst e
 rcases Cx h _ b with⟨y,e,_⟩|e|e<;>cases e
theorem IA(n:xJ m.2)(h:dC W τ m p):eR τ m p:=by
 obtain⟨a,b,c,vs,d,e⟩:=h;exact⟨a,b,c,vs,(d.imp_mem λx f v=>(wU (n x f)).mp),e⟩
def bL(σ:Sg)(d m:Nat)(nums:List Nat):Prop:=d≠m/\(∃a,σ[d]?=some (.list [iv a,.loc m]))/\σ[m]?=some (.list (nums.map iv))/\nums≠[]/\nums.length<=64
theorem bL.keep(h:bL σ d m nums)(k:ai σ b):bL b d m nums:=by
 obtain⟨j,⟨a,i⟩,f,c⟩:=h;exact⟨j,⟨a,k.get i⟩,k.get f,c⟩
theorem GV{a b:Nat}:((a):Int).fmod (b)=((a%b:Nat):Int):=(Int.ofNat_fmod a b).symm
def iI:List AK:=a7.take 16
theorem Sx:o3=.tup (iI.map aE):=by rfl
noncomputable def iW(b:Nat):Nat:=if b&&&129≠0 then b^^^129 else b
noncomputable def Dc:Lf->Lf
 |.i3=>.i4
 |.i4=>.i3
 |.par i=>.par i
 |.a9 b=>.a9 (iW b)
 |.aY b x=>.aY (iW b) (Dc x)
def t5(a:AK):AK:=(iW a.1,a.2.map Dc)
theorem J7{b:Nat}(h:b<256):Builtin.bitXor (b) 129=((b^^^129:Nat):Int)/\Builtin.bitXor (b) 0=(b):=(by decide+kernel:∀(b:Nat),b<256->Builtin.bitXor (b) 129=((b^^^129:Nat))/\Builtin.bitXor b 0=(b)) b h
def sW:Lf->Prop
 |.i3=>True
 |.i4=>True
 |.par _=>False
 |.a9 b=>b<256
 |.aY b x=>b<256/\sW x
noncomputable def rT:Lf->Nat
 |.a9 _=>1
 |.aY _ x=>rT x+1
 |_=>0
theorem wi:∀a∈iI,a.1<256/\a∈a7/\t5 a∈a7/\(∃b∈a7,aS [a.kind,(16,[])]=b.kind):=by
 intro a ma;have:=abd.mp (by decide+kernel:(iI.all λa=>decide (a.1<256)&&decide (a∈a7)&&decide (t5 a∈a7)&&a7.any λb=>decide (aS [a.kind,(16,[])]=b.kind))=true) a ma
 simp only[abY,abr,List.any_eq_true] at this
 exact⟨this.1.1.1,this.1.1.2,this.1.2,this.2⟩
theorem TO:∀a∈iI,∀x,a.2=some x->(sW x/\rT x<=5)/\bE x<=3:=by
 intro a ma x e;have m:x=.i4\/x=.i3\/x=.a9 1\/x=.aY 0 .i3:=by
  have:=abd.mp (by decide+kernel:(iI.all λa=>match a.2 with|none=>true|some x=>decide (x=.i4\/x=.i3\/x=.a9 1\/x=.aY 0 .i3))=true) a ma
  rw[e] at this
  simpa using this
 rcases m with rfl|rfl|rfl|rfl
 .exact⟨⟨trivial,()⟩,()⟩
 .exact⟨⟨trivial,()⟩,()⟩
 .exact⟨⟨show 1<256 by decide,()⟩,()⟩
 .exact⟨⟨⟨(),trivial⟩,()⟩,()⟩
theorem tm{a b:Nat}(d:a<64)(c:b<64):Builtin.bitXor (a) (b)=((a^^^b:Nat):Int):=(by decide+kernel:∀a<64,∀b<64,Builtin.bitXor ((a:Nat)) ((b:Nat))=((a^^^b))) a d b c
theorem w5(l:List a):∀k,k<=l.length->(List.range k).filterMap (λi=>l[i]?)=l.take k
 |0,_=>by simp
 |k+1,h=>by
  rw[List.range_succ,List.filterMap_append,w5 l k (by omega)]
  simp[ab4 (show k<l.length by omega)]
theorem xD{σ}{j:Nat}(h:j<3){Q}(q:∀b,bA b->(∀c∈b,c=110\/c=118\/c=119)->0<b.length->b.length<=3->(∀{f},f (.seq (b.map λc=>.str (cj c))) σ->Ok (W.Ih ⟨(b).toArray⟩) σ f)->Q (.str ⟨b.toArray⟩) σ):Ok (d7 (.str (Str.ofString "nvw")) .none (.int (1+(j))) .none) σ Q:=by
 have main (b) (e:oR (Str.ofString "nvw") none (some (1+(j)))=⟨b.toArray⟩) (a:b.toArray.all (·<128)=true) (m:bA b) (l:∀c∈b,c=110\/c=118\/c=119) (i:0<b.length) (d:b.length<=3):Ok (d7 (.str (Str.ofString "nvw")) .none (.int (1+j)) .none) σ Q:=by
  refine⟨none,some _,none,⟨Y,Y,Y,nofun⟩,?_⟩;show _/\Q _ σ;exact e▸⟨⟨Y,aaS d ()⟩,q b m l i d λq=>⟨a,q⟩⟩
 rcases j with _|_|_|j
 .exact main [110] (by decide+kernel) (by decide+kernel) (by unfold bA;decide) () () ()
 .exact main [110,118] (by decide+kernel) (by decide+kernel) (by unfold bA;decide) () () ()
 .exact main [110,118,119] (by decide+kernel) (by decide+kernel) (by unfold bA;decide) () () ()
 .exact absurd h (ab0.mpr (abj ..))
structure nU(σ:Sg)(A sg W aj):Prop where
 w:cS aj A W
 n:W.n=1\/W.n=2
 dz:W.dz<2
 len0:0<W.r0.length/\W.r0.length<=3
 fO:0<W.r1.length/\W.r1.length<=3
 kY:∀m∈W.r0,m.nm=110\/m.nm=118\/m.nm=119
 oY:∀m∈W.r1,m.nm=110\/m.nm=118\/m.nm=119
 MI:bA (W.r0.map Mem.nm)
 Mx:bA (W.r1.map Mem.nm)
 bx:W.bx.nm=122
 lW:W.bx.how<=2
 signs:∃es,aj[A.w]?=some (.dict .str es)/\aO es (.str "signs")=some (.loc sg)/\es.length<=10
 PF:∃l:List Nat,aj[sg]?=some (.list (l.map iv))/\l.length=5
 new:∀a∈[A.w,A.rows,A.r0,A.r1,A.box,sg],σ.length<=a
theorem og{l:List AV}{lo a st:Option Int}{k}{is:List Nat}(b:l.length=k)(h:sliceRange (sliceBounds lo a st k).1 (sliceBounds lo a st k).2.1 (sliceBounds lo a st k).2.2=is):ko l lo a st=is.filterMap (l[·]?):=by
 unfold ko;rw[b,h]
theorem u2(h:σ[r]?=some (.list l)\/∃o,σ[r]?=some (.dX o l))(p:iC x=some a/\iC y=some b/\iC z=some c/\c≠some 0)(hz:l.length<=sizeLine)(e:ko l a b c=k)(q:Q (.loc σ.length) (σ++[.list k])):Ok (d7 (.loc r) x y z) σ Q:=
 ⟨a,b,c,p,l,⟨hz,h⟩,e.symm▸q⟩
theorem U2{σ r l}(h:σ[r]?=some (.list l))(f:1<l.length)(hz:l.length<=3){Q}(q:Q (.loc σ.length) (σ++[.list l.tail])):Ok (d7 (.loc r) (.int 1) .none .none) σ Q:=by
 refine u2 (.inl h) ⟨Y,Y,Y,nofun⟩ (aaS hz ()) ?_ q;rcases l with _|⟨a,_|⟨b,_|⟨c,_|⟨d,l⟩⟩⟩⟩
 .exact absurd f ()
 .exact absurd f (Nat.lt_irrefl 1)
 .exact og (k:=2) (is:=[1]) Y ()
 .exact og (k:=3) (is:=[1,2]) Y ()
 .exact absurd hz (Nat.not_le.mpr (abj 4 l.length))
theorem TQ{l:List Mem}(h:bA (l.map Mem.nm)){i m m'}(e:l[i]?=some m)(a:m'.nm=m.nm):(l.set i m').map Mem.nm=l.map Mem.nm:=by
 rw[List.map_set,a];have:(l.map Mem.nm)[i]?=some m.nm:=by rw[abm,e];rfl
 apply List.ext_getElem?;intro k;rw[List.getElem?_set];split
 .rename_i q;subst q;split
  .exact this.symm
  .rename_i b;exact(List.getElem?_eq_none_iff.mpr (by omega)).symm
 .rfl
theorem fJ.chg(h:fJ σ a d)(c:ag F σ b)(f:a∉F):fJ b a d:=by
 obtain⟨fs,e,r⟩:=h;exact⟨fs,c.get e f,r⟩
theorem cq.set(h:cq B W σ τ)(c:σ[a]?=some (.inst 201 fs)):cq B W (σ.set a o) τ:=by
 obtain⟨es,e,r⟩:=h.w.w;obtain⟨es',m,d⟩:=h.wd;obtain⟨l,i,f⟩:=h.params;have ne:∀{x}{o':AO},σ[x]?=some o'->o'≠.inst 201 fs->(σ.set a o)[x]?=some o':=λ{x o'}b j=>a4 b λq=>j (by rw[q,b] at c;exact aa0 c)
 exact⟨⟨ne h.tab.tab (by simp),ne h.tab.rows (by simp),ne h.tab.index (by simp),h.tab.nodup⟩,h.base,⟨⟨es,ne e (by simp),r⟩,ne h.w.rows (by simp),ne h.w.r0 (by simp),ne h.w.r1 (by simp),ne h.w.box (by simp)⟩,⟨es',ne m (by simp),d⟩,ne h.d_ (by simp),⟨l,ne i (by simp),f⟩,h.par,h.ne⟩
noncomputable def pD(W:World)(k:Nat):Nat:=if k<2 then W.n else 1
theorem LL(a:W.n=1\/W.n=2)(b:k<3):(List.range (pD W k)).map (λj=>2*k+j)=aX W k:=by
 unfold pD aX;rcases(show k=0\/k=1\/k=2 by omega) with rfl|rfl|rfl<;>rcases a with e|e<;>rw[e]<;>rfl
theorem ts(a:k<3):∀i∈aX W k,i<5:=by
 intro i;rcases k with _|_|_|k
 .show i∈(if W.n=2 then[0,1] else[0])->i<5;by_cases q:W.n=2
  .rw[abn q];exact(():∀i∈[0,1],i<5) i
  .rw[aa_ q];exact(():∀i∈[0],i<5) i
 .show i∈(if W.n=2 then[2,3] else[2])->i<5;by_cases q:W.n=2
  .rw[abn q];exact(():∀i∈[2,3],i<5) i
  .rw[aa_ q];exact(():∀i∈[2],i<5) i
 .exact(():∀i∈[4],i<5) i
 .exact absurd a (ab0.mpr (abj ..))
def ov(W:World)(k:Nat):Th:=if k=2 then .lf (.aY 0 (.par 4)) else .own k (gj (aX W k))
theorem E4(a:k<3):lh W (ov W k)=some (k,gj (aX W k)):=by
 unfold ov;split
 .rename_i e;subst e;rfl
 .rfl
theorem xM(c:k<3):∀a∈gj (aX W k),d9 a:=by
 intro a m;obtain⟨i,b,rfl⟩:=aa6.mp m;refine⟨⟨⟨show 0<256 by decide,λh=>?_,λh=>?_,show dr 0=0 by decide,show 1<=10 by decide⟩,λx e=>?_⟩,λx e=>?_⟩
 .exact absurd h (():¬(0:Nat).testBit 5=true)
 .exact absurd h (():¬(0:Nat).testBit 6=true)
 .cases e;exact(ts c i b)
 .cases e;simp[bE]
theorem DZ(a:k<3):(gj (aX W k)).length=1\/(gj (aX W k)).length=2:=by
 unfold gj aX;rw[aa_ (by omega)]
 split
 .exact .inl Y
 .split
  .exact .inr Y
  .exact .inl Y
theorem Mc(a:k<3):bW W (ov W k)=(cP W k).map λm=>(m,cell W k m.how (gj (aX W k))):=by
 unfold ov;split
 .rename_i e;subst e;rfl
 .rfl
theorem Sl(b:k<3):iZ W (ov W k):=by
 refine⟨⟨k,_,E4 b,λa m=>(xM b a m).ok,λJ J=>DZ b⟩,λl as e=>?_⟩;unfold ov at e;split at e
 .cases e
 .cases e;omega
theorem Qo(c:W.Ok)(b:bA (W.r0.map Mem.nm))(a:bA (W.r1.map Mem.nm)):bA ((cP W k).map Mem.nm):=by
 unfold cP;split
 .exact List.pairwise_singleton ..
 .split
  .exact a
  .exact b
theorem O4(b:W.Ok):∀m∈cP W k,m.nm<128:=by
 unfold cP;intro m a;split at a
 .simp at a;subst a;rw[b.bx];decide
 .split at a
  .rcases b.oY m a with e|e|e<;>omega
  .rcases b.kY m a with e|e|e<;>omega
theorem Uz:(aT L x v).length<=L.length+1:=by
 induction L with
 |nil=>exact aaX _
 |cons p r a=>
  show(if p.1=x then(x,v)::r else p::aT r x v).length<=_;by_cases e:p.1=x
  .rw[abn e];exact ab7 _
  .rw[aa_ e];exact abI a
theorem cS.GJ(h:cS σ A W)(e:σ[A.w]?=some (.dict .str es))(p:AV.str "n"≠key)(m:AV.str "rows"≠key)(j:AV.str "box"≠key)(i:AV.str "self"≠key):cS (σ.set A.w (.dict .str (aM es key v))) A W:=by
 obtain⟨es',b,r1,f,d,c⟩:=h.w;rw[e] at b;cases b
 have ne:∀{x:Nat}{l},σ[x]?=some _->(σ.set A.w (.dict .str (aM es key v)))[x]?=some (.list l):=λ{x l}a=>a4 a λq=>by rw[q,a] at e;cases e
 exact⟨⟨_,ba e,by rw[gY,aa_ p];exact r1,by rw[gY,aa_ m];exact f,by rw[gY,aa_ j];exact d,by rw[gY,aa_ i];exact c⟩,ne h.rows,ne h.r0,ne h.r1,ne h.box⟩
theorem cS.chg(h:cS σ A W)(c:ag F σ d)(b:∀a∈[A.w,A.rows,A.r0,A.r1,A.box],a∉F):cS d A W:=by
 obtain⟨es,e,r⟩:=h.w;exact⟨⟨es,c.get e (b _ (aK 0 Y)),r⟩,c.get h.rows (b _ (aK 1 Y)),c.get h.r0 (b _ (aK 2 Y)),c.get h.r1 (b _ (aK 3 Y)),c.get h.box (b _ (aK 4 Y))⟩
structure TK(σ A T W)(B D aj τ):Prop where
 st:cq B W aj τ
 hA:B.A=A
 hT:B.T=T
 dec:Decls aj T W D
 dW:jn W τ D
 len:τ.length<=40000
 chg:ag [A.w,T.rows,T.index,T.decls,T.bounds,T.defaults,T.names] σ aj
 Di:∀k<4,σ.length<=D.a k
theorem vv(h:l.length=4):∃a b c d,l=[a,b,c,d]:=by
 rcases l with _|⟨a,_|⟨b,_|⟨c,_|⟨d,_|⟨e,l⟩⟩⟩⟩⟩
 .cases h
 .cases h
 .cases h
 .cases h
 .exact⟨a,b,c,d,Y⟩
 .cases h
noncomputable def hF(s:Nat):RH:=⟨s,s+1,s+8,s+9,s+2,s+3,s+5,s+6,s+7⟩
structure i5(σ:Sg)(H)(R:RH)(aw):Prop where
 rel:σ[R.rel]?=some (.inst 692 (i6 H R aw 0 0))
 aV:σ[R.aV]?=some (.dict .tup [])
 kn:σ[R.kn]?=some (.dict .tup [])
 aw:σ[aw]?=some (.list [])
 rd:σ[R.rd]?=some (.list [])
 cV:σ[R.cV]?=some (.inst 120 [(226,.loc R.bZ)])
 bZ:σ[R.bZ]?=some (.list [])
structure e9(W T H)(D σ τ es):Prop where
 base:Base τ
 str0:∃j:Nat,τ[j]?=some (Row.str 0)
 dW:jn W τ D
 ins:eX W τ es
 tab:Tab σ T τ
 host:Host σ H T es
 decl:Decls σ T W D
 ne3:[T.rows,T.index,H.ins].Nodup
 fx:∀a∈[T.tab,T.decls,D.a 0,D.a 1,D.a 2,D.a 3,H.host],a∉[T.rows,T.index,H.ins]
theorem e9.keep(h:e9 W T H D σ τ es)(k:ai σ a):e9 W T H D a τ es:=
 ⟨h.base,h.str0,h.dW,h.ins,h.tab.keep k,⟨k.get h.host.host,k.get h.host.ins⟩,⟨k.get h.decl.list,λj b=>by obtain⟨fs,e,r⟩:=h.decl.decl j b;exact⟨fs,k.get e,r⟩⟩,h.ne3,h.fx⟩
theorem yT(l m:List Nat)(h:(l++m).Nodup):l.Nodup/\∀a∈l,a∉m:=⟨(abR.mp h).1,λa x y=>(abR.mp h).2.2 a x a y Y⟩
theorem NQ(l m:List Nat)(h:l.Nodup)(k:m.Nodup)(d:∀a∈l,a∉m):(l++m).Nodup:=abR.mpr ⟨h,k,λa x J y e=>d a x (e▸y)⟩
theorem xN(l m:List Nat)(h:a∈l++m):a∈l\/a∈m:=abq.mp h
theorem tC(h:aF E σ s):e9 E.W E.T E.H E.D σ s.τ s.es:=
 ⟨h.inv.base,h.inv.str0,h.inv.dW,h.inv.ins,h.tab,h.host,h.decl,(yT [E.T.rows,E.T.index,E.H.ins] _ h.nd).1,λa m n=>h.fix a (abe [E.R.rules,E.R.r5,E.R.cV] m) (abe [E.R.rel,E.R.aV,E.R.kn,E.R.rd,s.aw,E.R.bZ] n)⟩
theorem LV{n}{l k:List Nat}(h:∀i∈l,i∉k){a}(m:a∈l.map (n+·)):a∉k.map (n+·):=λq=>by
 obtain⟨i,c,rfl⟩:=aa6.mp m
 obtain⟨j,b,e⟩:=aa6.mp q
 exact h i c (Nat.add_left_cancel e▸b)
theorem y1{n}{l k:List Nat}(h:∀a∈l,a<n){a}(m:a∈l):a∉k.map (n+·):=λq=>by
 obtain⟨j,b,rfl⟩:=aa6.mp q
 exact absurd (h _ m) (ab0.mpr (aaW ..))
theorem O3{W T H}{D σ c τ es}(h:e9 W T H D σ τ es)(k:ai σ c)(r:i5 c H (hF σ.length) (σ.length+4))(u:c[σ.length+1]?=some (.dict .int [(.int 5,.loc (σ.length+8)),(.int 11,.loc (σ.length+9))]))(g:c[σ.length+8]?=some (.inst 1061 [])):aF ⟨W,T,H,D,hF σ.length⟩ c ⟨τ,es,σ.length+4,[],[],[],0,0⟩:=by
 have d:=h.keep k;have f:∀a∈[T.rows,T.index,H.ins],a<σ.length:=aa'.mpr ⟨dv h.tab.rows,aa'.mpr ⟨dv h.tab.index,aa'.mpr ⟨dv h.host.ins,nofun⟩⟩⟩;have ld {j} (i):=(h.decl.decl j i).elim λJ e=>dv e.1;refine⟨⟨h.base,h.str0,h.dW,h.ins,(λk m=>nomatch m),λk m=>nomatch m⟩,d.tab,d.host,d.decl,r.rel,u,g,r.aV,r.kn,r.aw,r.rd,r.cV,r.bZ,?_,λa m n=>?_,ab6,aaX _⟩
 .exact NQ [T.rows,T.index,H.ins] ([0,2,3,5,4,7].map _) h.ne3 (List.Pairwise.map _ (λa b h e=>h (Nat.add_left_cancel e)) (():[0,2,3,5,4,7].Nodup)) λa=>y1 f
 .rcases xN [T.tab,T.decls,D.a 0,D.a 1,D.a 2,D.a 3,H.host] ([1,8,6].map (σ.length+·)) m with m|m<;>rcases xN [T.rows,T.index,H.ins] ([0,2,3,5,4,7].map (σ.length+·)) n with n|n
  .exact h.fx a m n
  .exact y1 (aa'.mpr ⟨dv h.tab.tab,aa'.mpr ⟨dv h.decl.list,aa'.mpr ⟨ld (),aa'.mpr ⟨ld (),aa'.mpr ⟨ld (),aa'.mpr ⟨ld (),aa'.mpr ⟨dv h.host.host,nofun⟩⟩⟩⟩⟩⟩⟩) m n
  .exact y1 f n m
  .exact LV () m n
theorem aF.Ru(h:aF E σ s)(c:ag [E.T.rows,E.T.index,E.H.ins] σ d)(k:e9 E.W E.T E.H E.D d b es')(pre:s.τ<+:b):aF E d {s with τ:=b,es:=es'}:=by
 have nf {a} (i m):=λn=>(yT [E.T.rows,E.T.index,E.H.ins] _ h.nd).2 a n (aK i m);have ff {a} (i m):a∉[E.T.rows,E.T.index,E.H.ins]:=λn=>h.fix a (aK i m) (abe [E.R.rel,E.R.aV,E.R.kn,E.R.rd,s.aw,E.R.bZ] n);exact⟨h.inv.mono pre k.ins,k.tab,k.host,k.decl,c.get h.rel (nf 0 Y),c.get h.rules (ff 7 Y),c.get h.r5 (ff 8 Y),c.get h.aV (nf 1 Y),c.get h.kn (nf 2 Y),c.get h.aw (nf 4 Y),c.get h.rd (nf 3 Y),c.get h.cV (ff 9 Y),c.get h.bZ (nf 5 Y),h.nd,h.fix,h.iJ,h.cnt⟩
theorem z9(a:σ[n]?=some (.list []))(b:σ[m]?=some (.list []))(q:Q (.bool true) σ):Ok (Mine.Internal.fe (.loc n) (.loc m)) σ Q:=⟨_,.list n m _ _ Y Y a b Y Y (aa9 _) Y,q⟩
theorem Q9(c:σ[n]?=some (.dict a []))(d:σ[m]?=some (.dict b []))(q:Q (.bool true) σ):Ok (Mine.Internal.fe (.loc n) (.loc m)) σ Q:=⟨_,.Hv n m _ _ Y Y c d Y,q⟩
theorem aF.kp(h:aF E σ s)(k:ai σ a):aF E a s:=h.Ru k.chg ((tC h).keep k) (abp _)
noncomputable def yD(b:Nat)(s:Bool):Bool:=decide (b<256)&&(!b.testBit 5||(decide (b=32)&&!s))&&(!b.testBit 6||(decide (b=64)&&!s))&&(!b.testBit 0||!b.testBit 7)&&(!b.testBit 2||(!b.testBit 0&&!b.testBit 7))
theorem qe(h:yD b s=true):iH b s:=by
 unfold yD at h;simp only[abY,Bool.or_eq_true,Bool.not_eq_true',abr] at h;obtain⟨⟨⟨⟨i,f⟩,d⟩,c⟩,a⟩:=h;refine⟨i,λe=>?_,λe=>?_,λe=>?_,λe=>?_⟩
 .rcases f with h|h
  .rw[e] at h;cases h
  .exact h
 .rcases d with h|h
  .rw[e] at h;cases h
  .exact h
 .rcases c with h|h
  .rw[e] at h;cases h
  .exact h
 .rcases a with h|h
  .rw[e] at h;cases h
  .exact h
theorem U3:∀y∈fj,d8 y:=by
 intro y m;simp[fj] at m;rcases m with rfl|rfl|rfl|rfl|rfl|rfl
 .trivial
 .trivial
 .exact qe ()
 .exact qe ()
 .exact⟨qe (),trivial⟩
 .exact⟨qe (),trivial⟩
theorem nN:∀a∈a7,dZ a:=by
 intro a ma;have w:=qe (abd.mp (by decide+kernel:(a7.all λa=>yD a.1 a.2.isSome)=true) a ma)
 have t:=l_ a ma;obtain⟨b,_|x⟩:=a
 .exact w
 .exact⟨w,U3 x (t x Y).1⟩
theorem gu(m:a∈a7):d9 a:=⟨qv (nN a m),λx e=>by have:=(l_ a m x e).2;omega⟩
noncomputable def mA(l:List AK):List Th:=[.own 0 l,.own 0 l.reverse,.own 1 l,.own 1 l.reverse]
def jg:List Th:=[.lf .i3,.lf .i4]++a7.map λa=>.lf (Lf.box a)
def bl(one two:List AK):List Th:=mA one++mA two++[.six]++jg
theorem IY:∀y∈fj,Th.lf y∈jg:=by decide+kernel
theorem F9(m:a∈a7):Th.lf (Lf.box a)∈jg:=abi _ (aa6.mpr ⟨a,m,Y⟩)
theorem o4(h:x∈jg):x=.lf .i3\/x=.lf .i4\/∃a∈a7,x=.lf (Lf.box a):=by
 rcases abq.mp h with h|h
 .simp at h;rcases h with rfl|rfl
  .exact .inl Y
  .exact .inr (.inl Y)
 .obtain⟨a,m,e⟩:=aa6.mp h;exact .inr (.inr ⟨a,m,e.symm⟩)
theorem vC(h:js l):(∀z∈l,z∈jg)/\l.length<=2:=by
 rcases h with rfl|⟨t,mt,rfl⟩|⟨a,ma,rfl⟩|⟨a,ma,t,mt,rfl⟩
 .exact⟨(λz m=>nomatch m),()⟩
 .exact⟨λz m=>by rw[aaT] at m;subst m;exact IY t mt,by simp⟩
 .exact⟨λz m=>by rw[aaT] at m;subst m;exact F9 ma,by simp⟩
 .refine⟨λz m=>?_,by simp⟩
  simp at m;rcases m with rfl|rfl
  .exact F9 ma
  .exact IY t mt
theorem Ew(h:x∈mA l):∃k l',k<2/\(l'=l\/l'=l.reverse)/\x=.own k l':=by
 simp[mA] at h;rcases h with rfl|rfl|rfl|rfl
 .exact⟨0,_,(),.inl Y,Y⟩
 .exact⟨0,_,(),.inr Y,Y⟩
 .exact⟨1,_,(),.inl Y,Y⟩
 .exact⟨1,_,(),.inr Y,Y⟩
theorem uJ(a:k<2)(h:l'=l\/l'=l.reverse):Th.own k l'∈mA l:=by
 rcases k with _|_|k
 .exact h.elim (λe=>e▸aK 0 Y) λe=>e▸aK 1 Y
 .exact h.elim (λe=>e▸aK 2 Y) λe=>e▸aK 3 Y
 .exact absurd a (ab0.mpr (abj ..))
section
variable{W:World}{one two:List AK}
structure Pair(W:World)(one two:List AK):Prop where
 l1:one.length=W.n
 l2:two.length=W.n
 m1:∀a∈one,a∈a7
 m2:∀a∈two,a∈a7
 six:W.six=one\/W.six=two
theorem Pair.both(p:Pair W one two)(h:l=one\/l=two):l.length=W.n/\∀a∈l,a∈a7:=by
 rcases h with rfl|rfl
 .exact⟨p.l1,p.m1⟩
 .exact⟨p.l2,p.m2⟩
theorem V9(a:W.n=1\/W.n=2)(b:k<2):(aX W k).length=W.n:=by
 unfold aX;rw[aa_ (by omega),aa_ (by omega)]
 rcases a with e|e<;>rw[e]<;>rfl
theorem tO(c:W.Ok)(b:k<2)(h:l.length=W.n/\∀a∈l,a∈a7):bu W (.own k l):=by
 refine⟨⟨⟨(V9 c.n b)▸h.1,λa m=>nN a (h.2 a m)⟩,λj as e=>by cases e;exact b⟩,Y,h.2⟩
theorem G7{l:List AK}(h:l.length=W.n/\∀a∈l,a∈a7):l.reverse.length=W.n/\∀a∈l.reverse,a∈a7:=⟨by rw[List.length_reverse];exact h.1,λa m=>h.2 a (List.mem_reverse.mp m)⟩
theorem uP(h:x∈bl one two):(∃k l,k<2/\(l=one\/l=one.reverse\/l=two\/l=two.reverse)/\x=.own k l)\/x=.six\/x∈jg:=by
 unfold bl at h;simp only[abq,aaT] at h;rcases h with((h|h)|rfl)|h
 .obtain⟨k,l,b,a,rfl⟩:=Ew h;exact .inl ⟨k,l,b,by rcases a with e|e<;>simp[e],Y⟩
 .obtain⟨k,l,b,a,rfl⟩:=Ew h;exact .inl ⟨k,l,b,by rcases a with e|e<;>simp[e],Y⟩
 .exact .inr (.inl Y)
 .exact .inr (.inr h)
theorem k_(a:k<2)(h:l=one\/l=one.reverse\/l=two\/l=two.reverse):Th.own k l∈bl one two:=by
 unfold bl;simp only[abq];rcases h with h|h|h|h
 .exact .inl (.inl (.inl (uJ a (.inl h))))
 .exact .inl (.inl (.inl (uJ a (.inr h))))
 .exact .inl (.inl (.inr (uJ a (.inl h))))
 .exact .inl (.inl (.inr (uJ a (.inr h))))
theorem yu(h:x∈jg):x∈bl one two:=abi _ h
theorem four(p:Pair W one two){l}(h:l=one\/l=one.reverse\/l=two\/l=two.reverse):l.length=W.n/\∀a∈l,a∈a7:=by
 rcases h with rfl|rfl|rfl|rfl
 .exact p.both (.inl Y)
 .exact G7 (p.both (.inl Y))
 .exact p.both (.inr Y)
 .exact G7 (p.both (.inr Y))
theorem F2(h:l=one\/l=one.reverse\/l=two\/l=two.reverse):l.reverse=one\/l.reverse=one.reverse\/l.reverse=two\/l.reverse=two.reverse:=by
 rcases h with rfl|rfl|rfl|rfl
 .exact .inr (.inl Y)
 .exact .inl (List.reverse_reverse _)
 .exact .inr (.inr (.inr Y))
 .exact .inr (.inr (.inl (List.reverse_reverse _)))
theorem uM(p:Pair W one two):W.six=one\/W.six=one.reverse\/W.six=two\/W.six=two.reverse:=p.six.elim .inl λe=>.inr (.inr (.inl e))
theorem y_(p:Pair W one two):bu W .six:=⟨⟨trivial,λk as e=>nomatch e⟩,Y,(four p (uM p)).2⟩
theorem Ey(a:W.Ok)(p:Pair W one two)(h:x∈bl one two):bu W x\/x∈jg:=by
 rcases uP h with⟨k,l,c,b,rfl⟩|rfl|h
 .exact .inl (tO a c (four p b))
 .exact .inl (y_ p)
 .exact .inr h
theorem K5(b:W.Ok)(p:Pair W one two)(h:x∈bl one two):∀z∈bk W x,z∈bl one two:=by
 rcases uP h with⟨k,l,d,c,rfl⟩|rfl|h
 .intro z m;simp only[bk,aa5,abo,or_false] at m;rcases m with rfl|rfl
  .exact k_ (kO b d) c
  .exact k_ (kO b d) (F2 c)
 .intro z m;simp only[bk,aa5,abo,or_false] at m;rcases m with rfl|rfl
  .exact k_ (kO b ()) (uM p)
  .exact k_ (kO b ()) (F2 (uM p))
 .intro z m;rcases o4 h with rfl|rfl|⟨a,_,rfl⟩<;>cases m
end
section
variable{W:World}{one two:List AK}
theorem t8(m:a∈a7):UK W (bl one two) a.kind:=
 ⟨λz b=>yu ((vC (qU m)).1 z b),(dN (W:=W) (nN a m)).lt,by have:=gU a;omega⟩
theorem vS(c:W.n<=2)(p:Pair W one two)(h:x∈bl one two)(e:c8 x=some (k,as)):(∀a∈as,a∈a7)/\as.length<=2:=by
 rcases uP h with⟨j,l,q,d,rfl⟩|rfl|h
 .have:=aa0 e
  cases this
  have f:=four p d;exact⟨f.2,f.1▸c⟩
 .cases e
 .rcases o4 h with rfl|rfl|⟨a,ma,rfl⟩
  .cases e
  .cases e
  .have i:c8 (.lf (Lf.box a))=some (2,[a]):=by obtain⟨b,_|y⟩:=a<;>rfl
   rw[i] at e;cases e
   exact⟨λb m=>by rw[aaT] at m;subst m;exact ma,by simp⟩
theorem YY:(bP m k).2.length<=k.2.length:=by
 rcases x8 with e|e
 .rw[e];exact aaX _
 .rw[e];exact aa9 _
theorem FQ(c:W.Ok)(p:Pair W one two)(h:x∈bl one two):bT W x:=by
 rcases Ey c p h with h|h
 .exact h.ok
 .rcases o4 h with rfl|rfl|⟨a,ma,rfl⟩
  .exact⟨trivial,λk as e=>nomatch e⟩
  .exact⟨trivial,λk as e=>nomatch e⟩
  .refine⟨?_,λk as e=>nomatch e⟩;have:=nN a ma
   obtain⟨b,_|y⟩:=a
   .exact this
   .exact this
theorem AY(d:W.Ok)(p:Pair W one two)(h:x∈bl one two):∀k∈bX W x,UK W (bl one two) k:=by
 intro k mk;have key:(∀z∈k.2,z∈bl one two)/\k.2.length<=2:=by
  rcases Ey d p h with hp|D
  .rcases rJ hp k mk with s|⟨z,i,j⟩
   .obtain⟨t,q⟩:=vC s;exact⟨λz m=>yu (t z m),q⟩
   .refine⟨λy m=>?_,by rw[i];simp⟩
    rw[i,aaT] at m;subst m;rcases kP d hp.iS k mk with B|⟨w,u,l⟩
    .obtain⟨L,e,_⟩:=B y (by rw[i];simp)
     rw[e] at j;cases j
    .rw[i] at l;cases l
     exact K5 d p h _ u
  .unfold bX at mk;obtain⟨m,f,rfl⟩:=aa6.mp mk;have sub:(∀z∈m.2.2,z∈bl one two)/\m.2.2.length<=2:=by
    rcases o4 D with rfl|rfl|⟨a,ma,rfl⟩
    .have:=aaT.mp f
     subst this
     exact⟨(λz c=>nomatch c),()⟩
    .have:=aaT.mp f
     subst this
     exact⟨(λz c=>nomatch c),()⟩
    .have H:bW W (.lf (Lf.box a))=(cP W 2).map λm=>(m,cell W 2 m.how [a]):=by obtain⟨b,_|y⟩:=a<;>rfl
     rw[H] at f;obtain⟨r,A,rfl⟩:=aa6.mp f;have:=aaT.mp A
     subst this
     exact⟨λz c=>(yu ((vC (qU ma)).1 z (um d.lW c))),tW ..⟩
   refine⟨λz c=>?_,aaS YY sub.2⟩;rcases x8 with e|e
   .exact sub.1 z (e▸c)
   .rw[e] at c;cases c
 exact⟨key.1,(yH d (FQ d p h) k mk).lt,by omega⟩
theorem PN(i:W.Ok)(p:Pair W one two):Un W (bl one two):=by
 have u:W.n<=2:=by rcases i.n with e|e<;>omega
 refine⟨λx d=>?_,?_,λx d y t r c q w=>?_,λx d y t=>?_⟩
 .have ok:=FQ i p d;rcases uP d with⟨k,l,A,H,rfl⟩|rfl|h
  .have f:=four p H;refine⟨⟨⟨k,l,Y,λa m=>(gu (f.2 a m)).ok,λJ J=>by rw[f.1];exact i.n⟩,λj as e=>by cases e;exact A⟩,ok.1,wL A λa m=>(gu (f.2 a m)).ok.sh⟩
  .have f:=four p (uM p);refine⟨⟨⟨6,W.six,Y,λa m=>(gu (f.2 a m)).ok,λJ J=>by rw[f.1];exact i.n⟩,λj as e=>nomatch e⟩,ok.1,P9 λa m=>(gu (f.2 a m)).ok.sh⟩
  .rcases o4 h with rfl|rfl|⟨a,ma,rfl⟩
   .exact⟨⟨⟨3,[],Y,(λa m=>nomatch m),absurd Y⟩,λk as e=>nomatch e⟩,ok.1,nE ()⟩
   .exact⟨⟨⟨4,[],Y,(λa m=>nomatch m),λJ=>absurd Y⟩,λk as e=>nomatch e⟩,ok.1,nE ()⟩
   .refine⟨⟨⟨2,[a],by obtain⟨b,_|y⟩:=a<;>rfl,λb m=>?_,λJ J=>.inl Y⟩,λk as e=>nomatch e⟩,ok.1,uj (gu ma).ok⟩
    rw[aaT] at m;subst m;exact(gu ma).ok
 .have M:∀l,(mA l).length=4:=λl=>Y;have T:jg.length<=40:=by decide+kernel
  unfold bl;simp only[aa4,M,List.length_singleton];omega
 .unfold de at c;rcases abq.mp c with c|c
  .obtain⟨k,as,bs,e1,e2,rfl⟩:=args_mem c;have s:=List.of_mem_zip (w);obtain⟨a,ma,Q⟩:=aa6.mp s.1;obtain⟨b,B,N⟩:=aa6.mp s.2;rw[←Q,←N];exact⟨t8 ((vS u p d e1).1 a ma),t8 ((vS u p t e2).1 b B)⟩
  .by_cases z:aU W x=aU W y
   .rw[abn z,aaT] at c;subst c;have s:=List.of_mem_zip (show _∈_ from w);exact⟨AY i p d _ s.1,AY i p t _ s.2⟩
   .rw[aa_ z] at c;cases c
 .have L:(aZ x y).flatten.length<=2:=by
   rcases xF (x:=x) (y:=y) with e|⟨k,as,bs,e1,e2,e⟩
   .rw[e];exact aa9 2
   .rw[e,List.flatten_singleton,List.length_zip,aa1];exact aaS (Nat.min_le_left ..) (vS u p d e1).2
  have D:(bX W x).length<=3:=by unfold bX;rw[aa1];exact(lH i x).1
  unfold de;rw[List.flatten_append,aa4];refine aaS (abw L (?_:_<=3)) ();by_cases q:aU W x=aU W y
  .rw[abn q,List.flatten_singleton,List.length_zip];exact aaS (Nat.min_le_left ..) D
  .rw[aa_ q];exact aa9 3
end
structure jF(W a):Prop where
 wf:aJ W a
 ok:∀z∈a.2,bT W z/\fk z<=3
 own:∀z∈a.2,aI z=false->bu W z
def jC(r:Nat×Nat×Bool):AV:=.tup [iv r.1,iv r.2.1,.bool r.2.2]
structure iR(W τ c)(q:Kind×Kind)(r:Nat×Nat×Bool):Prop where
 a:jF W q.1
 b:jF W q.2
 c1:kt W (q.1,q.2)<=c
 c2:kt W (q.2,q.1)<=c
 ia:aB W τ q.1 r.1
 ib:aB W τ q.2 r.2.1
 v:r.2.2=true↔aQ W q.1 q.2
theorem iR.mono(p:τ<+:cm)(h:iR W τ c q r):iR W cm c q r:=⟨h.a,h.b,h.c1,h.c2,h.ia.mono p,h.ib.mono p,h.v⟩
structure Rest(E M σ s):Prop where
 st:aF E σ s
 tr:s.tr=[]
 rd:s.rd=[]
 deep:s.deep=0
 sz:s.τ.length+s.es.length<=M
theorem Rest.zA(h:Rest E M σ s)(b:M<=10000000)(a:s.au<=20000):b9 0 s:=⟨by have:=h.sz;omega,a⟩
theorem Rest.kp(h:Rest E M σ s)(k:ai σ a):Rest E M a s:=⟨h.st.kp k,h.tr,h.rd,h.deep,h.sz⟩
theorem Rest.le(h:Rest E M σ s)(l:M<=a):Rest E a σ s:=⟨h.st,h.tr,h.rd,h.deep,aaS h.sz l⟩
theorem Rest.out(h:Rest E M σ s)(o:tR E c a b v σ s d s'):Rest E (M+140*c) d s':=
 ⟨o.g.st,o.tr,o.g.rd.trans h.rd,o.g.deep.trans h.deep,by have:=o.g.sz;have:=o.l;have:=h.sz;omega⟩
noncomputable def lJ(E:EN)(a:Nat):List Nat:=[E.R.rel,E.R.aV,E.R.kn,E.R.rd,a,E.R.bZ,E.R.rules,E.R.r5,E.R.cV]
theorem xE(h:aF E σ s):∀a∈lJ E s.aw,a<σ.length:=
 have k:∀{a o},σ[a]?=some o->a<σ.length:=λe=>(abg.mp e).1
 fa (k h.rel) (fa (k h.aV) (fa (k h.kn) (fa (k h.rd) (fa (k h.aw) (fa (k h.bZ) (fa (k h.rules) (fa (k h.r5) (fa (k h.cV) nofun))))))))
theorem NN(h:aF E σ s):∀a∈lJ E s.aw,a∉[E.T.rows,E.T.index,E.H.ins]:=by
 intro a m n;by_cases q:a∈[E.R.rel,E.R.aV,E.R.kn,E.R.rd,s.aw,E.R.bZ]
 .have:([E.T.rows,E.T.index,E.H.ins]++[E.R.rel,E.R.aV,E.R.kn,E.R.rd,s.aw,E.R.bZ]).Nodup:=h.nd
  rw[abR] at this
  exact this.2.2 a n a q Y
 .have b:=abe [E.R.rel,E.R.aV,E.R.kn,E.R.rd,s.aw,E.R.bZ] n;have m':a∈[E.R.rel,E.R.aV,E.R.kn,E.R.rd,s.aw,E.R.bZ]++[E.R.rules,E.R.r5,E.R.cV]:=m;exact(abq.mp m').elim q λm'=>h.fix a (fa (aK 7 Y) (fa (aK 8 Y) (fa (aK 9 Y) nofun)) a m') b
theorem aF.sM(h:aF E σ s)(c:ag F σ d)(f:∀a∈lJ E s.aw,a∈F->a∈[E.T.rows,E.T.index,E.H.ins])(k:e9 E.W E.T E.H E.D d b es')(pre:s.τ<+:b):aF E d {s with τ:=b,es:=es'}:=by
 have nf:=λ{a}m n=>NN h a m (f a m n);exact⟨h.inv.mono pre k.ins,k.tab,k.host,k.decl,c.get h.rel (nf (aK 0 Y)),c.get h.rules (nf (aK 6 Y)),c.get h.r5 (nf (aK 7 Y)),c.get h.aV (nf (aK 1 Y)),c.get h.kn (nf (aK 2 Y)),c.get h.aw (nf (aK 4 Y)),c.get h.rd (nf (aK 3 Y)),c.get h.cV (nf (aK 8 Y)),c.get h.bZ (nf (aK 5 Y)),h.nd,h.fix,h.iJ,h.cnt⟩
theorem Rest.sM(h:Rest E M σ s)(c:ag F σ b)(f:∀a∈lJ E s.aw,a∈F->a∈[E.T.rows,E.T.index,E.H.ins])(d:Rest ⟨E.W,E.T,E.H,E.D,R⟩ i b s')(pre:s.τ<+:s'.τ):Rest E i b {s with τ:=s'.τ,es:=s'.es}:=
 ⟨h.st.sM c f (tC (E:=⟨E.W,E.T,E.H,E.D,R⟩) d.st) pre,h.tr,h.rd,h.deep,d.sz⟩
theorem YA(m:a∈lJ E b):a∈lJ E c\/a=b:=y5 4 m
theorem oH(m:a∈E.mut b):a∈[E.T.rows,E.T.index,E.H.ins]\/a∈lJ E b:=(abq.mp m).imp id (abe [E.R.rules,E.R.r5,E.R.cV])
theorem ZG{E:EN}{b c a}(m:a∈E.mut b):a∈E.mut c\/a=b:=y5 7 m
abbrev Item:=(Kind×Kind)×Nat×(Nat×Nat×Bool)
noncomputable def dQ(l:List Item):Nat:=(l.map λt=>t.2.1).sum
theorem LU:dQ (t::l)=t.2.1+dQ l:=by simp[dQ]
structure jd(W H D)(B:BH)(la:Nat)(al:List (Th×Th))(σ τ es):Prop where
 A':e9 W B.T H D σ τ es
 st:cq B W σ τ
 al:σ[la]?=some (.list (al.map (cO W)))
 nl:la∉[B.T.rows,B.T.index,H.ins]
 ni:∀a∈[B.A.w,B.A.rows,B.A.r0,B.A.r1,B.A.box,B.d_,B.params],a∉[B.T.rows,B.T.index,H.ins]
theorem cq.move(h:cq B W σ τ)(c:ag F σ f)(b:∀a∈[B.A.w,B.A.rows,B.A.r0,B.A.r1,B.A.box,B.d_,B.params],a∉F)(t:Tab f B.T d)(p:τ<+:d):cq B W f d:=by
 obtain⟨es,e,r⟩:=h.w.w;obtain⟨es',u,j⟩:=h.wd;obtain⟨l,q,m⟩:=h.params;exact⟨t,h.base.mono p,⟨⟨es,c.get e (b _ (aK 0 Y)),r⟩,c.get h.w.rows (b _ (aK 1 Y)),c.get h.w.r0 (b _ (aK 2 Y)),c.get h.w.r1 (b _ (aK 3 Y)),c.get h.w.box (b _ (aK 4 Y))⟩,⟨es',c.get u (b _ (aK 0 Y)),j⟩,c.get h.d_ (b _ (aK 5 Y)),⟨l,c.get q (b _ (aK 6 Y)),m⟩,λi s=>cU p (h.par i s),h.ne⟩
theorem jd.move{W}{H D B d}{f σ b τ a es es'}(h:jd W H D B d f σ τ es)(c:ag [B.T.rows,B.T.index,H.ins] σ b)(k:e9 W B.T H D b a es')(p:τ<+:a):jd W H D B d f b a es':=
 ⟨k,h.st.move c h.ni k.tab p,c.get h.al h.nl,h.nl,h.ni⟩
def ze(W:World)(t:(Kind×Kind)×Nat):Prop:=kt W (t.1.1,t.1.2)<=t.2/\kt W (t.1.2,t.1.1)<=t.2
theorem GR{a b q:Nat}(h:a<=b):a<=q+b:=aaS h (abj b q)
theorem bl1{C t q}(h:t+(q+40000)<=C):t+20000<=C:=aaS (aa3 (GR (Nat.le_of_ble_eq_true Y)) t) h
theorem U5{C t q u}(h:t+(q+40000)<=C)(l:u<=t+20000):u+20000<=C:=by
 refine aaS (aa2 l 20000) (aaS ?_ h);rw[abu];exact aa3 (GR (aaX 40000)) t
theorem OD(h:t+(q+40000)<=C)(l:u<=t+20000)(k:v<=u+20000):v+q<=C:=by
 refine aaS (aa2 (aaS k (aaS (aa2 l 20000) (aa7 (abu t 20000 20000)))) q) (aaS (aa7 ?_) h);rw[abu,abE 40000 q]
theorem WU(l:u<=t+20000)(k:v<=u+20000)(m:w<=v+q):w<=t+(q+40000):=by
 refine aaS m (aaS (aa2 (aaS k (aaS (aa2 l 20000) (aa7 (abu t 20000 20000)))) q) (aa7 ?_));rw[abu,abE 40000 q]
theorem CW(a:b=0\/b=8):b.testBit 5=false/\b.testBit 6=false/\b.testBit 0=false/\b.testBit 2=false:=by
 rcases a with rfl|rfl<;>decide
theorem oT(a:b=0\/b=8)(nd:l.Nodup)(h:∀y∈l,bu W y):jF W (b,l):=by
 have bits:=CW a;refine⟨⟨nd,λx m=>(h x m).ok.1,?_,?_,?_,?_,?_⟩,λz m=>⟨(h z m).ok,?_⟩,λz m J=>h z m⟩
 .rcases a with rfl|rfl
  .exact show 0<256 by decide
  .exact show 8<256 by decide
 .exactλe=>absurd (bits.1.symm.trans e) aaY
 .exactλe=>absurd (bits.2.1.symm.trans e) aaY
 .exactλe=>absurd (bits.2.2.1.symm.trans e) aaY
 .exactλe=>absurd (bits.2.2.2.symm.trans e) aaY
 .cases z with
  |lf x=>cases((h _ m).own)
  |own=>exact aa9 _
  |six=>exact aa9 _
theorem Jz(m:a∈a7):jF W a.kind:=by
 have w:=nN a m;have k:=jB w λy e=>(l_ a m y e).2;exact⟨dN w,(dR.ok k).1,λz b h=>by rw[(dR.ok (W:=W) k).2 z b] at h;cases h⟩
theorem CS(i:W.Ok)(f:∀x∈l,bu W x)(a:∀y∈m,bu W y):sum2 (tt W) l m<=1240*(l.length*m.length):=by
 have row:∀x,bu W x->∀m:List Th,(∀y∈m,bu W y)->(m.map (tt W x)).sum<=1240*m.length:=λx h m=>by
  induction m with
  |nil=>intro _;exact aa9 _
  |cons y m d=>
   intro a;have:=d λz b=>a z (abF _ b)
   have c:=rD i h.own (a y abK).own;rw[abM,List.sum_cons,abt];omega
 induction l with
 |nil=>exact aa9 _
 |cons x l d=>
  have:=d λz b=>f z (abF _ b)
  have c:=row x (f x abK) m a;rw[YL,abt,Nat.add_mul l.length 1 m.length,Nat.one_mul];omega
theorem FH(a:W.Ok)(f:∀x∈l,bu W x)(d:∀y∈m,bu W y)(j:1+2480*(l.length*m.length)<=N):ze W (((b,l),(c,m)),N):=by
 have i:=CS a f d;have h:=CS a d f;exact⟨jw (by dsimp only;omega),jw (by dsimp only;omega)⟩
def T3(two:List AK)(l:List Th):Prop:=(∃z,l=[z])\/∃z,l=[z,.own 0 two]
theorem N0(d:W.Ok)(f:bu W (.own 0 two))(t:T3 two l)(h:∀y∈l,bu W y):ze W (((b,[Th.own 0 two]),(c,l)),2481):=by
 have s:sum2 (tt W) [Th.own 0 two] l<=1240/\sum2 (tt W) l [Th.own 0 two]<=1240:=by
  rcases t with⟨z,e⟩|⟨z,e⟩<;>subst e<;>have a:=h z (aK 0 Y)
  .exact⟨rD d f.own a.own,rD d a.own f.own⟩
  .exact⟨aaS (aa7 (aaU (tt W _ z+·) Jo)) (rD d f.own a.own),aaS (aa7 (aaU (tt W z _+·) Jo)) (rD d a.own f.own)⟩
 exact⟨jw (abw (aa3 s.1 1) s.2),jw (abw (aa3 s.2 1) s.1)⟩
theorem Zl(h:σ[r]?=some (.list l))(f:l.length=4)(q:Q (.loc σ.length) (σ++[.list l.reverse])):Ok (d7 (.loc r) .none .none (.int (-1))) σ Q:=by
 obtain⟨a,b,c,d,e⟩:=vv f;exact u2 (.inl h) ⟨Y,Y,Y,()⟩ (f▸()) (e▸og (k:=4) (is:=[3,2,1,0]) Y ()) q
theorem Ms(h:cq B W σ τ):∀a∈[B.A.w,B.A.rows,B.A.r0,B.A.r1,B.A.box,B.d_,B.params,B.T.tab,B.T.rows,B.T.index],a<σ.length:=by
 intro a m;obtain⟨es,e,_⟩:=h.w.w;obtain⟨l,b,_⟩:=h.params;simp at m;rcases m with rfl|rfl|rfl|rfl|rfl|rfl|rfl|rfl|rfl|rfl
 .exact(abg.mp e).1
 .exact(abg.mp h.w.rows).1
 .exact(abg.mp h.w.r0).1
 .exact(abg.mp h.w.r1).1
 .exact(abg.mp h.w.box).1
 .exact(abg.mp h.d_).1
 .exact(abg.mp b).1
 .exact(abg.mp h.tab.tab).1
 .exact(abg.mp h.tab.rows).1
 .exact(abg.mp h.tab.index).1
theorem e9.WN(h:e9 W T H D σ τ es)(c:ag F σ b)(u:∀a∈F,a∈[T.rows,T.index]\/σ.length<=a)(t:Tab b T f)(p:τ<+:f):e9 W T H D b f es:=by
 have fr {a x} (e s):b[a]?=some x:=c.get e λm=>(u a m).elim s λq=>ab0.mpr q (dv e);have d {a} (i m):a∉[T.rows,T.index]:=λn=>h.fx a (aK i m) (abe [H.ins] n);have r k (l:k<4):D.a k∉[T.rows,T.index]:=by
  rcases k with _|_|_|_|k
  .exact d 2 Y
  .exact d 3 Y
  .exact d 4 Y
  .exact d 5 Y
  .exact absurd l (ab0.mpr (abj ..))
 exact⟨h.base.mono p,h.str0.imp λj=>cU p,h.dW.mono p,h.ins.mono p,t,⟨fr h.host.host (d 6 Y),fr h.host.ins λm=>(yT [T.rows,T.index] [H.ins] h.ne3).2 _ m (.head _)⟩,⟨fr h.decl.list (d 1 Y),λk l=>(h.decl.decl k l).imp λfs e=>⟨fr e.1 (r k l),e.2⟩⟩,h.ne3,h.fx⟩
theorem R0(b:jn W τ D):∃j:Nat,τ[j]?=some (Row.str 0):=by
 obtain⟨ps,_,a⟩:=b.i3;cases ps with
 |nil=>exact a.elim
 |cons p r=>exact a.1.2.2.2.elim λvs q=>q.2.elim λK k=>(k.2.2.2 0 Y).imp λj u=>u.2
theorem Bh{W}{b ps:List (Th×Th)}(a:∀p,p∈b↔p∈ps/\br W p.1 p.2){x y}(d:x=y\/(x,y)∈ps):(decide (x=y)||decide ((x,y)∈b))=true↔(x=y\/br W x y):=by
 rw[Bool.or_eq_true,abr,abr,a];constructor
 .rintro(e|⟨_,l⟩)
  .exact .inl e
  .exact .inr l
 .rintro(e|l)
  .exact .inl e
  .rcases d with e|m
   .exact .inl e
   .exact .inr ⟨m,l⟩
theorem Ae(c:b=0\/b=8)(h:∀y∈l,y∈U)(a:l.length<=2):UK W U (b,l):=⟨h,by omega,by omega⟩
noncomputable def g0(W:World)(one two:List AK)(j:Nat):List Th:=
 if j=0 then[.own 1 one] else if j=1 then[.own 1 two] else if j=2 then[.six] else if j=3 then[.six] else if j=4 then[.own 1 one,.own 0 two] else[.own 0 one.reverse]
noncomputable def dM(one two:List AK)(j:Nat):List AK:=if j=3 then two else one
theorem pg{W}{U:List Th}{x}(h:bu W x/\x∈U):(∀y∈[x],bu W y/\y∈U)/\[x].Nodup/\[x].length<=2:=⟨λy m=>aaT.mp m▸h,abv.mpr ⟨nofun,.nil⟩,ab7 1⟩
theorem MO{W}(c:W.Ok){one two}(p:Pair W one two){j}(d:j<6):(∀y∈g0 W one two j,bu W y/\y∈bl one two)/\(g0 W one two j).Nodup/\(g0 W one two j).length<=2:=by
 have own {k l} (b a):bu W _/\Th.own k l∈bl one two:=⟨tO c b (four p a),k_ b a⟩;have six:bu W .six/\Th.six∈bl one two:=⟨y_ p,by simp[bl]⟩
 rcases j with _|_|_|_|_|_|j
 .exact pg (own () (.inl Y))
 .exact pg (own () (.inr (.inr (.inl Y))))
 .exact pg six
 .exact pg six
 .exact⟨aa'.mpr ⟨own () (.inl Y),λy m=>(aaT.mp m).symm▸(own () (.inr (.inr (.inl Y))))⟩,abv.mpr ⟨λm=>absurd (Th.own.inj (aaT.mp m)).1 (),abv.mpr ⟨nofun,.nil⟩⟩,aaX 2⟩
 .exact pg (own () (.inr (.inl Y)))
 .exact absurd d (ab0.mpr (abj ..))
theorem QE{W one two j}(a:j<6):T3 two (g0 W one two j):=by
 rcases j with _|_|_|_|_|_|j
 .exact .inl ⟨_,Y⟩
 .exact .inl ⟨_,Y⟩
 .exact .inl ⟨_,Y⟩
 .exact .inl ⟨_,Y⟩
 .exact .inr ⟨_,Y⟩
 .exact .inl ⟨_,Y⟩
 .exact absurd a (ab0.mpr (abj ..))
theorem L3{σ r}{x y:AV}(h:σ[r]?=some (.list [x,y])){n}(a:n=1\/n=2){Q}(q:Q (.loc σ.length) (σ++[.list ([x,y].take n)])):Ok (d7 (.loc r) .none (iv n) .none) σ Q:=by
 have e:ko [x,y] none (some (n)) none=[x,y].take n:=by
  rcases a with rfl|rfl
  .exact og (k:=2) (is:=[0]) Y ()
  .exact og (k:=2) (is:=[0,1]) Y ()
 exact u2 (.inl h) ⟨Y,Y,Y,nofun⟩ (():2<=sizeLine) e q
theorem Z5(x:Int):∃k:Nat,x.fmod 9973=(k):=⟨(x.fmod 9973).toNat,by
 omega⟩
theorem RF{σ r o}{l:List Int}(h:σ[r]?=some (.dX o (l.map .int)))(a:l.length<=63){Q}(q:∀k:List Int,k.length<=40->Q (.loc σ.length) (σ++[.list (k.map .int)])):Ok (d7 (.loc r) .none (.int 40) .none) σ Q:=by
 have e:ko (l.map .int) none (some 40) none=(l.take 40).map .int:=by
  rw[og (aa1 _) ((by decide+kernel:∀n≤63,sliceRange (sliceBounds none _ none n).1 (sliceBounds none _ none n).2.1 (sliceBounds none _ none n).2.2=List.range (min 40 n)) _ a),w5 _ _ (by rw[aa1];omega),List.map_take]
  by_cases q:40<=l.length
  .rw[Nat.min_eq_left q]
  .rw[Nat.min_eq_right (by omega),List.take_of_length_le (by rw[aa1];exact aaX _),List.take_of_length_le (by rw[aa1];omega)]
 exact u2 (.inr ⟨_,h⟩) ⟨Y,Y,Y,nofun⟩ (aaS (aaS (aa7 (aa1 _)) a) ()) e (q _ (aaS (List.length_take_le ..) (aaX _)))
section
variable{σ aj n6:Sg}{T:TH}{τ cm xK:List Row}{c d:Nat}
theorem Tab.app(t:Tab σ T τ):Tab (σ++x) T τ:=⟨ay t.tab,ay t.rows,ay t.index,t.nodup⟩
theorem Tab.ne(t:Tab σ T τ):T.rows≠T.index/\T.rows≠T.tab/\T.index≠T.tab:=by
 refine⟨λe=>?_,λe=>?_,λe=>?_⟩
 .have:=t.rows;rw[e,t.index] at this;cases this
 .have:=t.rows;rw[e,t.tab] at this;cases this
 .have:=t.index;rw[e,t.tab] at this;cases this
end
namespace W
theorem dh{l}{i:Nat}(h:i<2^62):iK l (i)=l[i]?:=by
 show(bif Nat.blt i _ then l[i]? else none)=_;rw[show Nat.blt i _=true by simpa using h];rfl
theorem cd{p A B:Prop}[Decidable p](b:p->A)(a:¬p->B):match decide p with|true=>A|false=>B:=by
 by_cases h:p
 .rw[aba h];exact b h
 .rw[abf h];exact a h
theorem iu{p A B:Prop}[Decidable p](h:p)(a:A):match decide p with|true=>A|false=>B:=(aba h)▸a
theorem dg{p A B:Prop}[Decidable p](h:¬p)(a:B):match decide p with|true=>A|false=>B:=(abf h)▸a
theorem cN{p A B:Prop}[Decidable p](b:¬p->A)(a:p->B):match !decide p with|true=>A|false=>B:=by
 by_cases h:p
 .rw[aba h];exact a h
 .rw[abf h];exact b h
theorem cT{b}{A B:Prop}:b=true->A->(match b with|true=>A|false=>B):=by rintro rfl q;exact q
theorem cF{b}{A B:Prop}:b=false->B->(match b with|true=>A|false=>B):=by rintro rfl q;exact q
theorem cB{b}{A B:Prop}:(b=true->A)->(b=false->B)->(match b with|true=>A|false=>B):=by
 cases b
 .exactλJ q=>q Y
 .exactλq J=>q Y
theorem dt{p}[Decidable p](h:decide p=true):p:=abl h
theorem sl(h:Nat.beq y x=false)(e:L.lookup y=some v):(aT L x u).lookup y=some v:=by rw[mD,aa_ λq=>by rw[q,Nat.beq_refl] at h;cases h];exact e
theorem se:(aT L x u).lookup x=some u:=by rw[mD,abn Y]
theorem sn(h:y≠x):(aT L x u).lookup y=L.lookup y:=by rw[mD,aa_ h]
theorem er(h:Nat.beq y x=false)(e:L.lookup y=some v):(fQ L [x]).lookup y=some v:=by rw[xT,aa_ λq=>by rw[aaT.mp q,Nat.beq_refl] at h;cases h];exact e
theorem aD{b:Type}{l:List b}{i a}(h:l[i]?=some a):i<l.length:=(abg.mp h).1
theorem sz(h:n<=16000000):n<=sizeLine:=aaS h ()
theorem ne1(h:a≠b):a∉[b]:=λm=>h (aaT.mp m)
theorem zo(kx:x.key=true)(a:x.depth<=40)(q:Q (.bool false) σ):pr (Mine.Internal.fv x x) Q σ:=bR (uK kx kx a (by rw[aba Y];exact q))
structure bg(σ T)(τ c aj cm):Prop where
 tab:Tab aj T cm
 chg:ag [T.rows,T.index] σ aj
 pre:τ<+:cm
 len:cm.length<=τ.length+c
section
variable{σ aj n6:Sg}{T:TH}{τ cm xK:List Row}{c d:Nat}
theorem bg.refl(t:Tab σ T τ):bg σ T τ c σ τ:=⟨t,.refl,abp _,aaW ..⟩
theorem bg.trans(a:bg σ T τ c aj cm)(b:bg aj T cm d n6 xK):bg σ T τ (c+d) n6 xK:=⟨b.tab,a.chg.trans b.chg,a.pre.trans b.pre,aaS b.len (abu .. ▸aa2 a.len d)⟩
theorem bg.le(a:bg σ T τ c aj cm)(h:c<=d):bg σ T τ d aj cm:=⟨a.tab,a.chg,a.pre,aaS a.len (aa3 h _)⟩
theorem bD(t:Tab σ T τ){i r}(h:τ[i]?=some r)(a:τ.length<=16000000){Q:PX}(q:Q r.enc σ):getM (.loc T.rows) (iv i) Q σ:=
 ae t.rows (a5 ((dh (abB (abb (aD h) a) ())).trans (by rw[abm,h];rfl)) q)
end
theorem h9(n)(t:Tab σ T τ)(u:r.ok=true)(p:τ.length<=16000000)(q:∀i c f,bg σ T τ 1 f c->c[i]?=some r->Q (iv i) f):C (n+1) 177 [.loc T.tab,r.enc] Q σ:=by
 have l:=Row.uC u;refine fn vM Y Y (ae t.tab (ae t.index ⟨l,?_⟩));by_cases h:r∈τ
 .have e:aO (gi τ) r.enc=some (iv (τ.idxOf r)):=by rw[ph,abn h]
  exact cT (by rw[e];rfl) (ae t.tab (ae t.index ⟨l,a5 e (q _ τ σ (.refl t) (zL h))⟩))
 .have e:aO (gi τ) r.enc=none:=by rw[ph,aa_ h]
  have z:(τ.map Row.enc).length<=16000000:=by rw[aa1];exact p
  have⟨j,m,s⟩:=t.ne;have d:aM (gi τ) r.enc (.int ((τ.map Row.enc).length))=gi (τ++[r]):=by rw[aa1];exact QZ h
  refine cF (by rw[e];rfl) (ae t.tab (ae t.rows ⟨aaZ z (),ae t.tab (ae t.rows (ae t.rows ⟨sz z,ae (a4 t.tab m) (ae (a4 t.index j) ⟨⟨l,?_⟩,?_⟩)⟩))⟩))
  .exact(show(gi τ).length=τ.length from(aa1 ..).trans List.length_zipIdx)▸sz p
  .rw[d];refine(aa1 Row.enc▸q τ.length _ _ ⟨⟨a4 (a4 t.tab m) s,?_,ba (a4 t.index j),?_⟩,(ag.set (abK ..)).trans (ag.set (abF _ (abK ..))),List.prefix_append ..,aa7 (aa4 ..)⟩ (List.getElem?_concat_length ..):)
   .exact abA▸a4 (ba t.rows) j.symm
   .exact abR.mpr ⟨t.nodup,abv.mpr ⟨abo,ab6⟩,λa x b w e=>h (by rw[←aaT.mp w,←e];exact x)⟩
theorem Yt(n)(t:Tab σ T τ)(h:τ[i]?=some r)(a:τ.length<=16000000)(q:Q (.tup ((f6 i r).map iv)) σ):
  C (n+1) 251 [.loc T.tab,iv i] Q σ:=by
 unfold f6 at q
 refine fn IJ Y Y (cd (λe=>?_) λe=>?_)
 .rw[abn (abC e)] at q;exact q
 .rw[aa_ λh=>e (aaU Int.ofNat h)] at q;refine ae t.tab (bD t h a ?_);clear h;cases r<;>exact q
theorem X'(n)(q:Q (.int (yv r)) σ):C (n+1) 258 [r.enc] Q σ:=by
 cases r<;>exact fn E3 Y Y q
theorem Sf(n:Nat):Builtin.Slice.slicePlaces 0 n 1=n:=by
 show(if(0:Int)<n then((n:Int)-0-1)/1+1 else 0).toNat=n;rw[Int.ediv_one];split<;>omega
theorem XF(l):dG l none (some (-1)) none=l.dropLast:=by
 unfold dG lI;rw[(Prod.ext Y (show max _ 0=_ by omega):iA none (some (-1)) none l.length=(0,((l.length-1:Nat):Int)))]
 show(List.range (Builtin.Slice.slicePlaces 0 _ 1)).filterMap _=_;rw[Sf,List.dropLast_eq_take,←w5 _ _ (Nat.sub_le ..)];exact aaU (λf=>List.filterMap f _) (funext λk=>aaU _ (show(0+(k:Int)*1).toNat=k by omega))
theorem DI(h:l.length<=100)(q:Q (.tup l.dropLast) σ):pr (Mine.Internal.d7 (.tup l) .none (.int (-1)) .none) Q σ:=bR ⟨none,some (-1),none,⟨Y,Y,Y,nofun⟩,show(dG l none _ none).length<=sizeLine/\Q _ σ from(XF l).symm▸⟨sz (List.length_dropLast▸aaS (Nat.sub_le ..) (aaS h ())),q⟩⟩
theorem Z9(n)(t:Tab σ T τ)(h:τ[i]?=some r)(b:jf r=true)(a:τ.length<=16000000)(q:Q (.int (jV τ r)) σ):
  C (n+1) 265 [.loc T.tab,iv i] Q σ:=by
 refine fn GN Y Y (ae t.tab (bD t h a ?_))
 clear h
 cases r with
 |fC _ _=>cases b
 |str f=>
  refine cd (λe=>ae t.tab (ae t.index (DI (dt Y) ⟨⟨nofun,nofun,dt Y⟩,ae t.index ⟨Row.uC (r:=.str 0) Y,?_⟩⟩))) λe=>?_
  .dsimp only[jV] at q;have e2:=abC e;subst e2;have d:aO (gi τ) (.tup [.int 3,.str _,.int 0])=_:=ph (r:=.str 0);refine(?_:Q ((aO _ (.tup [.int 3,.str _,.int 0])).getD _) σ);rw[d];by_cases m:Row.str 0∈τ
   .rw[abn ⟨Y,m⟩] at q;rw[abn m];exact q
   .rw[aa_ λ(x)=>m x.2] at q;rw[aa_ m];exact q
  .dsimp only[jV] at q;rw[aa_ λ(x)=>e (aaU Int.ofNat x.1)] at q;exact q
 |_=>exact q
theorem lG(h:σ[g]?=some (.dict .int (gE G)))(e:bN G k=b)(q:Q (.bool (match pos with|true=>b|false=>!b)) σ):gK pos (.int k) (.loc g) Q σ:=ae h ⟨Y,by rw[H',e];exact q⟩
theorem VZ(n)(h:σ[g]?=some (.dict .int (gE G)))(b:bN G 8=false)(a:bN G 14=false)(q:Q .none σ):C (n+1) 272 [.loc g] Q σ:=
 fn Hi Y Y (lG h b (lG h a q))
theorem Qf(n)(h:σ[g]?=some (.dict .int (gE G)))(c:bN G 1=false)(q:Q (.int (v7 G)) σ):C (n+1) 286 [.loc g] Q σ:=by
 unfold v7 at q;refine fn Iw Y Y (lG h Y ?_);cases b:bN G 0
 .refine lG h Y ?_;rw[b] at q;cases a:bN G 13
  .rw[a] at q;exact lG h c q
  .rw[a] at q;exact q
 .rw[b] at q;exact q
theorem V'(n)(t:Tab σ T τ)(h:τ[i]?=some r)(d:jf r=true)(a:τ.length<=16000000)(b:σ[g]?=some (.dict .int (gE G)))
  (q:Q (.bool (ru τ G r)) σ):C (n+2) 279 [.loc T.tab,.loc g,iv i] Q σ:=by
 refine fn HL Y Y (Z9 n t h d a (lG b Y ?_))
 unfold ru at q
 cases c:bN G _
 .rw[c] at q;exact ae t.tab (bD t h a (X' n (lG b Y q)))
 .rw[c] at q;exact q
theorem Oo(n){σ T τ g k}{G l0:List Nat}(t:Tab σ T τ)(d:τ.length<=16000000)(f:σ[g]?=some (.dict .int (gE G)))(c:σ[k]?=some (.list (l0.map iv))){L}(s:L.lookup 257=some (.loc T.tab))(j:L.lookup 138=some (.loc g))
  (l:List Nat)(hp:∀p∈l,∃r,τ[p]?=some r/\jf r=true):∀{Q},Q ((l.filter (fZ τ G)).map iv) σ->
  bK (aH (n+2)) (X.v 256) (.one 256) (some (X.call 252 279 [(X.v 257),(X.v 138),(X.v 256)])) (.loc k (l0.map iv)) L (l.map iv) Q σ:=by
 induction l with
 |nil=>exactλq=>⟨c,q⟩
 |cons p l a=>
  intro Q q;obtain⟨r,b,i⟩:=hp p abK;rw[List.filter_cons] at q;refine⟨c,aa (sl Y s) (aa (sl Y j) (aa se (V' n t b i d f (nT b▸?_))))⟩;cases h:fZ τ G p
  .rw[aa_ (h▸nofun)] at q;exact a (λp m=>hp p (abF _ m)) q
  .rw[abn h] at q;exact aa se (a (λp m=>hp p (abF _ m)) q)
theorem Yq(n)(ps:List Nat):∀{σ L G},σ[g]?=some (.dict .int (gE G))->L.lookup 138=some (.loc g)->(ps.foldl dT G).length<64->
  ∀{Q},(∀d a,ag [g] σ a->a[g]?=some (.dict .int (gE (ps.foldl dT G)))->(∀y,y≠201->d.lookup y=L.lookup y)->Q .next d a)->
  bU (aH n) (.one 201) [S.c9 (X.v 138) (X.v 201) (X.int 1)] (.seq src) (ps.map iv) L Q σ:=by
 induction ps with
 |nil=>exactλb f J J q=>q _ _ .refl b λJ J=>Y
 |cons p ps j=>
  intro σ L G b f i Q q;exact aa (sl Y f) (aa se (ae b ⟨⟨Y,(sz (abG (abB (by rw[gE,aa1];exact(aaZ (aaS (Ck G p) (DJ ps _)) i)) ())))⟩,L4▸j (ba b) (sl Y f) i λd a c m l=>q d a (.trans (.set (aaT.mpr Y)) c) m λy h=>(l y h).trans (sn h)⟩))
theorem Nw(n)(hl:τ.length<=16000000)(w:T.tab≠g/\T.rows≠g/\T.index≠g)(l:List Nat):∀{σ L G},Tab σ T τ->(∀k l,src=.loc k l->k≠g/\σ[k]?=some (.list l))->σ[g]?=some (.dict .int (gE G))->
  L.lookup 138=some (.loc g)->L.lookup 257=some (.loc T.tab)->(∀i∈l,∃r,τ[i]?=some r)->(l.foldl (dm τ) G).length<64->
  ∀{Q},(∀z a,ag [g] σ a->a[g]?=some (.dict .int (gE (l.foldl (dm τ) G)))->(∀y,y≠201->y≠256->z.lookup y=L.lookup y)->Q .next z a)->
  bU (aH (n+1)) (.one 256) [S.ck (.one 201) (It.val (X.call 203 251 [(X.v 257),(X.v 256)])) [S.c9 (X.v 138) (X.v 201) (X.int 1)]] src (l.map iv) L Q σ:=by
 have so:∀{σ P},(∀k l,src=.loc k l->k≠g/\σ[k]?=some (.list l))->P->so src σ P:=λh q=>by
  cases src with
  |seq _=>exact q
  |loc k l=>exact⟨(h k l Y).2,q⟩
 induction l with
 |nil=>exactλJ b u J J J J J q=>so b (q _ _ .refl u λJ J J=>Y)
 |cons i l U=>
  intro σ L G t b u M p D H Q q;obtain⟨r,f⟩:=D i abK;have N:dm τ G i=(f6 i r).foldl dT G:=by unfold dm;rw[f]
  refine so b (aa (sl Y p) (aa se (Yt n t f hl (Yq (n+1) _ u (sl Y M) (N▸aaZ (ZH τ l _) H) λz a c h1 x=>?_))));refine U (t.chg c (ne1 w.1) (ne1 w.2.1) (ne1 w.2.2)) (λk l e=>⟨(b k l e).1,c.get (b k l e).2 (ne1 (b k l e).1)⟩) (N▸h1) ((x _ ()).trans (sl Y M)) ((x _ ()).trans (sl Y p)) (λj m=>D j (abF _ m)) H λA s c' h3 h4=>q A s (c.trans c') h3 λy B d=>(h4 y B d).trans ((x y B).trans (sn d))
theorem Vd(h:σ[g]?=some (.dict .int (gE G)))(a:G.length<64)(q:Q (.loc σ.length) (σ++[.list ((fU G).map iv)])):pr (Mine.Internal.pA (.loc g)) Q σ:=by
 refine bR ⟨g,.int,gE G,_,⟨Y,h,nofun,by rw[gE,aa1];exact a,.inl ⟨G.map λ(p:Nat)=>(p),?_,Y⟩⟩,?_⟩
 .rw[gE,List.map_map,List.map_map];rfl
 .rw[←AF,List.map_map];exact q
theorem Ko(n)(t:Tab σ T τ)(N:τ.length<=16000000)(hP:Jm σ P l)(hr:∀i∈l,∃r,τ[i]?=some r)(y:(l.foldl (dm τ) []).length<64)
  (A:∀p∈l.foldl (dm τ) [],(∃r,τ[p]?=some r/\jf r=true)/\p≠1/\p≠8/\p≠14)(q:∀i f j,bg σ T τ 1 j f->UT f i (qi τ (l.foldl (dm τ) []))->Q (iv i) j):
  C (n+3) 291 [.loc T.tab,P] Q σ:=by
 have s:∀{k o},σ[k]?=some o->k≠σ.length:=λe=>abx (aD e)
 have go:∀src,src.items=l.map iv->(∀k m,src=.loc k m->k≠σ.length/\(σ++[.dict .int []])[k]?=some (.list m))->bU (aH (n+2)) (.one 256) [S.ck (.one 201) (It.val (X.call 203 251 [(X.v 257),(X.v 256)])) [S.c9 (X.v 138) (X.v 201) (X.int 1)]] src src.items
   (aT (hS oU.params ([.loc T.tab,P]++oU.defs)) 138 (.loc σ.length)) (kS (bH (aH (n+2)) (oU.body.drop 2)) (cL Q)) (σ++[.dict .int []]):=by
  intro src e1 e2
  rw[e1]
  refine Nw (n+1) N ⟨s t.tab,s t.rows,s t.index⟩ l t.app e2 (az) Y Y hr y λL c w d hL=>?_
  have l1:=hL 257 () ()
  have l2:=hL 138 () ()
  have M:=t.app.chg w (ne1 (s t.tab)) (ne1 (s t.rows)) (ne1 (s t.index))
  have c2:ag [T.rows,T.index] σ c:=⟨aaS (ag.app (F:=[])).1 w.1,λm J o e=>w.get (ay e) (ne1 (s e))⟩
  revert y A q d
  generalize l.foldl (dm τ) []=G
  intro y A q d
  have no:∀k,k∉G->bN G (k)=false:=λk h=>pF.trans (abf h)
  refine aa l2 (Qf (n+1) d (no 1 λm=>(A 1 m).2.1 Y) (aa se ?_))
  have u:∀i f j,bg c T τ 1 j f->UT f i (qi τ G)->Q (iv i) j:=λi f j o=>q i f j ⟨o.tab,c2.trans o.chg,o.pre,o.len⟩
  unfold v7 qi at*
  by_cases h0:bN G 0=true
  .rw[abn h0] at u⊢;exact aa se (u 0 τ c (.refl M) (.inr (.inl Y)))
  rw[aa_ h0] at u⊢
  by_cases D:bN G 13=true
  .rw[abn D] at u⊢;exact aa se (u 13 τ c (.refl M) (.inr (.inl Y)))
  rw[aa_ D] at u⊢
  refine aa (sl Y l2) (VZ (n+1) d (no 8 λm=>(A 8 m).2.2.1 Y) (no 14 λm=>(A 14 m).2.2.2 Y) (aa (sl Y l2) (Vd d y (ae az ⟨?_,?_⟩))))
  .show((fU G).map iv).length<=_;rw[aa1,(q0 G).length_eq];exact sz (aaS (abG y) ())
  refine Oo n M.app N (ay d) az (er Y (sl Y l1)) (er Y (sl Y l2)) _ (λp m=>(A p ((q0 G).mem_iff.mp m)).1) ?_
  have B:((fU G).filter (fZ τ G)).length<64:=aaZ (abS ..) ((q0 G).length_eq▸y)
  revert B u
  generalize(fU G).filter (fZ τ G)=K
  intro u B
  have H:Tab ((c++[AO.list ((fU G).map iv)])++[AO.list (K.map iv)]) T τ:=M.app.app
  have U:ag [T.rows,T.index] c ((c++[AO.list ((fU G).map iv)])++[AO.list (K.map iv)]):=.trans .app .app
  have x:((c++[AO.list _])++[AO.list (K.map iv)])[(c++[AO.list ((fU G).map iv)]).length]?=some _:=az
  refine aa se ?_
  match K,B with
  |[],_=>exact ae x (u 2 τ _ ⟨H,U,abp _,ab7 _⟩ (.inl ⟨Y,Y⟩))
  |[p],_=>exact ae x ⟨dt Y,aa se (ae x ⟨dt Y,aa se (ae x (u p τ _ ⟨H,U,abp _,ab7 _⟩ (.inr (.inl Y))))⟩)⟩
  |a::b::K,B=>
   have z:((a::b::K).map iv).length<64:=by rw[aa1];exact B
   refine ae x ⟨abB z (),aa se (ae x ⟨abB z (),?_⟩)⟩;refine aa se (ae x ⟨abB z (),dg (by omega) ?_⟩)
   refine aa (sl Y (sl Y l1)) (ae H.tab (aa se (ae x ⟨sz (aaS (abG z) ()),h9 (n+1) H Y N λi f j o h=>u i f j ⟨o.tab,U.trans o.chg,o.pre,o.len⟩ (.inr (.inr ⟨abj ..,h⟩))⟩)))
 rcases hP with rfl|⟨k,rfl,h⟩
 .exact fn oU Y Y (go _ Y nofun)
 .exact fn oU Y Y (ae (ay h) (go _ Y λk' m e=>by cases e;exact⟨s h,ay h⟩))
theorem xy(n)(t:Tab σ T τ)(b:Base τ)(f:τ.length<=16000000)(s:Jm σ P l)(h:aG (aB W τ) ks l)(hz:lC ks<64)
  (q:∀i a c,bg σ T τ 1 c a->aB W a (aS ks) i->Q (iv i) c):C (n+3) 291 [.loc T.tab,P] Q σ:=by
 have d:=t.nodup
 refine Ko n t f s (OB d b h) ?_ (λp m=>?_) λi a c o u=>q i a c o (Y5 d b o.pre h u)
 .exact aaZ (Yj d b h) (ab5 _▸hz)
 .rw[Gv,Ee d b h] at m;rcases m with m|⟨k,_,j⟩
  .cases m
  .obtain⟨r,A,z,D,y,B,x,w⟩:=Hg b j;exact⟨⟨r,A,z⟩,y,x,w⟩
theorem ZO(n)(t:Tab σ T τ)(b:Base τ)(d:τ.length<=16000000)(h:aB W τ k i)(hz:k.2.length<40)
  (q:∀i a c,bg σ T τ 1 c a->aB W a (aS [k,(16,[])]) i->Q (iv i) c):C (n+4) 298 [.loc T.tab,iv i] Q σ:=by
 refine fn BN Y Y (xy n (l:=[i,4]) (ks:=[k,_]) t b d (.inl Y) ⟨h,SS,trivial⟩ ?_ q)
 have f:=BQ k.1
 show k.2.length+pc k.1+(0+pc 16+0)<64
 rw[show pc 16=1 by decide];omega
section
variable{σ:Sg}{T:TH}{τ:List Row}{i:Nat}{r:Row}{Q:PX}
theorem Q3(n)(t:Tab σ T τ)(h:τ[i]?=some r)(a:τ.length<=16000000)(q:Q (.bool (CN r)) σ):C (n+1) 305 [.loc T.tab,iv i] Q σ:=by
 refine fn BK Y Y (ae t.tab (bD t h a ?_));clear h;cases r<;>exact q
theorem xQ{a b:Nat}:decide ((a)=(b:Int))=decide (a=b):=ab8.mpr Int.ofNat_inj
theorem UJ(n)(t:Tab σ T τ)(h:τ[i]?=some r)(a:τ.length<=16000000)(q:Q (.bool (Ir r)) σ):C (n+1) 319 [.loc T.tab,iv i] Q σ:=by
 refine fn FN Y Y (ae t.tab (bD t h a ?_));clear h;cases r<;>first|exact q|exact(aaU (λb=>Q (.bool b) σ) (xQ)).mpr q
theorem SD(n)(q:Q w σ):C (n+1) 377 [v,w] Q σ:=fn Hu Y Y q
theorem Ly(n:Nat)(q:Q (.int (match r with
  |.ref d _=>(d:Int)
  |_=>0)) σ):C (n+1) 908 [r.enc] Q σ:=by
 cases r<;>exact fn Jn Y Y q
theorem AW(n){p}(q:Q (.bool (xZ p)) σ):C (n+1) 950 [p.enc] Q σ:=fn Gk Y Y ((aaU (λb=>Q (.bool b) σ) ((aaU not (xQ)).trans (decide_not ..).symm)).mpr q)
theorem Jp{a:Nat}:Builtin.bitAnd (a) 1=0↔a.testBit 0=false:=by
 rw[show 1=((1:Nat):Int) from Y,oh,Iq];cases a.testBit 0<;>decide
theorem JB(n){W}{p:a_}{m k}(t:Tab σ T τ)(b:Base τ)(f:τ.length<=16000000)(d:p.ms=m.ms)(h:aB W τ k p.t)(hz:k.2.length<40)
  (q:∀j a c,bg σ T τ 1 c a->aB W a (bP m k) j->Q (iv j) c):C (n+5) 571 [.loc T.tab,p.enc] Q σ:=by
 unfold bP at q
 refine fn G' Y Y (cd (λe=>?_) λe=>?_)
 .rw[aa_ (by rw[←d,Jp.mp e];exact nofun)] at q
  exact q p.t τ σ (.refl t) h
 .rw[abn (by rw[←d];exact Bool.not_eq_false _▸mt Jp.mpr e)] at q
  exact ZO n t b f h hz q
theorem yF(d:eQ σ a ps b)(h:∀fs,fs.lookup 200=some (.tup (ps.map iv))/\fs.lookup 106=some (iv b)/\fs.lookup 104=some (.tup [])->qn 201 fs x=some v)(q:Q v σ):jX (.loc a) x Q σ:=
 let⟨fs,e,l⟩:=d;ae e (a5 (h fs l) q)
theorem ve{C fs a v}(h:isField C a=true)(e:fs.lookup a=some v)(r:sX v=true):qn C fs a=some v:=by
 unfold qn;rw[h,e];dsimp only;rw[r];rfl
theorem CQ(d:eQ σ a ps b)(q:Q (.tup []) σ):jX (.loc a) 104 Q σ:=yF d (λfs l=>ve Y l.2.2 Y) q
theorem yB(d:eQ σ a ps b)(q:Q (iv b) σ):jX (.loc a) 106 Q σ:=yF d (λfs l=>ve Y l.2.1 Y) q
theorem sR(d:eQ σ a ps b)(q:Q (.tup (ps.map iv)) σ):jX (.loc a) 200 Q σ:=yF d (λfs l=>ve Y l.1 Y) q
theorem w8(d:Decls σ T W D)(b:k<4)(q:Q (.loc (D.a k)) σ):getM (.loc T.decls) (.int ((k+1:Nat):Int)) Q σ:=
 ae d.list (a5 (a:=.loc (D.a k)) (match k,b with
  |0,_=>rfl
  |1,_=>rfl
  |2,_=>rfl
  |3,_=>rfl) q)
theorem FG(n)(t:Tab σ T τ)(h:τ[i]?=some (.obj ps))(a:τ.length<=16000000)(q:Q (iv i) σ):C (n+1) 334 [.loc T.tab,iv i] Q σ:=
 fn Af Y Y ⟨dt Y,ae t.tab (bD t h a q)⟩
theorem MU(n)(t:Tab σ T τ)(d:Decls σ T W D)(h:τ[i]?=some (.ref 4 []))(c:τ[D.b 3]?=some (.obj ps))(a:τ.length<=16000000)(q:Q (iv (D.b 3)) σ):C (n+1) 334 [.loc T.tab,iv i] Q σ:=
 have b:=d.decl 3 ()
 fn Af Y Y ⟨dt Y,ae t.tab (bD t h a (ae t.tab (w8 d () (CQ b (ae t.tab (w8 d () (yB b (ae t.tab (bD t c a q)))))))))⟩
theorem B5(n)(t:Tab σ T τ)(h:τ[i]?=some (.par p))(d:τ.length<=16000000)(b:σ[g]?=some (.dict .int (gM M)))(c:M.lookup p=some a)(q:Q (iv a) σ):C (n+1) 339 [.loc T.tab,iv i,.loc g] Q σ:=
 fn pG Y Y (ae t.tab (bD t h d (ae b (ae b ⟨Y,by rw[Xn,c];exact q⟩))))
theorem tH(n)(t:Tab σ T τ)(h:τ[i]?=some r)(hp:vq r=true)(a:τ.length<=16000000)(q:Q (iv i) σ):C (n+1) 339 [.loc T.tab,iv i,g] Q σ:=by
 refine fn pG Y Y (ae t.tab (bD t h a ?_));clear h;cases r<;>first|exact q|cases hp
theorem Mh(n)(t:Tab σ T τ)(h:y4 τ M i)(d:τ.length<=16000000)(f:σ[g]?=some (.dict .int (gM M)))(q:Q (iv (jU τ M i)) σ):C (n+1) 339 [.loc T.tab,iv i,.loc g] Q σ:=by
 unfold jU at q;rcases h with⟨p,a,b,c⟩|⟨r,b,c⟩
 .rw[b] at q;dsimp only at q;rw[c] at q;exact B5 n t b d f c q
 .refine tH n t b c d ?_;rw[b] at q;clear b;cases r<;>first|exact q|cases c
theorem Yh(n)(t:Tab σ T τ)(b:τ.length<=16000000)(c:σ[g]?=some (.dict .int (gM M)))(f:L.lookup 257=some (.loc T.tab))(d:L.lookup 167=some (.loc g))
  (us:List Nat)(hp:∀u∈us,y4 τ M u):∀{Q},Q ((us.map (jU τ M)).map iv) σ->
  bK (aH (n+1)) (X.call 107 339 [(X.v 257),(X.v 94),(X.v 167)]) (.one 94) none (.seq src) L (us.map iv) Q σ:=by
 induction us with
 |nil=>exactλq=>q
 |cons u us a=>exactλq=>aa (sl Y f) (aa se (aa (sl Y d) (Mh n t (hp u abK) b c (a (λw m=>hp w (abF _ m)) q))))
theorem ug(n)(t:Tab σ T τ)(h:τ[i]?=some (.ref d us))(f:∀u∈us,y4 τ M u)(hz:us.length<100)(c:τ.length<=16000000)(l:σ[g]?=some (.dict .int (gM M)))
  (q:∀j a b,bg σ T τ 1 b a->a[j]?=some (.ref d (us.map (jU τ M)))->Q (iv j) b):C (n+2) 339 [.loc T.tab,iv i,.loc g] Q σ:=by
 have z:=sz (abG (abB hz ()))
 exact fn pG Y Y (ae t.tab (bD t h c (ae t.tab ⟨(aa1 iv).symm▸z,Yh n t c l Y Y us f (ae az ⟨by rw[aa1,aa1];exact z,(h9 n t.app Y c λj a b o=>q j a b ⟨o.tab,ag.trans .app o.chg,o.pre,o.len⟩)⟩)⟩)))
end
theorem DK(n)(t:Tab σ T τ)(b:Base τ)(B:fR τ x p)(hs:tw P x)(N:k4 τ P M ρ)(H:τ.length<=16000000)(L:σ[g]?=some (.dict .int (gM M)))
  (q:∀j f h,bg σ T τ 1 h f->aB W f (jc ρ x) j->Q (iv j) h):C (n+2) 339 [.loc T.tab,iv p,.loc g] Q σ:=by
 have U:∀{i d u},τ[u]?=some (.par i)->M.lookup i=some d->jU τ M u=d:=λr A=>by unfold jU;rw[r];dsimp only;rw[A];rfl
 cases x with
 |six=>cases B
 |own o as=>
  obtain⟨lt,us,e,a⟩:=B;obtain⟨hz,hs⟩:=hs;refine ug n t e (λu m=>?_) (a.length▸hz) H L λj f h o' z=>q j f h o' (fD ⟨lt,_,z,?_⟩)
  .obtain⟨c,mc,hc⟩:=a.gv m;obtain⟨i,D,rfl⟩:=hs c mc;obtain⟨d,r,_⟩:=N i D;exact .inl ⟨i,d,Fu hc,r⟩
  clear e hz q z;induction as generalizing us with
  |nil=>cases us with
   |nil=>trivial
   |cons=>exact a.elim
  |cons c as ih=>cases us with
   |nil=>exact a.elim
   |cons u us=>
    obtain⟨i,D,rfl⟩:=hs c abK;obtain⟨d,r,A⟩:=N i D;exact⟨U (Fu a.1) r▸A.mono o'.pre,ih us a.2 λc m=>hs c (abF _ m)⟩
 |lf x=>
  cases x with
  |i3=>exact ug n t B nofun () H L λj f h o' z=>q j f h o' (fD z)
  |i4=>cases hs
  |par i=>
   obtain⟨d,r,A⟩:=N i hs;exact B5 (n+1) t B H L r (q d τ σ (.refl t) (zO.mp A))
  |a9 c=>
   cases(hs)
   obtain⟨u,e,k⟩:=B;have hu:=K2 (j:=0) k t.nodup;have s:jU τ M u=u:=by unfold jU;rw[hu]
   exact ug n t e (λw m=>.inr ⟨_,aaT.mp m▸hu,Y⟩) (dt Y) H L λj f h o' z=>q j f h o' (fD ⟨u,z.trans (by rw[abM,List.map_nil,s]),k.mono o'.pre⟩)
  |aY c y=>
   cases y with
   |par i=>
    obtain⟨rfl,D⟩:=hs;obtain⟨u,v,e,l,k⟩:=B;cases yS k
    obtain⟨d,r,A⟩:=N i D;exact ug n t e (λw m=>.inl ⟨i,d,aaT.mp m▸l,r⟩) (dt Y) H L λj f h o' z=>q j f h o' (fD (x5.mpr ⟨d,z.trans (by rw[abM,List.map_nil,U l r]),A.mono o'.pre⟩))
   |_=>exact hs.elim
theorem SF(n f)(B:L.lookup 257=some (.loc T.tab))(A:L.lookup 167=some (.loc g))(h)(K:List Nat):∀σ τ,h<+:τ->Tab σ T τ->Base τ->τ.length+K.length<=16000000->σ[g]?=some (.dict .int (gM M))->
  (∀p∈K,∀σ τ,h<+:τ->Tab σ T τ->Base τ->τ.length<=16000000->σ[g]?=some (.dict .int (gM M))->∀Q,(∀j c d,bg σ T τ 1 d c->aB W c (f p) j->Q (iv j) d)->C (n+2) 339 [.loc T.tab,iv p,.loc g] Q σ)->
  ∀{Q},(∀l c d,bg σ T τ K.length d c->aG (aB W c) (K.map f) l->Q (l.map iv) d)->
  bK (aH (n+2)) (X.call 107 339 [(X.v 257),(X.v 201),(X.v 167)]) (.one 201) none (.seq src) L (K.map iv) Q σ:=by
 induction K with
 |nil=>exactλσ τ J t b w u H Q q=>q [] τ σ (.refl t) trivial
 |cons p K z=>
  intro σ τ hp t b w u H Q q;have x:τ.length+1+K.length<=16000000:=by rw[abu,abE 1];exact w
  exact aa (sl Y B) (aa se (aa (sl Y A) (H p abK σ τ hp t b (aaS (aaW ..) w) u _ λj i r a s=>(z r i (hp.trans a.pre) a.tab (b.mono a.pre) (aaS (aa2 a.len _) x) (a.chg.get u (Eu t u)) (λy m=>H y (abF _ m)) λl c d o' D=>(q (j::l) c d ((a.trans o').le (aa7 (abE ..))) ⟨s.mono o'.pre,D⟩)))))
theorem X5(n){W σ T}{τ i g K M}(f)(t:Tab σ T τ)(b:Base τ)(h:τ[i]?=some (.bl K))(x:τ.length+K.length<=15999999)(y:σ[g]?=some (.dict .int (gM M)))(hz:lC (K.map f)<64)
  (H:∀p∈K,∀σ c,τ<+:c->Tab σ T c->Base c->c.length<=16000000->σ[g]?=some (.dict .int (gM M))->∀Q,(∀j r d,bg σ T c 1 d r->aB W r (f p) j->Q (iv j) d)->C (n+3) 339 [.loc T.tab,iv p,.loc g] Q σ)
  {Q}(q:∀j c d,bg σ T τ (K.length+1) d c->aB W c (aS (K.map f)) j->Q (iv j) d):C (n+4) 339 [.loc T.tab,iv i,.loc g] Q σ:=by
 have m:=Nat.le_succ_of_le x
 exact fn pG Y Y (ae t.tab (bD t h (aaS (aaW ..) m) ⟨(aa1 iv).symm▸sz (aaS (abj ..) m),SF (n+1) f Y Y τ K σ τ (abp _) t b m y H λl u w a s=>(xy n a.tab.app (b.mono a.pre) (aaS a.len m) (.inr ⟨_,Y,az⟩) s hz λj c d o=>q j c d (bg.trans ⟨a.tab.app,a.chg.trans .app,a.pre,a.len⟩ o))⟩))
theorem AR(h:∀j,n.testBit j=true->False):n=0:=Nat.eq_of_testBit_eq λj=>by
 rw[Nat.zero_testBit];exact abV.mpr (h j)
theorem An(nd:l.Nodup)(m:x∈l)(all:∀y∈l,y=x):l=[x]:=by
 cases l with
 |nil=>cases m
 |cons y l=>cases l with
  |nil=>rw[all y (.head _)]
  |cons z r=>exact absurd (aa5.mpr (.inl ((all y (.head _)).trans (all z (.tail _ (.head _))).symm))) (abv.mp nd).1
theorem YH(h:∀p,(f p).2.length<=1)(K:List Nat):lC (K.map f)<=9*K.length:=by
 induction K with
 |nil=>exact aaX _
 |cons p K a=>exact aaS (abw (abw (h p) (BQ _)) a) (aa7 (abE ..))
theorem MC(j):pc (2^j)<=1:=lR (M:=[j]) (List.nodup_range.filter _) λi m=>(aaT.mpr (abl (ou▸((abZ.mp m).2))))
section
variable{W:World}{τ:List Row}{k:Kind}{t i j:Nat}{x:Th}
theorem sP{K}(kp:KP W τ k t K)(e:k.1.testBit j=true):∃p∈K,a6 τ j p:=let⟨p,u⟩:=kp.hH j e;⟨p,(kp.mem p).mpr (.inr ⟨j,e,u⟩),u⟩
theorem pL{K}(kp:KP W τ k t K)(m:x∈k.2):∃p∈K,IsT W τ x p:=let⟨v,a⟩:=kp.gq x m;⟨v,(kp.mem v).mpr (.inl ⟨x,m,a⟩),a⟩
theorem Tp(kp:KP W τ k t []):k=(0,[]):=Prod.ext (AR λJ h=>let⟨_,m,_⟩:=sP kp h;nomatch m) (List.eq_nil_iff_forall_not_mem.mpr λJ m=>let⟨_,m,_⟩:=pL kp m;nomatch m)
theorem Uk(f:W.namesOk)(b:Base τ)(nd:k.2.Nodup)(kp:KP W τ k t [i])(m:x∈k.2)(a:IsT W τ x i):k=(0,[x]):=
 Prod.ext (AR λJ h=>let⟨_,m,u⟩:=sP kp h;gW b (aaT.mp m▸u) a) (An nd m λJ m=>let⟨_,c,d⟩:=pL kp m;iQ f b (aaT.mp c▸d) a)
theorem V7(b:Base τ)(kp:KP W τ k t [i])(e:k.1.testBit j=true)(u:a6 τ j i):k=(2^j,[]):=by
 refine Prod.ext (Nat.eq_of_testBit_eq λc=>?_) (List.eq_nil_iff_forall_not_mem.mpr λJ m=>let⟨_,m,d⟩:=pL kp m;gW b u (aaT.mp m▸d));rw[ou];cases h:k.1.testBit c
 .exact(abf λq=>Bool.noConfusion (((q)▸h).symm.trans e)).symm
 .obtain⟨_,m,a⟩:=sP kp h;exact(aba (kg b (aaT.mp m▸a) u)).symm
theorem Si{K}(d:τ.Nodup)(kp:KP W τ k t K)(h:2<=K.length)(x):k≠(0,[x]):=by
 rintro rfl;have one:=λp m=>by
  rcases(kp.mem p).mp m with⟨y,b,c⟩|⟨j,e,_⟩
  .exact aaT.mp b▸c
  .rw[Nat.zero_testBit] at e;cases e
 cases K with
 |nil=>cases h
 |cons a K=>
  rw[An (kp.sorted.imp abx) (.head _) λp m=>fH d (one p m) (one a (.head _))] at h;exact absurd h (():¬2<=1)
end
theorem QM(n){W}(D:W.namesOk){σ T τ i g}{k P M ρ}(t:Tab σ T τ)(b:Base τ)(L:aB W τ k i)(A:lQ P k)(hm:k4 τ P M ρ)(hl:τ.length<=15000100)(hg:σ[g]?=some (.dict .int (gM M)))
  {Q}(q:∀j a d,bg σ T τ 20 d a->aB W a (iT ρ k) j->Q (iv j) d):C (n+4) 339 [.loc T.tab,iv i,.loc g] Q σ:=by
 obtain⟨K,kp⟩:=gG t.nodup L
 have SH:=vY t.nodup kp
 have parts:∀p∈K,∀σ a,τ<+:a->Tab σ T a->Base a->a.length<=16000000->σ[g]?=some (.dict .int (gM M))->∀Q,(∀j z d,bg σ T a 1 d z->aB W z (iG W τ ρ k p) j->Q (iv j) d)->C (n+3) 339 [.loc T.tab,iv p,.loc g] Q σ:=by
  intro p m d a hp U b' N RQ Q' q';rcases(kp.mem p).mp m with⟨x,f,s⟩|⟨j,e,u⟩
  .exact DK (n+1) U b' ((wU (B_ (A.simple x f))).mp (s.mono hp)) (A.simple x f) (hm.mono hp) N RQ ((p_ D b f s)▸q')
  .rw[uH b u] at q';obtain⟨r,e1,e2⟩:=Im b' (u.mono hp);exact tH (n+2) U e1 e2 N (q' p a d (.refl U) (mn (u.mono hp)))
 have KI:pc k.1<=2:=by
  rcases A.bits with e|⟨j,e⟩|e
  .rw[e];decide
  .exact e▸Nat.le_succ_of_le (MC j)
  .rw[e];decide
 have B:=aaS SH (abw A.len KI)
 have l6:τ.length<=16000000:=aaS hl ()
 rcases kp.ut with⟨rfl,rfl⟩|rfl|⟨e1,e2⟩
 .have e:=Tp kp;exact tH (n+3) t (bJ b 2 Y) Y l6 (q 2 τ σ (.refl t) (by rw[e] at L⊢;rw[sJ];exact L))
 .rcases(kp.mem i).mp (.head _) with⟨x,f,s⟩|⟨j,e,u⟩
  .have e:=Uk D b A.nodup kp f s;exact DK (n+2) t b ((wU (B_ (A.simple x f))).mp s) (A.simple x f) hm l6 hg λj a d o' k'=>q j a d (o'.le ()) (by exact e▸k')
  .have e:=V7 b kp e u;obtain⟨r,e1,e2⟩:=Im b u;exact tH (n+3) t e1 e2 l6 (q i τ σ (.refl t) (by rw[e] at L⊢;rw[sJ,Lq j (hO u)];exact L))
 .refine X5 n (iG W τ ρ k) t b e2 (aaS (abw hl B) ()) hg (aaZ (YH (λp=>TC) K) (aaZ (abz 9 B) ())) parts λj a d o' k'=>q j a d (o'.le (aaS (aa2 B 1) ())) ?_;rw[So (Si t.nodup kp e1)];have hj:∀j,(b7 0 (K.map (iG W τ ρ k))).testBit j=(b7 0 ((k.1,[])::k.2.map (jc ρ))).testBit j:=by
   intro j;rw[abP,hV,hV];constructor
   .rintro(h|⟨c,l,e⟩)
    .rw[Nat.zero_testBit] at h;cases h
    .obtain⟨p,w,rfl⟩:=aa6.mp l;rcases(kp.mem p).mp w with⟨x,f,s⟩|⟨j',e',u⟩
     .rw[p_ D b f s] at e;exact .inr ⟨_,abF _ (aa6.mpr ⟨x,f,Y⟩),e⟩
     .rw[uH b u,ou,abr] at e;subst e;exact .inr ⟨_,abK,e'⟩
   .rintro(h|⟨c,l,e⟩)
    .rw[Nat.zero_testBit] at h;cases h
    .rcases aa5.mp l with rfl|l
     .obtain⟨p,w,u⟩:=sP kp e;exact .inr ⟨_,aa6.mpr ⟨p,w,Y⟩,by rw[uH b u,ou];exact aba Y⟩
     .obtain⟨x,f,rfl⟩:=aa6.mp l;obtain⟨p,w,s⟩:=pL kp f;exact .inr ⟨_,aa6.mpr ⟨p,w,Y⟩,by rw[p_ D b f s];exact e⟩
  have s:∀x,(∃c∈K.map (iG W τ ρ k),x∈c.2)↔∃c∈(k.1,[])::k.2.map (jc ρ),x∈c.2:=by
   intro x;constructor
   .rintro⟨c,l,e⟩;obtain⟨p,w,rfl⟩:=aa6.mp l;rcases(kp.mem p).mp w with⟨y,H,hy⟩|⟨j',e',u⟩
    .rw[p_ D b H hy] at e;exact⟨_,abF _ (aa6.mpr ⟨y,H,Y⟩),e⟩
    .rw[uH b u] at e;cases e
   .rintro⟨c,l,e⟩;rcases aa5.mp l with rfl|l
    .cases e
    .obtain⟨y,H,rfl⟩:=aa6.mp l;obtain⟨p,w,hy⟩:=pL kp H;exact⟨_,aa6.mpr ⟨p,w,Y⟩,by rw[p_ D b H hy];exact e⟩
  obtain⟨c1,c2⟩:=xG hj s;exact BZ o'.tab.nodup c1 c2 k'
theorem Uh(q:Q (.tup [c,d,e,f]) σ):pr (Mine.Internal.d7 (.tup [a,b,c,d,e,f,g]) (.int 2) (.int 6) .none) Q σ:=bR (NO q)
theorem Ya(n){W}(B:W.namesOk){T}{g M P ρ}{c z:Mem->Kind}(H:∀m,lQ P (c m))(D:∀m,dw (iT ρ (c m)) (z m)){src L}(U:L.lookup 257=some (.loc T.tab))(N:L.lookup 167=some (.loc g))(ms:List Mem):
  ∀{ps σ τ},Tab σ T τ->Base τ->τ.length+20*ms.length<=15000100->σ[g]?=some (.dict .int (gM M))->k4 τ P M ρ->aG (eR τ) (ms.map λm=>(m,c m)) ps->
  ∀{Q},(∀i f h,bg σ T τ (20*ms.length) h f->aG (dC W f) (ms.map λm=>(m,z m)) i->Q (i.map a_.enc) h)->
  bK (aH (n+4)) (X.tup [(X.ix (X.v 210) (X.int 0)),(X.call 107 339 [(X.v 257),(X.ix (X.v 210) (X.int 1)),(X.v 167)]),(X.ix (X.v 210) (X.int 2)),(X.ix (X.v 210) (X.int 3))]) (.one 210) none (.seq src) L (ps.map a_.enc) Q σ:=by
 induction ms with
 |nil=>intro ps σ τ t b _ _ _ a Q q;cases ps with
  |nil=>exact q [] τ σ (.refl t) trivial
  |cons=>exact a.elim
 |cons m ms A=>intro ps σ τ t b y r x a Q q;cases ps with
  |nil=>exact a.elim
  |cons p ps=>
   have s:τ.length+20+20*ms.length<=15000100:=by rw[abu,abE 20];exact y
   exact aa se (aa (sl Y U) (aa se (aa (sl Y N) (QM n B t b ⟨a.1.2.2.2.choose,a.1.2.2.2.choose_spec.1.imp λJ J=>Aq,a.1.2.2.2.choose_spec.2⟩ (H m) x (aaS (aaW ..) y) r λj u w d l=>aa se (aa se (A d.tab (b.mono d.pre) (aaS (aa2 d.len _) s) (d.chg.get r (Eu t r)) (x.mono d.pre) ((aG.tl a).imp λJ J=>eR.mono d.pre) λi f h o' a'=>(q (⟨p.nm,j,p.ms,p.ow⟩::i) f h ((d.trans o').le (aa7 (abE ..))) ⟨⟨a.1.1,a.1.2.1,a.1.2.2.1,(Jd d.tab.nodup (D m) l).mono o'.pre⟩,a'⟩)))))))
theorem Vh(n){W}(hw:W.namesOk){σ H T D es τ k us as}(hh:Host σ H T es)(t:Tab σ T τ)(b:Base τ)(d:Decls σ T W D)(hk:k<3)(hb:iD W τ k (D.b k))(ha:aG (dD τ) as us)(hz:as.length=(aX W k).length)(hm:(cP W k).length<=3)(q9:∀m∈cP W k,m.nm<128)(hl:τ.length<=15000000)
  {Q}(q:∀j cm aj,bg σ T τ 61 aj cm->Ij W cm k as j->Q (iv j) aj):C (n+5) 344 [.loc H.host,(Row.ref (k+1) us).enc] Q σ:=by
 obtain⟨ps,hp,z⟩:=hb
 have N:=d.decl k (Nat.lt_succ_of_lt hk)
 obtain⟨p,w,r,Bi,hP⟩:=Fd W hk
 rw[hP] at N hz z
 have hc:∀m:Mem,lQ (if r then[p,w] else[p]) (cell W k m.how ((if r then[p,w] else[p]).map λi=>(0,some (.par i)))):=λm=>by cases r<;>exact U6 W k m.how p w _
 have zz:∀{α β R}{f:Mem->α}{l:List β},aG R ((cP W k).map f) l->l.length<=3:=λa=>a.length▸(aa1 _).symm▸hm
 have fin:∀{M ρ L h},k4 τ (if r then[p,w] else[p]) M ρ->(∀m:Mem,dw (iT ρ (cell W k m.how ((if r then[p,w] else[p]).map λi=>(0,some (.par i))))) (cell W k m.how as))->Tab h T τ->ag [T.rows,T.index] σ h->h[σ.length]?=some (.dict .int (gM M))->
   L.lookup 257=some (.loc T.tab)->L.lookup 167=some (.loc σ.length)->L.lookup 106=some (Row.obj ps).enc->bH (aH (n+4)) (xh.body.drop 7) L (cL Q) h:=by
  intro M ρ L h mo he OX c₁ xd l1 l2 l3
  refine aa l3 ⟨(aa1 a_.enc).symm▸sz (aaS (zz z) ()),Ya n hw hc he (er Y l1) (er Y l2) (cP W k) OX b (abw hl (aaS (abz 20 hm) (():20*3<=100))) xd mo z λJS Ek fi s y=>?_⟩
  refine ae az ⟨(aa1 a_.enc).symm▸sz (aaS (zz y) ()),aa (sl Y l1) (ae s.tab.app.tab (aa se (aa (sl Y l3) (h9 (n+3) s.tab.app (r:=.obj JS) (abd.mpr λx mx=>?_) ?_ λj A B o e=>?_))))⟩
  .obtain⟨mm,m4,m5⟩:=y.gv mx;obtain⟨m6,m7,rfl⟩:=aa6.mp m4;exact aba (m5.1▸q9 m6 m7)
  .exact aaS s.len (aaS (abw hl (abz 20 hm)) ())
  .exact q j A B ⟨o.tab,c₁.trans (s.chg.trans (ag.trans .app o.chg)),s.pre.trans o.pre,aaS o.len (aa2 (aaS s.len (aa3 (abz 20 hm) _)) 1)⟩ ⟨JS,e,y.imp λJ J=>dC.mono o.pre⟩
 have hs:∀{o m o'},σ[m]?=some o'->((σ++[AO.dict .int []]).set σ.length o)[m]?=some o':=λe=>a4 (ay e) (Nat.ne_of_gt (aD e))
 have t1:∀{o},Tab ((σ++[AO.dict .int []]).set σ.length o) T τ:=⟨hs t.tab,hs t.rows,hs t.index,t.nodup⟩
 have c1:∀{o},ag [T.rows,T.index] σ ((σ++[AO.dict .int []]).set σ.length o):=⟨by rw[List.length_set,aa4];exact aaW ..,λJ J J=>hs⟩
 have da:eQ (σ++[AO.dict .int []]) (D.a k) (if r then[p,w] else[p]) (D.b k):=let⟨fs,e,l⟩:=N;⟨fs,ay e,l⟩
 have s1:=λρ m=>Mg W k m ρ p w r
 refine fn xh Y Y (ae hh.host (ae t.tab (w8 d (Nat.lt_succ_of_lt hk) (CQ N (yB N (ae t.tab (yB N (bD t hp (aaS hl ()) (Uh (zo Y () (sR da ?_)))))))))))
 clear hP hh d hp z q q9
 cases r with
 |false=>
  obtain⟨u,rfl⟩:=List.length_eq_one_iff.mp (ha.length.symm.trans hz);obtain⟨a,rfl⟩:=List.length_eq_one_iff.mp hz;exact⟨dt Y,dt Y,sR da (ae az ⟨⟨Y,dt Y⟩,fin (M:=[(p,u)]) (λi U=>⟨u,by rw[aaT.mp U,abX,beq_self_eq_true],ha.1⟩) (λm=>s1 (λJ=>a) m.how) t1 c1 (ba az) Y Y Y⟩)⟩
 |true=>
  obtain⟨u,v,rfl⟩:=JG (ha.length.symm.trans hz);obtain⟨a,c,rfl⟩:=JG hz;have hq:=Bi.symm;have e2:aM (aM [] (iv p) (iv u)) (iv w) (iv v)=gM [(p,u),(w,v)]:=aa_ (by rw[show List.any (aM [] (iv p) (iv u)) (λq=>decide (q.1=iv w))=_ from List.any_cons,abf (λe=>Bi (dO.mp e))];exact nofun)
  have hi:∀{o},eQ ((σ++[AO.dict KS.int []]).set σ.length o) (D.a k) [p,w] (D.b k):=let⟨fs,e,l⟩:=N;⟨fs,hs e,l⟩;refine⟨dt Y,dt Y,sR da (ae az ⟨⟨Y,dt Y⟩,sR hi (ae (ba az) ⟨⟨Y,dt Y⟩,?_⟩)⟩)⟩;rw[List.set_set,e2];refine fin (ρ:=λi=>if i=p then a else c) (λi U=>?_) (λm=>?_) t1 c1 (ba az) Y Y Y
  .rcases aa5.mp U with rfl|U
   .exact⟨u,by rw[abX,beq_self_eq_true],by dsimp only;rw[abn Y];exact ha.1⟩
   .cases aaT.mp U
    exact⟨v,by rw[abX,abJ.mpr hq,abX,beq_self_eq_true],by dsimp only;rw[aa_ hq];exact ha.2.1⟩
  .have:=s1 (λi=>if i=p then a else c) m.how
   rw[abn (show p=p from Y),aa_ hq] at this
   exact this
theorem x4(c:Host σ H T es)(t:Tab σ T τ)(m:eX W τ es)(d:H.ins≠T.index)(l:IsT W τ x i)(hs:gf W τ x u)(hle:es.length<=15000000)(l1:L.lookup 140=some (.loc H.host))(l2:L.lookup 130=some (iv i))
  (q:∀a es',Tab a T τ->Host a H T es'->eX W τ es'->ag [T.rows,T.index,H.ins] σ a->es'.length<=es.length+1->F (.ret (iv u)) L a):
  wg (X.attr (X.v 140) 146) (X.tup [(X.neg (X.int 2)),(X.tup [(X.v 130)])]) f L (kS (bH f [S.ret (X.ix (X.attr (X.v 140) 146) (X.tup [(X.neg (X.int 2)),(X.tup [(X.v 130)])]))]) F) (iv u) σ:=
 have⟨j,b,h⟩:=MD c t m d l hs
 aa l1 (ae c.host (aa l2 (ae c.ins ⟨⟨u3 i,sz (aaS hle ())⟩,aa l1 (ae b.host (aa l2 (ae b.ins ⟨u3 i,a5 (gY.trans (abn Y)) (q _ _ j b h (ag.set (.tail _ (.tail _ (.head _)))) Ef)⟩)))⟩)))
theorem YW(n){W}(hw:W.Ok){σ H T D}{es τ x i}(w:Host σ H T es)(t:Tab σ T τ)(b:Base τ)(d:Decls σ T W D)(bo:jn W τ D)(hi:eX W τ es)(M:H.ins≠T.index)
  (hx:IsT W τ x i)(wx:bG W x)(hl:τ.length<=15000000)(hle:es.length<=15000000)
  {Q}(q:∀u s B es',yM W σ H T τ es s B es'->gf W B x u->Q (iv u) s):C (n+6) 351 [.loc H.host,iv i] Q σ:=by
 have l6:τ.length<=16000000:=aaS hl ()
 rcases IH hx wx with h|⟨rfl,h⟩|⟨k,us,as,hk,hu,h,ha,hz,hs⟩
 .obtain⟨ps,e,a⟩:=h;exact fn tM Y Y ⟨dt Y,ae w.host (ae t.tab (bD t e l6 (ae w.host (FG (n+4) t e l6 (x4 w t hi M hx ⟨ps,e,a⟩ hle Y Y λs es' s1 s2 s3 s4 s5=>q i s τ es' ⟨s1,s2,s3,s4,abp _,aaW ..,s5⟩ ⟨ps,e,a⟩)))))⟩
 .obtain⟨ps,e,a⟩:=bo.i3;exact fn tM Y Y ⟨dt Y,ae w.host (ae t.tab (bD t h l6 (ae w.host (MU (n+4) t d h e l6 (x4 w t hi M hx ⟨ps,e,a⟩ hle Y Y λs es' s1 s2 s3 s4 s5=>q _ s τ es' ⟨s1,s2,s3,s4,abp _,aaW ..,s5⟩ ⟨ps,e,a⟩)))))⟩
 .have lu:us.length<2^62:=by
   rw[←ha.length,hz];obtain⟨p,r,c,_,e⟩:=Fd W hk;rw[e];cases c<;>exact dt Y
  have fin:∀{u}{m f L src l},Tab m T f->Host m H T es->eX W f es->ag [T.rows,T.index,H.ins] σ m->τ<+:f->f.length<=τ.length+61->gf W f x u->
    L.lookup 140=some (.loc H.host)->L.lookup 130=some (iv i)->L.lookup 256=some (iv u)->
    bU (aH (n+5)) (.one 271) GU (.seq src) (iv 1::l) L (kS (bH (aH (n+5)) [S.gV]) (cL Q)) m:=by
   intro u m f L src l z A Zk c₁ N U s₁ e1 e2 e3
   obtain⟨ps,e,a⟩:=s₁
   have l7:=aaS U (aaS (aa2 hl 61) (():15000061<=16000000))
   exact aa (sl Y e1) (ae A.host (ae z.tab (aa (sl Y e3) (bD z e l7 (aa se (aa (sl Y (sl Y e1)) (ae A.host (aa (sl Y (sl Y e3)) (FG (n+4) z e l7 (x4 A z Zk M (hx.mono N) ⟨ps,e,a⟩ hle (sl Y (sl Y e1)) (sl Y (sl Y e2)) λs es' s1 s2 s3 s4 s5=>q _ s f es' ⟨s1,s2,s3,c₁.trans s4,N,U,s5⟩ ⟨ps,e,a⟩))))))))))
  cases us with
  |nil=>cases hu Y
  |cons aaz us=>
  refine fn tM Y Y ⟨dt Y,ae w.host (ae t.tab (bD t h l6 ⟨(aa1 iv).symm▸lu,ae w.host (ae w.ins ⟨u3 i,?_⟩)⟩))⟩;cases hg:aO es (gP i) with
  |some v=>
   obtain⟨y,u,hy,rfl,sy⟩:=hi i v hg;cases iQ hw.names b hy hx
   exact cT (aaU Option.isSome hg) (ae w.host (ae w.ins ⟨u3 i,a5 hg (fin t w hi .refl (abp _) (aaW ..) sy Y Y Y)⟩))
  |none=>
   exact cF (aaU Option.isSome hg) (Vh n hw.names w t b d hk (bo.own k hk) ha hz (hw.len k) (hw.nm k) hl λj B s o sj=>fin o.tab (w.chg t M o.chg) (hi.mono o.pre) (I3 o.chg) o.pre o.len (hs B j sj) Y Y Y)
theorem D9(n)(l:W.Ok)(r:Host σ H T es)(t:Tab σ T τ)(b:Base τ)(d:Decls σ T W D)(s:jn W τ D)(p:eX W τ es)(f:H.ins≠T.index)
  (j:IsT W τ x i)(h:bG W x)(m:τ.length<=15000000)(hle:es.length<=15000000)
  (q:∀u c a es',yM W σ H T τ es c a es'->gf W a x u->Q (iv u) c):C (n+7) 538 [.loc H.host,iv i] Q σ:=
 fn Ct Y Y (YW n l r t b d s p f j h m hle q)
theorem lm{a β:Type}{f:a->β}{l:List a}{n}(h:l.length<=n):(l.map f).length<=n:=(aa1 f).symm▸h
section
variable{E:EN}{σ:Sg}{s:RS}{Q:PX}
theorem F6(n)(h:aF E σ s)(a:s.tr.length<=20000)(q:Q (.tup [.int 0,iv s.tr.length]) σ):C (n+1) 675 [.loc E.R.rel] Q σ:=by
 refine fn BG Y Y (ae h.rel (ae h.cV (ae h.bZ ⟨dt Y,ae h.rel (ae h.aw ⟨aaZ (lm a) (),?_⟩)⟩)));rw[aa1];exact q
theorem Vb(n k d):∀(m){σ s L Q},aF E σ s->s.tr.length=k+d->s.tr.length<=20000->d<m->L.lookup 219=some (.loc E.R.rel)->L.lookup 249=some (.tup [.int 0,iv k])->
  (∀a,aF E a {s with tr:=s.tr.take k}->ag (E.mut s.aw) σ a->Q .next L a)->
  lB (aH n) (X.gt (X.len (X.attr (X.v 219) 268)) (X.ix (X.v 249) (X.int 1))) BJ m L Q σ:=by
 induction d with
 |zero=>
  intro m σ s L Q h f i l e1 e2 q;cases m with
  |zero=>cases l
  |succ m=>
  refine aa e1 (ae h.rel (ae h.aw ⟨aaZ (lm i) (),aa e2 (dg ?_ (q σ ?_ .refl))⟩))
  .rw[aa1,f];exact Int.lt_irrefl _
  .rw[List.take_of_length_le (show s.tr.length<=k from aa7 f)];exact h
 |succ d p=>
  intro m σ s L Q h f i l e1 e2 q;cases m with
  |zero=>cases l
  |succ m=>
  rcases List.eq_nil_or_concat s.tr with e|⟨tr,x,e⟩
  .rw[e] at f;cases f
  have b:=e.trans List.concat_eq_append;have hz:tr.length+1=k+(d+1):=by rw[←f,b,aa4];rfl
  have j:=Nat.succ.inj hz;obtain⟨t,u⟩:=X_ h b;refine aa e1 (ae h.rel (ae h.aw ⟨aaZ (lm i) (),aa e2 (iu ?_ (aa e1 (ae h.rel (aa e1 (ae h.rel (ae h.aw (ae h.aw ⟨lm (sz (aaS i ())),?_⟩)))))))⟩))
  .rw[aa1,f];exact Int.ofNat_lt.mpr (abW (Nat.succ_pos d))
  .rw[b,abA];refine a5 List.getLast?_concat (ae (a4 h.aV (bV h.nd 7 4 Y Y ())) ⟨⟨ju x,(lm (sz (aaS i ()))),?_⟩,?_⟩)
   .rw[tV,b];exact aba (abi _ (.head _))
   .rw[b,Wi λm=>(abR.mp (b▸h.iJ)).2.2 x m x (.head _) Y,show(tr.map bS++[x].map bS).dropLast=_ from List.dropLast_concat];exact p m t j (aaS (abG (b▸(aa4 ..).symm▸ab3 _)) i) (Nat.lt_of_succ_lt_succ l) e1 e2 λa r c=>q a ((by rw[b,List.take_append_of_le_length (j▸aaW ..)]:s.tr.take k=tr.take k)▸r) (u.trans c)
theorem Vl(n)(h:aF E σ s)(c:k<=s.tr.length)(b:s.tr.length<=20000)(q:∀a,aF E a {s with tr:=s.tr.take k}->ag (E.mut s.aw) σ a->Q .none a):C (n+1) 724 [.loc E.R.rel,.tup [.int 0,iv k]] Q σ:=
 fn Am Y Y (ae h.rel (ae h.cV (ae h.bZ (Et (Vb n k _ 1000000 h (Nat.add_sub_of_le c).symm b (aaZ (Nat.sub_le ..) (aaZ b ())) Y Y q)))))
theorem T8(n)(hs:b=0\/b=2)(r:σ[k]?=some (.list l0))(l:List (Nat×Nat×Nat×Nat)):∀{last c L Q},L.lookup 242=some (iv b)->L.lookup 125=some (iv did)->L.lookup 160=some (.int last)->L.lookup 116=some (iv c)->
  (∀a,a.lookup 125=some (iv did)->a.lookup 185=L.lookup 185->a.lookup 160=some (.int ((l.map (cH b)).foldl (e8 did) (last,c)).1)->a.lookup 116=some (iv ((l.map (cH b)).foldl (e8 did) (last,c)).2)->Q .next a σ)->
  bU (aH n) (.one 253) vP (.loc k l0) (l.map gQ) L Q σ:=by
 induction l with
 |nil=>exactλJ e2 f d q=>⟨r,q _ e2 Y f d⟩
 |cons x l p=>
  intro last c L Q e1 e2 f d q;have u:iK [iv x.1,iv x.2.1,iv x.2.2.1,iv x.2.2.2] (b)=some (iv (cH b x).1):=by rcases hs with rfl|rfl<;>rfl
  have t:iK [iv x.1,iv x.2.1,iv x.2.2.1,iv x.2.2.2] ((b)+1)=some (iv (cH b x).2):=by rcases hs with rfl|rfl<;>rfl
  rw[abM,List.foldl_cons] at q;have no:¬_->bU _ _ vP _ _ (aT L 253 (gQ x)) Q σ:=λw=>by
   refine p (sl Y e1) (sl Y e2) (sl Y f) (sl Y d) λa m j z y=>?_;rw[show e8 did _ _=_ from aa_ w] at q;exact q a m (j.trans (sn ())) z y
  refine⟨r,aa se (aa (sl Y e1) (a5 u (aa (sl Y e2) (cd (λi=>aa se (aa (sl Y e1) (a5 t (aa (sl Y f) (cd (λh=>?_) λh=>no λw=>h w.2))))) λi=>no λw=>i (aaU Int.ofNat w.1)))))⟩;refine aa se (aa (sl Y e1) (a5 t (aa (sl Y (sl Y d)) ?_)));rw[show e8 did _ _=_ from abn ⟨abC i,h⟩] at q;exact p (sl Y (sl Y (sl Y e1))) (sl Y (sl Y (sl Y e2))) (sl Y se) se λa m j=>q a m (j.trans ((sn ()).trans ((sn ()).trans (sn ()))))
theorem C7(n)(h:aF E σ s)(hs:a=0\/a=2)(q:Q (.bool (cW (s.rd.map (cH a)) did i)) σ):C (n+1) 915 [.loc E.R.rd,iv a,iv did,iv i] Q σ:=by
 refine fn F3 Y Y (ae h.rd (T8 n hs h.rd s.rd Y Y Y Y λl j f c b=>aa j ?_));unfold cW pT at q;refine cd (λd=>aa b ?_) λd=>?_
 .rw[aba (Int.ofNat_lt.mp d)] at q;refine cd (λd=>aa f (aa c ?_)) λd=>?_
  .rw[aba (Int.ofNat_le.mp d)] at q;exact q
  .rw[abf λw=>d (Int.ofNat_le.mpr w)] at q;exact q
 .rw[abf λw=>d (Int.ofNat_lt.mpr w)] at q;exact q
theorem tS(n)(q:Q (iv (dU r)) σ):C (n+1) 908 [r.enc] Q σ:=Ly n (by cases r<;>exact q)
theorem Y2(n)(h:aF E σ s){i j b a}(l:s.τ[i]?=some b)(f:s.τ[j]?=some a)(hz:s.τ.length<=16000000)(c:s.rd.length<24)
  (no:¬(cW (s.rd.map (cH 0)) (dU b) i=true/\cW (s.rd.map (cH 2)) (dU a) j=true))(q:Q (.bool false) σ):C (n+2) 922 [.loc E.R.rel,iv i,iv j] Q σ:=by
 refine fn Eh Y Y (ae h.rel (ae h.rd ⟨aaZ (lm (abG c)) (),dg (by rw[aa1];exactλw=>aby c (Int.ofNat_le.mp w)) (ae h.rel (ae h.host.host (ae h.tab.tab (ae h.rel (bD h.tab l hz (tS n (C7 n h (.inl Y) ?_)))))))⟩))
 cases d:cW _ _ i
 .exact q
 .refine ae h.rel (bD h.tab f hz (tS n (C7 n h (.inr Y) ?_)));cases m:cW (s.rd.map (cH 2)) _ j
  .exact q
  .exact absurd ⟨d,m⟩ no
theorem P1(n)(d:a=8\/a=9)(c:b=8\/b=9)(q:Q (.int 5) σ):C (n+1) 836 [.int a,.int b] Q σ:=by
 rcases d with rfl|rfl<;>rcases c with rfl|rfl<;>exact fn Fe Y Y q
theorem SY(n)(h:aF E σ s)(q:C n 1051 [.loc E.R.r5,.loc E.R.rel,iv i,iv j] Q σ):C (n+1) 703 [.loc E.R.rel,.int 5,iv i,iv j] Q σ:=
 fn BF Y Y (ae h.rel (ae h.rules (ae h.rules ⟨Y,ae h.r5 q⟩)))
theorem Yv(n)(h:aF E σ s)(q:C n 1023 [.loc E.R.rel,iv i,iv j] Q σ):C (n+1) 1051 [v,.loc E.R.rel,iv i,iv j] Q σ:=
 fn EM Y Y (ae h.rel q)
end
section
variable{E:EN}{σ:Sg}{s:RS}{Q:PX}
theorem CZ(n)(c:Host σ H T es)(t:Tab σ T τ)(h:τ[i]?=some r)(j:jf r=true)(b:τ.length<=16000000)(hz:τ[z]?=some (.str 0))(q:Q (iv (if r=.str 1 then z else i)) σ):C (n+3) 731 [.loc H.host,iv i] Q σ:=by
 refine fn Hm Y Y (ae c.host (SD (n+1) (ae c.host (Q3 (n+1) t h b ?_))));have no:=λe=>by rw[aa_ e] at q;exact q
 cases a:CN r
 .exact no (by rintro rfl;cases a)
 .refine ae c.host (fn Dj Y Y (UJ n t h b ?_));cases a:Ir r
  .exact no (by rintro rfl;cases a)
  .have d:r=.str 1:=by
    cases r with
    |str f=>rw[abl a]
    |fC _ _=>cases j
    |_=>cases a
   subst d;have m:=abk hz;have e:aO (gi τ) (Row.str 0).enc=some (iv z):=by
    rw[ph,abn m];have e1:=zL m;exact aaU (λx=>some _) ((List.getElem?_inj (aD e1) t.nodup).mp (e1.trans hz.symm))
   exact ae t.tab (ae t.tab (bD t h b (DI (dt Y) ⟨⟨nofun,nofun,dt Y⟩,fn vM Y Y (ae t.tab (ae t.index ⟨Row.uC (r:=.str 0) Y,cT (aaU Option.isSome e) (ae t.tab (ae t.index ⟨Row.uC (r:=.str 0) Y,a5 e q⟩))⟩))⟩)))
theorem gF(q:Q (.int (bp r)) σ):getM r.enc (.int 0) Q σ:=by cases r<;>exact q
theorem ui(q:Q (.bool (decide (bp r<6))) σ):k2 (gK true) (X.g 53 xr) a L Q (.int (bp r)) σ:=by cases r<;>exact q
theorem lg{a b:Nat}(h:a≠b):¬((a:Int)=b):=λe=>h (abC e)
theorem Np(n)(H:E.W.Ok)(h:aF E σ s){a b i j}(T:aJ E.W a)(wb:aJ E.W b)(ka:aB E.W s.τ a i)(kb:aB E.W s.τ b j)(hz:s.τ.length<=16000000)
  (qT:aQ E.W a b->Q (.bool true) σ)(qF:¬aQ E.W a b->Q (.bool false) σ)
  (qK:i≠j->eO E.W s.τ a i->eO E.W s.τ b j->bQ a=false->bQ b=false->C (n+3) 745 [.loc E.R.rel,iv i,iv j] Q σ):C (n+4) 738 [.loc E.R.rel,iv i,iv j] Q σ:=by
 have nd:=h.tab.nodup
 have bs:=h.inv.base
 obtain⟨ri,lj,bi⟩:=C9 H.names nd bs T ka
 obtain⟨rj,uZ,bj⟩:=C9 H.names nd bs wb kb
 obtain⟨z,t⟩:=h.inv.str0
 by_cases q:i=j
 .exact fn xI Y Y (iu (aaU _ q) (qT ((bM.refl a).congr T T T wb (dw.refl a) (hZ H.names bs ka (q▸kb)))))
 obtain⟨a',D,A,na,la,_,fa⟩:=settle H.names nd bs T ka lj t
 obtain⟨b',o_,y,nb,_,lb,fb⟩:=settle H.names nd bs wb kb uZ t
 have eqv:aQ E.W a b↔aQ E.W a' b':=(la ..).trans (lb ..)
 refine fn xI Y Y (dg (lg q) (ae h.rel (CZ n h.host h.tab lj bi hz t (ae h.rel (CZ n h.host h.tab uZ bj hz t ?_)))))
 have hs:∀{w U r r'},(if ri=.str 1 then z else i)=w->(if rj=.str 1 then z else j)=U->s.τ[w]?=some r->s.τ[U]?=some r'->¬bp r<6->¬bp r'<6->i=w/\j=U/\a'=a/\b'=b:=λhi hj L p N u=>by
  have Fm:ri≠.str 1:=λe=>by
   rw[abn e] at hi;subst hi;rw[t] at L;cases L
   exact N ()
  have uE:rj≠.str 1:=λe=>by
   rw[abn e] at hj;subst hj;rw[t] at p;cases p
   exact u ()
  rw[aa_ Fm] at hi;rw[aa_ uE] at hj;exact⟨hi,hj,fa Fm,fb uE⟩
 clear la lb fa fb
 revert A y hs
 generalize(if ri=.str 1 then z else i)=w
 generalize(if rj=.str 1 then z else j)=U
 intro A y hs
 by_cases q':w=U
 .exact iu (aaU _ q') (qT (eqv.mpr ((bM.refl a').congr D D D o_ (dw.refl a') (hZ H.names bs A (q'▸y)))))
 have da:=G_ H.names nd bs D A na
 have db:=G_ H.names nd bs o_ y nb
 refine dg (lg q') (ae h.rel (ae h.rel (ae h.host.host (ae h.tab.tab ?_))))
 have B:∀{c w},((∃r,s.τ[w]?=some r/\bp r<6)/\c.2=[]/\a8 c=false/\_/\bO c=c.1)\/((∃r,s.τ[w]?=some r/\¬bp r<6)/\eO E.W s.τ c w/\bQ c=false/\w≠13)->(bQ c=true↔w=13):=λd=>by
  rcases d with⟨_,_,_,e,_⟩|⟨_,_,e,e'⟩
  .exact e
  .exact⟨λx=>Bool.noConfusion (e.symm.trans x),λx=>absurd x e'⟩
 refine cd (λq1=>qT (eqv.mpr (.inl ((B da).mpr (abC q1))))) λq1=>cd (λq2=>qT (eqv.mpr (.inr (.inl ((B db).mpr (abC q2)))))) λq2=>?_
 have m:=abV.mpr λe=>q1 (aaU _ ((B da).mp e))
 have f:=abV.mpr λe=>q2 (aaU _ ((B db).mp e))
 clear B q1 q2
 rcases da with⟨⟨r,L,N⟩,a2,am,_,ab⟩|⟨⟨r,L,N⟩,He,_,_⟩
 .refine bD h.tab L hz (gF (ui (iu N (qF λl=>?_))));rcases db with⟨_,b2,bm,_,bb⟩|⟨_,M,_,_⟩
  .rcases eqv.mp l with e|e|⟨e1,_⟩
   .rw[m] at e;cases e
   .rw[f] at e;cases e
   .cases(Prod.ext (ab▸bb▸e1) (a2.trans b2.symm))
    obtain⟨vs,v1,v2⟩:=A;obtain⟨VW,Jb,PD⟩:=y;rw[a2] at v1 Jb;cases vs with
    |cons=>exact v1.elim
    |nil=>cases VW with
     |cons=>exact Jb.elim
     |nil=>exact q' (lV nd (λJ=>.rfl) v2 PD)
  .exact(IF a2 am m f M).1 (eqv.mp l)
 .refine bD h.tab L hz (gF (ui (dg N ?_)));rcases db with⟨⟨r',p,u⟩,b2,bm,_,bb⟩|⟨⟨r',p,u⟩,M,_,_⟩
  .exact bD h.tab p hz (gF (ui (iu u (qF λl=>(IF b2 bm f m He).2 (eqv.mp l)))))
  .refine bD h.tab p hz (gF (ui (dg u ?_)));obtain⟨rfl,rfl,rfl,rfl⟩:=hs Y Y L p N u;exact qK q He M m f
theorem vR(n)(q:E.W.Ok)(h:aF E σ s)(c:aJ E.W a)(wb:aJ E.W b)(p:aB E.W s.τ a i)(m:aB E.W s.τ b j)(hz:s.τ.length<=16000000)
  (d:aQ E.W a b->Q (.bool true) σ)(l:¬aQ E.W a b->Q (.bool false) σ)
  (f:i≠j->eO E.W s.τ a i->eO E.W s.τ b j->bQ a=false->bQ b=false->C (n+3) 745 [.loc E.R.rel,iv i,iv j] Q σ):C (n+5) 654 [.loc E.R.rel,iv i,iv j] Q σ:=
 fn BC Y Y (Np n q h c wb p m hz d l f)
end
section
variable{E:EN}{σ:Sg}{s:RS}{Q:PX}
theorem eB{n a b}(e:a=b){P:Sg->Prop}{σ:Sg}(h:P (σ.set n b)):P (σ.set n a):=e▸h
theorem il{a b:Nat}(h:a<b):¬(a:Int)≥(b):=λw=>aby h (Int.ofNat_le.mp w)
theorem IU(n)(h:aF E σ s){i j}(hd:s.deep<60)(L:(i,j)∉s.tr->s.au<20000)(X:Bool->RS->Prop)
  (W7:∀v,((i,j),v)∈s.kn->Q (.bool v) σ)(WO:(i,j)∈s.tr->Q (.bool true) σ)
  (N:(i,j)∉s.tr->∀f,aF E f (s.into (i,j))->ag (E.mut s.aw) σ f->∀{w:PX},(∀r l a,aP E 140 f (s.into (i,j)) l a->bI E (s.into (i,j)) a->a.au<=20000->X r a->w (.bool r) l)->C (n+1) 871 [.loc E.R.rel,iv i,iv j] w f)
  (hX:∀a,X false a->jG E.W a.τ i j)(hJ:∀a,X true a->kj E.W a.τ a.tr (i,j))
  (qT:s.tr≠[]->∀c a,X true a->(i,j)∈a.tr->s.au<a.au->aP E 0 σ s c {a with deep:=s.deep}->bI E s {a with deep:=s.deep}->Q (.bool true) c)
  (M:s.tr=[]->∀c a,X true a->(i,j)∈a.tr->s.au<a.au->aP E 0 σ s c {a with deep:=s.deep}->bI E s {a with deep:=s.deep}->C (n+1) 752 [.loc E.R.rel,.bool true] (λJ A=>Q (.bool true) A) c)
  (qF:∀c a,X false a->s.au<a.au->aP E 0 σ s c {a with deep:=s.deep,tr:=s.tr,kn:=hK a.kn (i,j) false}->Q (.bool false) c):C (n+2) 745 [.loc E.R.rel,iv i,iv j] Q σ:=by
 refine fn Ex Y Y (ae h.rel (ae h.kn ⟨ju (i,j),?_⟩))
 cases hg:aO (eo s.kn) (bS (i,j)) with
 |some v=>
  obtain⟨b,rfl,mb⟩:=PZ hg;exact cT (aaU Option.isSome hg) (ae h.rel (ae h.kn ⟨ju (i,j),a5 hg (W7 b mb)⟩))
 |none=>
  refine cF (aaU Option.isSome hg) (ae h.rel (ae h.aV ⟨ju (i,j),?_⟩));by_cases q:(i,j)∈s.tr
  .exact cT (tV.trans (aba q)) (WO q)
  have kl:=il (L q);have lt:=L q;have cn:=h.cnt;have tl:=aaS (aaS (abj ..) cn) (abG lt);obtain⟨t,c1⟩:=h.vV (ab7 _);obtain⟨h2,c2⟩:=t.push q (Nat.lt_succ_of_le cn);obtain⟨h3,c3⟩:=h2.vV (d:=s.deep+1) (aaX _);have nt:=bV h.nd 4 7 Y Y ();have tz:=sz (aaS tl ());refine cF (tV.trans (abf q)) (ae h.rel (dg kl (ae h.rel (dg (il hd) (ae h.rel (dg kl (ae h.rel (ae h.rel ⟨⟨Y,dt Y⟩,?_⟩))))))));refine ae t.rel (F6 n t tl (ae t.rel (ae t.aV ⟨⟨ju (i,j),lm tz⟩,eB (aaU (AO.dict .tup) (Kp q)) ?_⟩)));refine ae (a4 t.rel (bV h.nd 4 3 Y Y ())) (ae (a4 t.aw nt) (ae (a4 t.aw nt) ⟨lm tz,eB (aaU AO.list (abA (l₂:=[(i,j)])).symm) ?_⟩));refine ae h2.rel (ae h2.rel ⟨⟨Y,dt Y⟩,ae h3.rel (N q _ h3 ((c1.trans c2).trans c3) λr l a o o' ol B=>?_)⟩);have od:=o.deep;have T:=o'.aw;have U:=o'.ext;have lk:=o.au;have oc:=((c1.trans c2).trans c3).trans o.chg;have H:=Nat.le_of_add_le_add_right (b:=140) o.sz;have ord:=o.rd;have p:=o.st;have u:=o.pre;obtain⟨D,c4⟩:=p.vV (d:=s.deep) (aaX _);have y:E.mut a.aw=E.mut s.aw:=aaU E.mut T;rw[y] at c4;have cA:=oc.trans c4;have hlen:=aa4▸U.length_le;refine ae p.rel (ae p.rel ⟨⟨Y,dt Y⟩,eB (aaU (λz=>AO.inst 692 (aT (i6 E.H E.R a.aw a.deep a.au) 122 (.int z))) (by exact od▸Int.add_sub_cancel (s.deep) 1:((a.deep):Int)-1=(s.deep))) ?_⟩)
  cases r with
  |true=>
   have gg:aP E 0 σ s _ {a with deep:=s.deep}:=⟨D,cA,u,.inl T,ord,Y,abG lk,H⟩;have gn:bI E s {a with deep:=s.deep}:=⟨T,(List.prefix_append ..).trans U,λk m=>by
    rcases o'.n9 k m with m'|m'
    .rcases abq.mp m' with m'|m'
     .exact .inl m'
     .exact(aaT.mp m')▸.inr (hJ a B)
    .exact .inr m'⟩
   have mm:=U.subset (abi _ (.head _));exact cd (λnp=>(ae D.rel (ae D.cV (ae D.bZ ⟨dt Y,M (List.eq_nil_of_length_eq_zero (abC np)) _ a B mm lk gg gn⟩)))) λnp=>qT (λe=>np (by rw[e];rfl)) _ a B mm lk gg gn
  |false=>
   refine Vl n D (aaS (aaW ..) hlen) (aaS (aaS (abj ..) p.cnt) ol) λmd x c5=>?_;have RZ:a.tr.take s.tr.length=s.tr:=by
    obtain⟨z,hz⟩:=(List.prefix_append s.tr [(i,j)]).trans U;rw[←hz,List.take_left]
   simp[RZ] at x;rw[y] at c5;have cl:=abb (Nat.add_lt_add_left hlen _) p.cnt;obtain⟨h6,c6⟩:=x.V3 (k:=(i,j)) (v:=false) nofun (λJ=>hX a B) cl;rw[y] at c6;have fin:=qF _ a B lk ⟨h6,cA.trans (c5.trans c6),u,.inl T,ord,Y,abG lk,H⟩;rw[←EP] at fin;have kz:(eo a.kn).length<=sizeLine:=lm (sz (aaS (aaS (aaS (aaW ..) (abG cl)) ol) ()));exact cd (λnp=>ae x.rel (ae x.kn ⟨⟨ju (i,j),kz⟩,fin⟩)) λnp=>ae x.rel (ae x.rel (ae x.kn ⟨⟨ju (i,j),kz⟩,fin⟩))
end
theorem bg.o(o:bg σ T τ c b a):Mine.Internal.bg σ T τ c b a:=⟨o.tab,o.chg,o.pre,o.len⟩
section
variable{E:EN}{σ:Sg}{s:RS}{Q:PX}
theorem Q4(kx:x.key=true)(a:y.key=true)(b:x.depth<=40)(q:Q (.bool !(decide (x=y))) σ):pr (Mine.Internal.fv x y) Q σ:=bR (uK kx a b q)
theorem V5(n)(h:aF E σ s)(hp:dC E.W s.τ (m,a) p)(hq:dC E.W s.τ (m',b) q)(hm:m.nm<128)(H:m'.nm<128)(la:a.2.length<40)(lb:b.2.length<40)(hz:s.τ.length<=15000000)
  (x:c_ m≠c_ m'->Q (.bool false) σ)
  (qA:c_ m=c_ m'->∀u l i j,aP E 2 σ s u {s with τ:=l}->aB E.W l (bP m a) i->aB E.W l (bP m' b) j->C (n+5) 654 [.loc E.R.rel,iv i,iv j] Q u):
  C (n+6) 1037 [.loc E.R.rel,p.enc,q.enc] Q σ:=by
 obtain⟨D,A,p3,pk⟩:=hp
 obtain⟨B,y,q3,qk⟩:=hq
 have M:∀z:Nat,Builtin.bitAnd (z) (Builtin.bitOr (Builtin.bitOr 1 8) 16)=_:=λz=>(aaU _ ((aaU (Builtin.bitOr · 16) (n')).trans (n'))).trans oh
 refine fn Dq Y Y (ae h.rel (ae h.host.host (Q4 (pW (aaZ (aa7 D) hm)) (pW (aaZ (aa7 B) H)) (aa9 _) (cN (λne=>x λe=>ne (aaU (λz=>AV.str _) (D.trans ((aaU (·.1) e).trans B.symm)))) λf1=>?_))))
 refine cN (λne=>x λe=>ne ?_) λf2=>cN (λne=>x λe=>ne (aaU Int.ofNat (p3.trans ((aaU (·.2.2.2) e).trans q3.symm)))) λf3=>?_
 .rw[A,y,M];exact aaU (λz=>Int.ofNat z.2.1) e
 have U:xZ p=decide _:=aaU (λz=>decide (z&&&34≠0)) A
 have T:xZ q=decide _:=aaU (λz=>decide (z&&&34≠0)) y
 refine AW (n+4) (AW (n+4) (cd (λf4=>ae h.rel (JB n h.tab h.inv.base (aaS hz ()) A pk la λi L N c w=>?_)) λne=>x λe=>ne (U.trans ((aaU (·.2.2.1) e).trans T.symm))))
 rw[A,y,M] at f2
 have d:=h.dK c.o
 exact JB n d.tab d.inv.base (aaS c.len (aaS (aa2 hz 1) ())) y (qk.mono c.pre) lb λj r t f=>qA (Prod.ext (D.symm.trans ((qq.mp (AV.str.inj f1)).trans B)) (Prod.ext (abC f2) (Prod.ext (U.symm.trans (f4.trans T)) (p3.symm.trans ((abC f3).trans q3))))) t r i j ((aP.dK h c.o).trans (aP.dK d f.o)) (w.mono f.pre)
end
section
variable{E:EN}{σ bc:Sg}{s bF:RS}{Q:PX}{x y:Th}{n:Nat}{A:tL}{F:RS->Prop}
def lN(E:EN)(n:Nat)(A:tL)(F:RS->Prop):Prop:=∀a b l σ s i j,A ((a,b)::l) s->aF E σ s->aB E.W s.τ a i->aB E.W s.τ b j->b9 0 s->∀{Q},
 (∀c s',aP E 0 σ s c s'->s'.au<=20000->A l s'->Q (.bool true) c)->(∀c s',aP E 0 σ s c s'->s'.au<=20000->F s'->Q (.bool false) c)->C n 654 [.loc E.R.rel,iv i,iv j] Q σ
abbrev sE(ps:List a_):AV:=.tup [.int 8,.tup (ps.map a_.enc),.tup [],.tup [],.tup [],.tup [],.int 0]
theorem u4{a:Type}{l:List a}{k}(h:l.length<=k):l.drop k=[]:=List.drop_eq_nil_of_le h
theorem vg{a t b}{src n L K}(h:bU a t b src ((List.range' 0 n).map λ(j:Nat)=>.int (j)) L K σ):bU a t b src ((List.range n).map λ(j:Nat)=>.int (j:Int)) L K σ:=List.range_eq_range'▸h
theorem T1(mx:∀m∈bW E.W x,m.1.nm<128/\m.2.2.length<=2)(my:∀m∈bW E.W y,m.1.nm<128/\m.2.2.length<=2){c ps qs}(u:aG (dC E.W c) (bW E.W x) ps)(t:aG (dC E.W c) (bW E.W y) qs)(hl:ps.length=qs.length)(l1:ps.length<=3)(hz:b9 130 bF)(sA:sL A)
  (hA:(aU E.W x)[0]?=(aU E.W y)[0]?->lN E (n+6) A F){items K}
  (qN:∀L d s' l,aP E 130 bc bF d s'->s'.au<=20000->aU E.W x≠aU E.W y->A l s'->K (.ret (.bool false)) L d)
  (qF:∀L d s',aP E 130 bc bF d s'->s'.au<=20000->F s'->K (.ret (.bool false)) L d)
  (qT:∀L d s',L.lookup 87=some (sE ps)->L.lookup 102=some (sE qs)->aP E 130 bc bF d s'->s'.au<=20000->aU E.W x=aU E.W y->A [] s'->K .next L d)
  (m):∀{k σ s L},k+m=ps.length->aP E (124+2*k) bc bF σ s->s.au<=20000->c<+:s.τ->A (((bX E.W x).zip (bX E.W y)).drop k) s->(∀r<k,(aU E.W x)[r]?=(aU E.W y)[r]?)->
   L.lookup 219=some (.loc E.R.rel)->L.lookup 87=some (sE ps)->L.lookup 102=some (sE qs)->bU (aH (n+7)) (.one 205) Hk (.seq items) ((List.range' k m).map λ(j:Nat)=>.int (j)) L K σ:=by
 have q1:=u.length
 have q2:=t.length
 induction m with
 |zero=>
  intro k σ s L hk g l p a f e1 e2 e3;refine qT L σ s e2 e3 (g.le (by lia)) l (List.ext_getElem? λr=>?_) ?_
  .by_cases q:r<k
   .exact f r q
   .have q:=Nat.le_of_not_lt q;rw[List.getElem?_eq_none ((aa1 _).symm▸q1▸hk▸q),List.getElem?_eq_none ((aa1 _).symm▸q2▸hl▸hk▸q)]
  .rw[u4 (List.length_zip▸aaS (Nat.min_le_left ..) (aa7 (((aa1 _).trans q1).trans hk.symm)))] at a;exact a
 |succ m ih=>
  intro k σ s L hk g l p a f e1 e2 e3;have kl:k<ps.length:=by lia
  obtain⟨m1,p,h1,h2,h3⟩:=sf u (q1.symm▸kl);obtain⟨m2,q,f1,f2,f3⟩:=sf t (q2.symm▸hl▸kl);have mm:=mx m1 (abk h1);have M:=my m2 (abk f1);have z':=b9.out (hz.le (show 124+2*k+(6-2*k)<=130 by lia)) g l
  have rx:(bX E.W x)[k]?=some _:=abm.trans (aaU _ h1);have ry:(bX E.W y)[k]?=some _:=abm.trans (aaU _ f1);have fx:(aU E.W x)[k]?=some (c_ m1.1):=abm.trans (aaU _ h1);have fy:(aU E.W y)[k]?=some (c_ m2.1):=abm.trans (aaU _ f1);rw[drop_cons ((List.getElem?_zip_eq_some (z:=(bP m1.1 m1.2,bP m2.1 m2.2))).mpr ⟨rx,ry⟩)] at a;have kb:k<2^62:=abB (abb kl l1) ();refine aa (sl Y e1) (aa (sl Y e2) (aa se (a5 ((dh kb).trans (abm.trans (aaU _ h2))) (aa (sl Y e3) (aa se (a5 ((dh kb).trans (abm.trans (aaU _ f2))) ?_))))));refine V5 (n+1) g.st (h3.mono ‹_›) (f3.mono ‹_›) mm.1 M.1 (aaZ mm.2 ()) (aaZ M.2 ()) (aaS z'.row.1 ()) (λne=>?_) λef D w R3 Y7 b U H=>?_
  .exact qN _ _ s _ (g.le (by lia)) l (T_ fx fy ne) a
  .have N:=b9.out (z'.le (show 2+0<=6-2*k by lia)) b l
   have f':∀r<k+1,(aU E.W x)[r]?=(aU E.W y)[r]?:=λr hr=>by
    rcases Nat.lt_succ_iff_lt_or_eq.mp hr with hr|rfl
    .exact f r hr
    .rw[fx,fy,ef]
   exact hA (f' 0 (Nat.succ_pos k)) _ _ _ D _ R3 Y7 (sA _ _ w s.es a b.pre) b.st U H N (λB T h i XP=>(ih (by lia) (((g.trans b).trans h).le (by lia)) i ((‹c<+:s.τ›.trans b.pre).trans h.pre) XP f' (sl Y e1) (sl Y e2) (sl Y e3))) λB T h i QD=>qF _ _ _ (((g.trans b).trans h).le (by lia)) i QD
theorem Jw{x}(kx:x.key=true)(a:x.depth<=40)(q:Q (.bool true) σ):pr (Mine.Internal.fe x x) Q σ:=bR (Aa kx kx a (by rw[aba Y];exact q))
theorem Q_(n)(hw:E.W.Ok)(h:aF E σ s){i j}(hx:IsT E.W s.τ x i)(hy:IsT E.W s.τ y j)(wx:bG E.W x)(wy:bG E.W y)(hz:b9 130 s)
  (sA:sL A)(hA:(aU E.W x)[0]?=(aU E.W y)[0]?->lN E (n+6) A F)(a0:A ((bX E.W x).zip (bX E.W y)) s)
  (qT:∀c s',aP E 130 σ s c s'->s'.au<=20000->aU E.W x=aU E.W y->A [] s'->Q (.bool true) c)
  (qN:∀c s' l,aP E 130 σ s c s'->s'.au<=20000->aU E.W x≠aU E.W y->A l s'->Q (.bool false) c)
  (qF:∀c s',aP E 130 σ s c s'->s'.au<=20000->F s'->Q (.bool false) c):
  C (n+8) 1030 [.loc E.R.rel,iv i,iv j] Q σ:=by
 have r0:=hz.row
 obtain⟨lx,mx⟩:=lH hw x
 obtain⟨ly,my⟩:=lH hw y
 have ne:=bV h.nd 2 1 Y Y ()
 refine fn Dp Y Y (ae h.rel (ae h.host.host (ae h.tab.tab (ae h.host.host (D9 n hw h.host h.tab h.inv.base h.decl h.inv.dW h.inv.ins ne hx wx (aaS r0.1 ()) (aaS r0.2 ()) λaaB ek D T KQ M=>?_)))))
 have f:=aP.shape h KQ
 have b:=f.st
 have w:=b9.out (m:=68) hz f hz.2
 have t:=w.row
 obtain⟨ps,W2,r⟩:=M
 refine bD b.tab W2 (aaS t.1 ()) (ae b.host.host (ae b.tab.tab (ae b.host.host (D9 n hw b.host b.tab b.inv.base b.decl b.inv.dW b.inv.ins ne (hy.mono f.pre) wy (aaS t.1 ()) (aaS t.2 ()) λaaN H B N U L=>?_))))
 have d:=aP.shape b U
 have p:=f.trans d
 obtain⟨qs,zU,q⟩:=L
 have l1:(ps.map a_.enc).length<=3:=lm (r.length▸lx)
 have a2:=sA _ _ B N (sA _ _ D T a0 f.pre) d.pre
 refine bD d.st.tab zU (aaS (b9.out (m:=6) w d hz.2).row.1 ()) ⟨aaZ l1 (),aaZ (lm (q.length▸ly)) (),cN (λz=>?_) λz=>?_⟩
 .refine qN H _ _ (p.le ()) hz.2 (λe=>z (aaU Int.ofNat ?_)) a2;rw[aa1,aa1,←r.length,←q.length];exact(aa1 _).symm.trans ((aaU List.length e).trans (aa1 _))
 have z:=abC z
 refine⟨aaZ l1 (),aaZ l1 (),vg ?_⟩
 rw[aa1] at z l1⊢
 rw[aa1] at z
 refine T1 mx my (r.imp λJ J=>dC.mono d.pre) q z l1 hz sA hA (λJ=>qN) (λJ=>qF) (λL' c s' e1 e2 g l ef a=>?_) ps.length (ab5 _) (p.le ()) hz.2 (abp _) a2 nofun rfl Y Y
 have u:(AV.tup [AV.tup [],AV.tup []]).depth<=40:=()
 exact aa e1 (bR (Ec (zo Y u (aa e2 (bR (Ec (zo Y u (aa e1 (bR (I6 (Jw Y u (aa e2 (bR (I6 (Jw Y u (qT c s' g l ef a))))))))))))))))
end
section
variable{E:EN}{σ:Sg}{s:RS}{Q:PX}{x y:Th}{A:tL}{F:RS->Prop}
theorem YK(n)(hw:E.W.Ok)(h:aF E σ s)(hx:IsT E.W s.τ x i)(hy:IsT E.W s.τ y j)(U:bG E.W x)(T:bG E.W y)(M:s.τ[i]?=some r)(L:s.τ[j]?=some q)(hz:b9 130 s)(H:s.rd.length<24)
  (no:¬(cW (s.rd.map (cH 0)) (dU r) i=true/\cW (s.rd.map (cH 2)) (dU q) j=true))
  (sA:sL A)(hA:(aU E.W x)[0]?=(aU E.W y)[0]?->lN E (n+6) A F)(a0:A ((bX E.W x).zip (bX E.W y)) (s.push (dU r,i,dU q,j)))
  (qT:∀c s',aP E 130 σ s c {s' with rd:=s.rd}->s'.rd=s.rd++[(dU r,i,dU q,j)]->s'.au<=20000->aU E.W x=aU E.W y->A [] s'->Q (.bool true) c)
  (qN:∀c s' l,aP E 130 σ s c {s' with rd:=s.rd}->s'.rd=s.rd++[(dU r,i,dU q,j)]->s'.au<=20000->aU E.W x≠aU E.W y->A l s'->Q (.bool false) c)
  (qF:∀c s',aP E 130 σ s c {s' with rd:=s.rd}->s'.rd=s.rd++[(dU r,i,dU q,j)]->s'.au<=20000->F s'->Q (.bool false) c):
  C (n+9) 943 [.loc E.R.rel,iv i,iv j,v] Q σ:=by
 have D:=aaS hz.row.1 (():12800000<=16000000)
 obtain⟨m,p⟩:=h.EA _
 refine fn I' Y Y (Y2 (n+6) h M L D H no (ae h.rel (ae h.host.host (ae h.tab.tab (ae h.rel (ae h.rd (bD h.tab M D (tS (n+7) (bD h.tab L D (tS (n+7) (ae h.rd ⟨(lm (aaS (abG H) ())),eB (aaU AO.list (abA (l₂:=[(dU r,i,dU q,j)])).symm) ?_⟩)))))))))))
 revert m p
 generalize σ.set E.R.rd _=t
 intro m p
 have fin:∀(b c s'){K:PX},aP E 130 t (s.push _) c s'->(∀d,aP E 130 σ s d {s' with rd:=s.rd}->s'.rd=s.rd++[_]->K _ d)->
   jX (.loc E.R.rel) 224 (kM 209 [] (aH (n+8)) [] λv=>K (.bool b)) c:=λb c s' K g k=>by
  have B:s'.rd=s.rd++[_]:=g.rd
  have hd:(s'.rd.map gQ).dropLast=s.rd.map gQ:=by rw[B,abA];exact List.dropLast_concat
  have hg:(s'.rd.map gQ).getLast?=some (gQ (dU r,i,dU q,j)):=by rw[B,abA];exact List.getLast?_concat
  obtain⟨z,N⟩:=g.st.EA s.rd
  refine ae g.st.rel (ae g.st.rd (ae g.st.rd ⟨lm (B▸aa4▸aaS H ()),a5 hg (eB (aaU AO.list hd) (k _ ⟨z,(p.trans g.chg).trans (ag.set (abk (i:=6) Y)),g.pre,g.aw.imp_right (aaS p.1),Y,g.deep,g.au,g.sz⟩ B))⟩))
 exact ae m.rel (Q_ n hw m hx hy U T hz sA hA a0 (λc s' g l e a=>fin true c s' g λd w u=>qT d s' w u l e a) (λc s' l g lk e a=>fin false c s' g λd w u=>qN d s' l w u lk e a) λc s' g l f=>fin false c s' g λd w u=>qF d s' w u l f)
theorem OZ(n){b c ks r us ws}(H:aG (aB E.W b.τ) ks us)(hl:aG (aB E.W b.τ) r ws)(he:ks.length=r.length)(hs:ks.length<100)(hz:b9 0 b)(hA:lN E n A F){items K}
  (T:∀L d s',aP E 0 c b d s'->s'.au<=20000->A [] s'->K .next L d)(U:∀L d s',aP E 0 c b d s'->s'.au<=20000->F s'->K (.ret (.bool false)) L d)
  (m):∀{k σ s L},k+m=us.length->aP E 0 c b σ s->s.au<=20000->A ((ks.zip r).drop k) s->
   L.lookup 219=some (.loc E.R.rel)->L.lookup 250=some (.tup (us.map iv))->L.lookup 269=some (.tup (ws.map iv))->bU (aH n) (.one 205) Hq (.seq items) ((List.range' k m).map λ(j:Nat)=>.int (j)) L K σ:=by
 have l1:=H.length
 induction m with
 |zero=>
  intro k σ s L e g l a e1 e2 B;rw[u4 (List.length_zip▸aaS (Nat.min_le_left ..) (aa7 (l1.trans e.symm)))] at a;exact T L σ s g l a
 |succ m ih=>
  intro k σ s L e g l a e1 e2 B;have t:=Nat.lt_of_lt_of_eq (abW (Nat.succ_pos m)) e;have D:k<2^62:=abB t (l1▸abB hs ());obtain⟨N,u,h1,h2,h3⟩:=sf H (l1▸t);obtain⟨M,w,f1,f2,f3⟩:=sf hl (he▸l1▸t);rw[drop_cons ((List.getElem?_zip_eq_some (z:=(N,M))).mpr ⟨h1,f1⟩)] at a;refine aa (sl Y e1) (ae g.st.rel (aa (sl Y e2) (aa se (a5 ((dh D).trans (abm.trans (aaU _ h2))) (aa (sl Y B) (aa se (a5 ((dh D).trans (abm.trans (aaU _ f2))) ?_)))))));exact hA N M _ σ s u w a g.st (h3.mono g.pre) (f3.mono g.pre) (b9.out hz g l) (λh i f l₂ q=>ih (by rw[←e,abT];rfl) (g.trans f) l₂ q (sl Y e1) (sl Y e2) (sl Y B)) λh i f l₂ p=>U _ h i (g.trans f) l₂ p
theorem Tw(n)(h:aF E σ s){ks b us ws}(d:aG (aB E.W s.τ) ks us)(j:aG (aB E.W s.τ) b ws)(l:ks.length=b.length)(hs:ks.length<100)(hz:b9 0 s)
  (m:lN E n A F)(p:A (ks.zip b) s)
  (f:∀a s',aP E 0 σ s a s'->s'.au<=20000->A [] s'->Q (.bool true) a)(i:∀a s',aP E 0 σ s a s'->s'.au<=20000->F s'->Q (.bool false) a):
  C (n+1) 780 [.loc E.R.rel,.tup (us.map iv),.tup (ws.map iv)] Q σ:=by
 have c:(us.map iv).length<100:=(aa1 iv).symm▸d.length▸hs
 refine fn Ik Y Y ⟨abB c (),abB c (),vg ?_⟩
 rw[aa1]
 exact OZ n d j l hs hz m (λJ=>f) (λJ=>i) us.length (ab5 _) (aP.refl h) hz.2 p Y Y Y
inductive Xf(W τ x y)(ri rj:Row):Prop
 |no (s1:(∃ps,ri=.obj ps)\/∃d us,ri=.ref d us) (s2:(∃ps,rj=.obj ps)\/∃d us,rj=.ref d us) (e:aZ x y=[]) (ne:∀d d' us ws,ri=.ref d us->rj=.ref d' ws->d≠d')
 |yes (d us ws ks ls) (e1:ri=.ref d us) (e2:rj=.ref d ws) (e:aZ x y=[ks.zip ls]) (a1:aG (aB W τ) ks us) (a2:aG (aB W τ) ls ws) (le:ks.length=ls.length) (lt:ks.length<100)
theorem ZT(hx:IsT W τ x i)(hy:IsT W τ y j)(T:bG W x)(N:bG W y)(n3:¬(x=.lf .i3/\y=.lf .i3))(l:τ[i]?=some ri)(f:τ[j]?=some U):Xf W τ x y ri U:=by
 have sh:∀{x}{i:Nat}{r},τ[i]?=some r->(c8 x=none/\((∃ps,τ[i]?=some (.obj ps))\/x=.lf .i3/\τ[i]?=some _))->(∃ps,r=.obj ps)\/x=.lf .i3/\r=.ref 4 []:=λe ⟨_,o⟩=>o.imp (λ⟨ps,h⟩=>⟨ps,aa0 (e.symm.trans h)⟩) λ⟨q,h⟩=>⟨q,aa0 (e.symm.trans h)⟩;have rf:∀{x:Th}{r:Row},_\/x=.lf .i3/\r=.ref 4 []->(∃ps,r=.obj ps)\/∃d us,r=.ref d us:=λo=>o.imp_right λh=>⟨4,[],h.2⟩;rcases Fz hx T with o|⟨k,as,us,p,hk,L,al,M⟩<;>rcases Fz hy N with o'|⟨k',as',us',c,B,b,D,z⟩
 .have v:=sh l o;have H:=sh f o';refine .no (rf v) (rf H) (by unfold aZ;rw[o.1]) λd u us ws e a=>?_
  rcases v with⟨_,q⟩|q
  .cases e.symm.trans q
  .rcases H with⟨_,m⟩|m
   .cases a.symm.trans m
   .exact(n3 ⟨q.1,m.1⟩).elim
 .have v:=sh l o;cases f.symm.trans b
  refine .no (rf v) (.inr ⟨_,_,Y⟩) (by unfold aZ;rw[o.1]) λd u us ws e a=>?_
  rcases v with⟨_,q⟩|q
  .cases e.symm.trans q
  .cases e.symm.trans q.2
   cases a
   exactλw=>Nat.ne_of_gt B (Nat.succ.inj w)
 .have v:=sh f o';cases l.symm.trans L
  refine .no (.inr ⟨_,_,Y⟩) (rf v) (by unfold aZ;rw[p,o'.1]) λd u us ws e a=>?_
  rcases v with⟨_,q⟩|q
  .cases a.symm.trans q
  .cases a.symm.trans q.2
   cases e
   exactλw=>abx hk (Nat.succ.inj w)
 .cases l.symm.trans L
  cases f.symm.trans b
  by_cases t:k=k'
  .subst t;exact .yes _ _ _ _ _ Y Y (by unfold aZ;rw[p,c];exact abn Y) al D (QA M z) ((aa1 AK.kind).symm▸M▸aaZ oV ())
  .refine .no (.inr ⟨_,_,Y⟩) (.inr ⟨_,_,Y⟩) (by unfold aZ;rw[p,c];exact aa_ t) λd u us ws e a=>?_
   cases e
   cases a
   exactλw=>t (Nat.succ.inj w)
theorem XC(n)(h:aF E σ s)(m:s.τ[i]?=some b)(l:s.τ[j]?=some a)(f:s.τ.length<=16000000)(r:(∃ps,b=.obj ps)\/∃d us,b=.ref d us)(p:(∃ps,a=.obj ps)\/∃d us,a=.ref d us)(ne:∀d c us ws,b=.ref d us->a=.ref c ws->d≠c)
  (q:C (n+9) 943 [.loc E.R.rel,iv i,iv j,.bool false] Q σ):C (n+10) 1023 [.loc E.R.rel,iv i,iv j] Q σ:=by
 refine fn pC Y Y (ae h.rel (ae h.host.host (ae h.tab.tab (bD h.tab m f (ae h.rel (ae h.host.host (ae h.tab.tab (bD h.tab l f ?_))))))))
 clear m l h
 rcases r with⟨_,rfl⟩|⟨d,us,rfl⟩<;>rcases p with⟨_,rfl⟩|⟨c,t,rfl⟩
 .exact q
 .exact q
 .exact q
 .exact dg (lg (ne _ _ _ _ Y Y)) q
theorem Md(n)(h:aF E σ s)(f:s.τ[i]?=some (.ref d us))(c:s.τ[j]?=some (.ref d ws))(b:s.τ.length<=16000000)
  (q:∀{K},(∀a,Q (.bool true) a->K (.bool true) a)->(∀a,C (n+9) 943 [.loc E.R.rel,iv i,iv j,.bool false] Q a->K (.bool false) a)->C (n+9) 780 [.loc E.R.rel,.tup (us.map iv),.tup (ws.map iv)] K σ):C (n+10) 1023 [.loc E.R.rel,iv i,iv j] Q σ:=
 fn pC Y Y (ae h.rel (ae h.host.host (ae h.tab.tab (bD h.tab f b (ae h.rel (ae h.host.host (ae h.tab.tab (bD h.tab c b (iu Y (q (λJ h=>h) λJ h=>h))))))))))
theorem HC(n)(hw:E.W.Ok)(h:aF E σ s)(L:IsT E.W s.τ x i)(H:IsT E.W s.τ y j)(D:bG E.W x)(B:bG E.W y)(n3:¬(x=.lf .i3/\y=.lf .i3))(hz:b9 130 s)(hl:s.rd.length<24)
  (no:¬(cW (s.rd.map (cH 0)) (aW x) i=true/\cW (s.rd.map (cH 2)) (aW y) j=true))
  (T:lN E (n+8) AA FA)(a1:∀road∈aZ x y,AA road s)
  (sA:sL A)(hA:(aU E.W x)[0]?=(aU E.W y)[0]?->lN E (n+6) A F)(N:aZ x y=[]->A ((bX E.W x).zip (bX E.W y)) (s.push (aW x,i,aW y,j)))
  (M:∀b s',aP E 0 σ s b s'->s'.au<=20000->FA s'->A ((bX E.W x).zip (bX E.W y)) (s'.push (aW x,i,aW y,j)))
  (qA:∀b s' road,aP E 130 σ s b s'->s'.au<=20000->road∈aZ x y->AA [] s'->Q (.bool true) b)
  (r:∀b s',aP E 130 σ s b {s' with rd:=s.rd}->s'.rd=s.rd++[(aW x,i,aW y,j)]->s'.au<=20000->aU E.W x=aU E.W y->A [] s'->Q (.bool true) b)
  (t:∀b s' l,aP E 130 σ s b {s' with rd:=s.rd}->s'.rd=s.rd++[(aW x,i,aW y,j)]->s'.au<=20000->aU E.W x≠aU E.W y->A l s'->Q (.bool false) b)
  (u:∀b s',aP E 130 σ s b {s' with rd:=s.rd}->s'.rd=s.rd++[(aW x,i,aW y,j)]->s'.au<=20000->F s'->Q (.bool false) b):
  C (n+10) 1023 [.loc E.R.rel,iv i,iv j] Q σ:=by
 have zr:=aaS hz.row.1 (():12800000<=16000000)
 obtain⟨ri,z,di⟩:=yf L D
 obtain⟨rj,w,dj⟩:=yf H B
 revert no N M r t u
 rw[←di,←dj]
 intro no N M r t u
 have fin:∀b s',aP E 0 σ s b s'->s'.au<=20000->A _ _->C (n+9) 943 [.loc E.R.rel,iv i,iv j,.bool false] Q b:=λb s' g l a=>by
  have r':=g.rd;rw[←r'] at hl no r t u;exact YK n hw g.st (L.mono g.pre) (H.mono g.pre) D B (cU g.pre z) (cU g.pre w) (b9.out hz g l) hl no sA hA a (λc p q=>r c p ((g.trans q).le ())) (λc p l' q=>t c p l' ((g.trans q).le ())) λc p q=>u c p ((g.trans q).le ())
 cases ZT L H D B n3 z w with
 |no s1 s2 e ne=>exact XC n h z w zr s1 s2 ne (fin σ s (aP.refl h) hz.2 (N e))
 |yes d us ws ks ls e1 e2 e al U le lt=>
  have m:ks.zip ls∈aZ x y:=e▸.head _;exact Md n h (e1▸z) (e2▸w) zr λkT kF=>Tw (n+8) h al U le lt (hz.le ()) T (a1 _ m) (λb s' g l a=>kT b (qA b s' _ (g.le ()) l m a)) λb s' g l f=>kF b (fin b s' g l (M b s' g l f))
end
section
variable{E:EN}{σ:Sg}{s:RS}{Q:PX}
theorem Pd(n){i items}(I:List Nat->Sg->RS->Prop)(T:Sg->RS->Prop)(p:∀vs σ s,I vs σ s->aF E σ s/\s.au<=20000)(m:∀σ s,T σ s->aF E σ s)
  (step:∀v r σ s,I (v::r) σ s->∀{Q},(∀a s',T a s'->Q (.bool true) a)->(∀a s',I r a s'->Q (.bool false) a)->C (n+1) 654 [.loc E.R.rel,iv i,iv v] Q σ){K}
  (f:∀L σ s,L.lookup 162=some .none->I [] σ s->K .next L σ)(d:∀L σ s,T σ s->K (.ret (.bool true)) L σ)(us):
  ∀{L σ s},L.lookup 219=some (.loc E.R.rel)->L.lookup 230=some (iv i)->L.lookup 162=some .none->I us σ s->bU (aH (n+1)) (.one 201) D_ (.seq items) (us.map iv) L K σ:=by
 induction us with
 |nil=>exactλe1 e2=>f _ _ _
 |cons v r j=>
  intro L σ s e1 e2 q c;obtain⟨h,l⟩:=p _ _ _ c;refine aa (sl Y e1) (ae h.rel (F6 n h (aaS (aaS (abj ..) h.cnt) l) (aa (sl Y (sl Y e1)) (ae h.rel (aa (sl Y (sl Y e2)) (aa (sl Y se) (step v r σ s c (λa s' t=>?_) λa s'=>j (sl Y (sl Y e1)) (sl Y (sl Y e2)) (sl Y (sl Y q)))))))));have b:=m _ _ t;exact aa (sl Y (sl Y e1)) (ae b.rel (ae b.cV (ae b.bZ ⟨dt Y,aa se (d _ a s' t)⟩)))
theorem JH(n){i}(I:List Nat->Sg->RS->Prop)(T:Sg->RS->Prop)(j:∀vs σ s,I vs σ s->aF E σ s/\s.au<=20000)(h:∀σ s,T σ s->aF E σ s)
  (step:∀v r σ s,I (v::r) σ s->∀{Q},(∀a s',T a s'->Q (.bool true) a)->(∀a s',I r a s'->Q (.bool false) a)->C (n+1) 654 [.loc E.R.rel,iv i,iv v] Q σ)
  {us}(d:I us σ s)(b:∀a s',T a s'->Q (.bool true) a)(c:∀a s',I [] a s'->Q (.bool false) a):C (n+2) 850 [.loc E.R.rel,iv i,.tup (us.map iv)] Q σ:=
 fn F7 Y Y (Pd n I T j h step (λL a s' l f=>aa l (c a s' f)) (λJ=>b) us Y Y Y d)
theorem WI(n){c items}(a:List Nat->Sg->Prop)(F:Sg->Prop)
  (step:∀v r σ,a (v::r) σ->∀{Q},(∀b,a r b->Q (.bool true) b)->(∀b,F b->Q (.bool false) b)->C n 850 [.loc E.R.rel,iv v,c] Q σ){K}
  (d:∀L σ,a [] σ->K .next L σ)(f:∀L σ,F σ->K (.ret (.bool false)) L σ)(us):
  ∀{L σ},L.lookup 219=some (.loc E.R.rel)->L.lookup 269=some c->a us σ->bU (aH n) (.one 230) I5 (.seq items) (us.map iv) L K σ:=by
 induction us with
 |nil=>exactλJ J=>d _ _
 |cons v r h=>exactλe1 e2 j=>aa (sl Y e1) (aa se (aa (sl Y e2) (step v r _ j (λb=>h (sl Y e1) (sl Y e2)) (f _))))
theorem Xu(n)(a:List Nat->Sg->Prop)(F:Sg->Prop)
  (step:∀v r σ,a (v::r) σ->∀{Q},(∀b,a r b->Q (.bool true) b)->(∀b,F b->Q (.bool false) b)->C n 850 [.loc E.R.rel,iv v,c] Q σ)
  (h:a us σ)(d:∀b,a [] b->Q (.bool true) b)(f:∀b,F b->Q (.bool false) b):C (n+1) 878 [.loc E.R.rel,.tup (us.map iv),c] Q σ:=
 fn H0 Y Y (WI n a F step (λJ=>d) (λJ=>f) us Y Y h)
theorem A7{k:Int}(a:k≠7){A B:Prop}(b:k=6->A)(h:k≠6->B):match(match decide (k=6) with|true=>true|false=>match decide (k=7) with|true=>true|false=>false) with|true=>A|false=>B:=by
 by_cases e:k=6
 .rw[aba e];exact b e
 .rw[abf e,abf a];exact h e
theorem Ll(n){i j b a L}(e1:L.lookup 219=some (.loc E.R.rel))(e2:L.lookup 230=some (iv i))(p:L.lookup 256=some (iv j))(m:L.lookup 87=some b.enc)(l:L.lookup 102=some a.enc)(t:bp b≠7)(r:bp a≠7)
  (f:bp b=6\/bp a=6->Q (.bool false) σ)(q:bp b≠6->bp a≠6->∀{K},(∀{c},C n 703 [.loc E.R.rel,.int 5,iv i,iv j] Q c->K (.int 5) c)->C n 836 [iv (bp b),iv (bp a)] K σ):bH (aH n) (uV.body.drop 4) L (cL Q) σ:=
 aa m (gF (A7 (λe=>t (abC e)) (λe=>f (.inl (abC e))) λne=>aa l (gF (A7 (λe=>r (abC e)) (λe=>f (.inr (abC e))) λd=>aa e1 (aa m (gF (aa l (gF (q (λe=>ne (aaU Int.ofNat e)) (λe=>d (aaU Int.ofNat e)) λh=>aa e2 (aa p h))))))))))
theorem CY(n)(h:aF E σ s)(m:s.τ[i]?=some a)(l:s.τ[j]?=some b)(hz:s.τ.length<=16000000)(ne:bp a=bp b->bp a≠6)(d:bp a≠7)(p:bp b≠7)
  (f:bp a=6\/bp b=6->Q (.bool false) σ)(q:bp a≠6->bp b≠6->∀{K},(∀{c},C n 703 [.loc E.R.rel,.int 5,iv i,iv j] Q c->K (.int 5) c)->C n 836 [iv (bp a),iv (bp b)] K σ):C (n+1) 871 [.loc E.R.rel,iv i,iv j] Q σ:=by
 have t:=Ll (L:=aT (aT (aT [(219,.loc E.R.rel),(230,iv i),(256,iv j)] 226 (.loc E.T.rows)) 87 a.enc) 102 b.enc) n Y Y Y Y Y d p f q
 exact fn uV Y Y (ae h.rel (ae h.host.host (ae h.tab.tab (bD h.tab m hz (bD h.tab l hz (gF (gF (cd (λe=>gF (dg (λw=>ne (abC e) (abC w)) (gF (dg (λw=>d (abC w)) t)))) λJ=>t))))))))
theorem LR(n)(h:aF E σ s)(p:s.τ[i]?=some d)(f:s.τ[j]?=some c)(a:bp d=8\/bp d=9)(b:bp c=8\/bp c=9)(hz:s.τ.length<=16000000)
  (q:C n 1023 [.loc E.R.rel,iv i,iv j] Q σ):C (n+3) 871 [.loc E.R.rel,iv i,iv j] Q σ:=by
 have nt:∀{k}(m),k=8\/k=9->m<8->k≠m:=λm o l e=>by rcases o with o|o<;>exact absurd (o.symm.trans e) (by lia)
 exact CY (n+2) h p f hz (λJ=>nt 6 a ()) (nt 7 a ()) (nt 7 b ()) (λo=>o.elim (λe=>(nt 6 a () e).elim) λe=>(nt 6 b () e).elim) λJ J K k=>P1 (n+1) (a.imp (aaU Int.ofNat) (aaU Int.ofNat)) (b.imp (aaU Int.ofNat) (aaU Int.ofNat)) (k (SY (n+1) h (Yv n h q)))
theorem K_(n)(h:aF E σ s){i j K M}(c:s.τ[i]?=some (.bl K))(b:s.τ[j]?=some (.bl M))(hz:s.τ.length<=16000000)
  (q:∀{R},(∀a,Q (.bool false) a->R (.bool false) a)->(∀a,C n 878 [.loc E.R.rel,.tup (M.map iv),.tup (K.map iv)] Q a->R (.bool true) a)->C n 878 [.loc E.R.rel,.tup (K.map iv),.tup (M.map iv)] R σ):C (n+1) 871 [.loc E.R.rel,iv i,iv j] Q σ:=
 fn uV Y Y (ae h.rel (ae h.host.host (ae h.tab.tab (bD h.tab c hz (bD h.tab b hz (q (λJ h=>h) λJ h=>h))))))
theorem DG(n)(h:aF E σ s)(l:s.τ[i]?=some d)(f:s.τ[j]?=some c)(tt:(bp d=6/\(bp c=8\/bp c=9))\/((bp d=8\/bp d=9)/\bp c=6))(hz:s.τ.length<=16000000)
  (q:Q (.bool false) σ):C (n+1) 871 [.loc E.R.rel,iv i,iv j] Q σ:=
 CY n h l f hz (by lia) (by lia) (by lia) (λJ=>q) λa b=>absurd tt (by lia)
end
theorem jY{n k:Nat}(h:k<=n):∃m,n=m+k:=⟨n-k,(Nat.sub_add_cancel h).symm⟩
theorem jJ(h:a<=12800000):a<=16000000:=aaS h ()
theorem nP{a b c d N:Nat}(h:a+(c+d)<=N)(l:b<=a+c):b+d<=N:=aaS (aa2 l d) (aaS (aa7 (abu ..)) h)
theorem fF{P:Prop}(e:false=true):P:=absurd e aaY
theorem tF{P:Prop}(e:true=false):P:=absurd e.symm aaY
theorem hB{b:Type}{l a}{P:b->Prop}(h:∀x∈l,P x)(p:P a):∀x∈l++[a],P x:=λx m=>(abq.mp m).elim (h x) λm=>aaT.mp m▸p
section
variable{E:EN}{G:Rg}{N c g d:Nat}{Rd:RS->Prop}{a b:Kind}
def cG(E:EN)(G:Rg)(N c g d:Nat)(Rd:RS->Prop)(a b:Kind):Prop:=∀n σ s i j,N<=n->aF E σ s->s.tr≠[]->aB E.W s.τ a i->aB E.W s.τ b j->fw E G c g d Rd s->∀{Q},
 (∀v f s',Sb E G c a b v σ s f s'->Q (.bool v) f)->C n 654 [.loc E.R.rel,iv i,iv j] Q σ
def dJ(E:EN)(G:Rg)(N c g d:Nat)(Rd:RS->Prop)(a b:Kind):Prop:=∀n σ s i j,N<=n->aF E σ (s.into (i,j))->aB E.W s.τ a i->aB E.W s.τ b j->i≠j->eO E.W s.τ a i->eO E.W s.τ b j->bQ a=false->bQ b=false->(i,j)∉s.tr->fw E G c g d Rd s->∀{Q},
 (∀v f s',TG E G c a b (i,j) v σ s f s'->Q (.bool v) f)->C n 871 [.loc E.R.rel,iv i,iv j] Q σ
structure AJ(E:EN)(G:Rg)(c a b k)(s:RS)(v)(fI:RS):Prop where
 pre:s.τ<+:fI.τ
 l:fI.au<=20000
 aw:fI.aw=s.aw
 t:v=true->kj E.W fI.τ fI.tr k
 f:v=false->¬aQ E.W a b
 c:fI.au+(if v then G.rem E.W fI else 0)<=s.au+G.rem E.W s+c
theorem tZ(L:E.W.Ok)(H:aJ E.W a)(wb:aJ E.W b)
  (hr:∀s i j,s.τ.Nodup->aB E.W s.τ a i->aB E.W s.τ b j->eO E.W s.τ a i->eO E.W s.τ b j->i≠j->(i,j)∉s.tr->fw E G c g d Rd s->s.au<20000)(sp:dJ E G N c g d Rd a b):cG E G (N+5) c g d Rd a b:=by
 intro n σ s i j M h ht u t p Q q
 obtain⟨m,rfl⟩:=jY (aaS (abj ..) M)
 have bs:=h.inv.base
 have z:∀v,s.au+(if v=true then G.rem E.W s else 0)<=s.au+G.rem E.W s+c:=λv=>aaS (aa3 (by cases v;exact aa9 _;exact aaX _) _) (aaW ..)
 have now:∀v,(v=true->aQ E.W a b)->(v=false->¬aQ E.W a b)->Q _ σ:=λv h1 h2=>q v σ s ⟨aP.refl h,bI.refl,p.z.2,λe=>.inl (h1 e),λe=>⟨h2 e,Y⟩,z v⟩
 refine vR m L h H wb u t (jJ p.z.row.1) (λl=>now true (λJ=>l) tF) (λl=>now false fF λJ=>l) λA U T ea eb=>?_
 refine IU (m+1) h p.A4 (λkt=>hr s i j h.tab.nodup u t U T A kt p) (AJ E G c a b (i,j) s) (λv mk=>?_) (λmk=>?_) (λkt y D c₁ TL B=>?_) (λf x=>?_) (λf x=>x.t Y) (λJ r f x mt J g nn=>?_) (λe=>absurd e ht) λr f x J g=>?_
 .cases v with
  |true=>exact now true (λJ=>(h.inv.je _ mk).out L.names bs H wb u t) tF
  |false=>exact now false fF λJ=>(h.inv.jx _ mk).out L.names bs H wb u t
 .exact q true σ s ⟨aP.refl h,bI.refl,p.z.2,λJ=>.inr ⟨i,j,u,t,mk⟩,tF,z true⟩
 .exact sp (m+2) y s i j (aaS (Nat.le_of_add_le_add_right M) (aaW ..)) D u t A U T ea eb kt p λv w f o=>B v w f o.g o.n o.l ⟨o.g.pre,o.l,o.n.aw,o.t,o.f,o.c⟩
 .exact⟨a,b,H,wb,u.mono x.pre,t.mono x.pre,x.f Y⟩
 .exact q true r _ ⟨g,nn,x.l,λJ=>.inr ⟨i,j,u.mono x.pre,t.mono x.pre,mt⟩,tF,x.c⟩
 .exact q false r _ ⟨g,⟨x.aw,abp _,λk=>.inl⟩,x.l,fF,λJ=>⟨x.f Y,Y⟩,x.c⟩
end
section
variable(E:EN)(G:Rg)(s:RS)(i j:Nat)(x y:Th)(cA cM:Kind×Kind->Nat)(c:Nat)
structure TA(l s'):Prop where
 n:bI E (s.into (i,j)) s'
 rd:s'.rd=s.rd
 dp:s'.deep=s.deep+1
 pf:s.τ<+:s'.τ
 ro:∃d,d++l∈aZ x y/\∀p∈d,d6 E.W s'.τ s'.tr p.1 p.2
 c:s'.au+b8 cA l<=s.au+1+cw cA x y
structure TF(s'):Prop where
 n:bI E (s.into (i,j)) s'
 rd:s'.rd=s.rd
 dp:s'.deep=s.deep+1
 pf:s.τ<+:s'.τ
 no:∃road∈aZ x y,∃p∈road,¬aQ E.W p.1 p.2
 c:s'.au<=s.au+1+cw cA x y
structure MA(l s'):Prop where
 n:bI E (s.into (i,j)) s'
 rd:s'.rd=s.rd++[(aW x,i,aW y,j)]
 dp:s'.deep=s.deep+1
 pf:s.τ<+:s'.τ
 na:∀road∈aZ x y,∃p∈road,¬aQ E.W p.1 p.2
 ro:∃d,d++l=bq E.W x y/\∀p∈d,d6 E.W s'.τ s'.tr p.1 p.2
 c:s'.au+G.rem E.W s'+b8 cM l<=s.au+G.rem E.W s+c
structure MF(s'):Prop where
 n:bI E (s.into (i,j)) s'
 na:∀road∈aZ x y,∃p∈road,¬aQ E.W p.1 p.2
 no:∃p∈bq E.W x y,¬aQ E.W p.1 p.2
 c:s'.au<=s.au+G.rem E.W s+c
end
theorem yr(m:r∈aZ x y)(m':a∈aZ x y):r=a:=by
 rcases q_ (x:=x) (y:=y) with e|⟨b,e⟩
 .rw[e] at m;cases m
 .rw[e,aaT] at m m';rw[m,m']
theorem yC{E}{s s':RS}{k}(n:bI E (s.into k) s'):s'.tr≠[]:=λe=>by
 have m:=n.ext.subset (abi _ (.head _))
 rw[e] at m
 cases m
theorem GF(p:fw E G c g d b s)(h:1<=G.rem E.W s+c):b9 140 (s.into k):=by
 have a:=p.c;exact⟨aa2 p.z.1 140,show s.au+1<=20000 by lia⟩
theorem xc{E}(hw:E.W.Ok){G N g d c Rd RA RM x y}(wx:bG E.W x)(wy:bG E.W y)(B cM)
  (ZS:∀road∈aZ x y,∀p∈road,cG E .none N (B p) g d RA p.1 p.2)
  (PQ:(aU E.W x)[0]?=(aU E.W y)[0]?->∀p∈bq E.W x y,cG E G N (cM p) g d RM p.1 p.2)
  (S_:∀s s' i j,s.τ.Nodup->Rd s->IsT E.W s.τ x i->IsT E.W s.τ y j->(i,j)∉s.tr->s'.rd=s.rd->s.τ<+:s'.τ->s.tr++[(i,j)]<+:s'.tr->RA s')
  (Km:∀s s' i j,s.τ.Nodup->Rd s->IsT E.W s.τ x i->IsT E.W s.τ y j->(i,j)∉s.tr->s'.rd=s.rd++[(aW x,i,aW y,j)]->s.τ<+:s'.τ->s.tr++[(i,j)]<+:s'.tr->RM s')
  (WE:∀s i j,Rd s->Base s.τ->s.τ.Nodup->IsT E.W s.τ x i->IsT E.W s.τ y j->x≠y->¬(cW (s.rd.map (cH 0)) (aW x) i=true/\cW (s.rd.map (cH 2)) (aW y) j=true))
  (ms)(tI:ms=false->∃road∈aZ x y,∀p∈road,aQ E.W p.1 p.2)
  (hC:∀s i j,s.τ.Nodup->IsT E.W s.τ x i->IsT E.W s.τ y j->(i,j)∉s.tr->1+G.rem E.W (s.into (i,j))+cw B x y+(if ms then b8 cM (bq E.W x y) else 0)<=G.rem E.W s+c):
  dJ E G (N+13) c (g+1) (d+1) Rd (aA x) (aA y):=by
 intro n σ s i j hn h ka kb tB da db ea eb kt p Q q
 obtain⟨m,rfl⟩:=jY (aaS (abj ..) hn)
 have hN:=Nat.le_of_add_le_add_right hn
 have L:=ig ka
 have H:=ig kb
 have nd:s.τ.Nodup:=h.tab.nodup
 have M:x≠y:=λe=>tB (fH nd L (e▸H))
 obtain⟨ri,lj,ti⟩:=oB L wx
 obtain⟨rj,uZ,tj⟩:=oB H wy
 have hc:=hC s i j nd L H kt
 have xH:s.au+1+G.rem E.W (s.into (i,j))+cw B x y<=s.au+G.rem E.W s+c:=by lia
 have pr:=p.rd
 have pd:=p.deep
 have pc:=p.c
 have U:b9 140 (s.into (i,j)):=GF p (by lia)
 have rm:∀{s'},bI E (s.into (i,j)) s'->s.τ<+:s'.τ->G.rem E.W s'<=G.rem E.W (s.into (i,j)):=λn pf=>Rg.sm pf (km n.ext)
 have ht:(ms=false->False)->s.au+1+G.rem E.W (s.into (i,j))+cw B x y+b8 cM (bq E.W x y)<=s.au+G.rem E.W s+c:=λe=>by
  cases ms with
  |true=>have hc:=hc;lia
  |false=>exact(e Y).elim
 clear hc hC
 refine LR (m+10) h lj uZ ti tj (jJ (U.le (aa9 _)).row.1) ?_
 refine HC m hw h L H wx wy (λe=>M (e.1.trans e.2.symm)) (U.le ()) (aaZ (aaS (aaW ..) pr) ()) (WE s i j p.r h.inv.base nd L H M) (AA:=TA E s i j x y B) (FA:=TF E s i j x y B) ?_ (λroad w=>⟨bI.refl,Y,Y,abp _,⟨[],w,nofun⟩,x3 w▸aaX _⟩) (A:=MA E G s i j x y cM c) (F:=MF E G s i j x y c) ?_ ?_ ?_ ?_ ?_ ?_ ?_ ?_
 .intro a b l f s' i' j' o h' yU wC z' Q' qt qf;obtain⟨dn,w,tk⟩:=o.ro;have ct:=o.c;rw[s9] at ct;have z:(a,b)∈dn++(a,b)::l:=abi _ (.head _);refine ZS _ w _ z (m+8) f s' i' j' (aaS hN (aaW ..)) h' (yC o.n) yU wC ⟨z',o.rd▸Nat.le_of_succ_le pr,o.dp▸(abu s.deep 1 d).symm▸(abE 1 d).symm▸pd,by rw[Rg.nO];lia,S_ s s' i j nd p.r L H kt o.rd o.pf o.n.ext⟩ λv t u o'=>?_
  have nn:=o.n.trans o'.g.pre o'.n;have e1:=o'.g.rd.trans o.rd;have e2:=o'.g.deep.trans o.dp;have pf:=o.pf.trans o'.g.pre;cases v with
  |true=>
   have D:u.au+0<=s'.au+0+B (a,b):=o'.c;exact qt t u o'.g o'.l ⟨nn,e1,e2,pf,⟨dn++[(a,b)],(List.append_cons dn (a,b) l)▸w,hB (λp z=>(tk p z).mono o'.g.pre (km o'.n.ext)) (o'.t Y)⟩,nP ct D⟩
  |false=>
   have D:u.au+0<=s'.au+0+B (a,b):=o'.c;exact qf t u o'.g o'.l ⟨nn,e1,e2,pf,⟨_,w,_,z,(o'.f Y).1⟩,aaS (aaW ..) (nP ct D)⟩
 .intro l s' cm es' o pp;have rl:=Rg.sm (G:=G) (W:=E.W) (s':={s' with τ:=cm,es:=es'}) pp λJ m=>m;exact⟨o.n.Lx pp,o.rd,o.dp,o.pf.trans pp,o.na,o.ro.imp λd e=>⟨e.1,λp z=>(e.2 p z).mono pp λJ m=>m⟩,aaS (aa2 (aa3 rl _) _) o.c⟩
 .intro f0 a b l f s' i' j' o h' yU wC z' Q' qt qf;obtain⟨dn,er,tk⟩:=o.ro;have ct:=o.c;rw[s9] at ct;have z:=er▸abi _ (.head _);refine PQ f0 _ z (m+6) f s' i' j' (aaS hN (aaW ..)) h' (yC o.n) yU wC ⟨z',o.rd▸(aa4).symm▸(abu s.rd.length 1 g).symm▸(abE 1 g).symm▸pr,o.dp▸(abu s.deep 1 d).symm▸(abE 1 d).symm▸pd,by lia,Km s s' i j nd p.r L H kt o.rd o.pf o.n.ext⟩ λv t u o'=>?_
  have nn:=o.n.trans o'.g.pre o'.n;cases v with
  |true=>
   have D:=o'.c;exact qt t u o'.g o'.l ⟨nn,o'.g.rd.trans o.rd,o'.g.deep.trans o.dp,o.pf.trans o'.g.pre,o.na,⟨dn++[(a,b)],(List.append_cons dn (a,b) l).symm.trans er,hB (λp z=>(tk p z).mono o'.g.pre (km o'.n.ext)) (o'.t Y)⟩,nP ct D⟩
  |false=>
   have D:=o'.c;exact qf t u o'.g o'.l ⟨nn,o.na,⟨_,z,(o'.f Y).1⟩,aaS (aaW ..) (nP ct D)⟩
 .intro e0;have hc:=ht λe=>(tI e).elim λr h=>by rw[e0] at h;exact absurd h.1 abo
  exact⟨bI.p7 bI.refl,Y,Y,abp _,λr w=>absurd (e0▸w) abo,⟨[],Y,nofun⟩,aaS (aa2 (aaW _ (cw B x y)) _) hc⟩
 .intro f s' T l' o;obtain⟨road,w,np⟩:=o.no;have hc:=ht λe=>(tI e).elim λr h=>np.elim λp hp=>hp.2 (h.2 p (yr w h.1▸hp.1));have rl:=rm o.n o.pf;have D:=o.c;exact⟨o.n.p7,aaU (·++[_]) o.rd,o.dp,o.pf,λr ya=>yr w ya▸np,⟨[],Y,nofun⟩,show s'.au+G.rem E.W s'+b8 cM (bq E.W x y)<=_ by lia⟩
 .intro f s' road T l' w o;obtain⟨dn,Gx,tk⟩:=o.ro;rw[abO] at Gx;have rl:=rm o.n o.pf;have D:s'.au+0<=s.au+1+cw B x y:=o.c;exact q true f s' ⟨T.le (),o.n,l',λJ=>.thing x y (L.mono o.pf) (H.mono o.pf) wx wy dn (abe _ Gx) tk,tF,by lia⟩
 .intro f s' T qX l' ef o;obtain⟨dn,er,tk⟩:=o.ro;rw[abO] at er;subst er;exact q true f {s' with rd:=s.rd} ⟨T.le (),o.n.p7,l',λJ=>.thing x y (L.mono o.pf) (H.mono o.pf) wx wy (bq E.W x y) (abi _ ((abn ef).symm▸.head _)) tk,tF,o.c⟩
 .intro f s' lk T qX l' nf o;exact q false f {s' with rd:=s.rd} ⟨T.le (),o.n.p7,l',fF,λJ=>zY M o.na (.inl nf),aaS (aaS (aaW _ (G.rem E.W s')) (aaW ..)) o.c⟩
 .intro f s' T qX l' o;exact q false f {s' with rd:=s.rd} ⟨T.le (),o.n.p7,l',fF,λJ=>zY M o.na (.inr o.no),o.c⟩
theorem YT(h:s.tr≠[])(n:bI E s s'):s'.tr≠[]:=λe=>h (List.eq_nil_of_length_eq_zero (Nat.le_zero.mp (aaS n.ext.length_le (aa7 (aaU List.length e)))))
theorem rn(n)(q:E.W.Ok)(h:aF E σ s)(d:aJ E.W a)(wb:aJ E.W b)(p:aB E.W s.τ a i)(m:aB E.W s.τ b j)(hz:s.τ.length<=16000000)(nd:eO E.W s.τ a i->eO E.W s.τ b j->i≠j->False)
  (f:aQ E.W a b->Q (.bool true) σ)(l:¬aQ E.W a b->Q (.bool false) σ):C (n+5) 654 [.loc E.R.rel,iv i,iv j] Q σ:=
 vR n q h d wb p m hz f l λc t r J J=>(nd t r c).elim
structure SU(E:EN)(σ s)(b:Kind)(u M ja)(r:List Nat)(aj:Sg)(s':RS):Prop where
 e:aj=σ
 es:s'=s
 d:∃d,d++r=M/\∀q∈d,∀v,a6 ja v q->b.1.testBit v=true->cJ u≠cJ v
theorem MQ(n)(T:E.W.Ok)(h:aF E σ s)(f:a<+:s.τ)(t:Parts E.W a b M)(B:a6 a u p)(x:u≠6)(hz:s.τ.length<=16000000)(hl:s.au<=20000)
  (qT:(∃v,b.1.testBit v=true/\cJ u=cJ v)->Q (.bool true) σ)(qF:(∀v,b.1.testBit v=true->cJ u≠cJ v)->Q (.bool false) σ):
  C (n+6) 850 [.loc E.R.rel,iv p,.tup (M.map iv)] Q σ:=by
 have j:=hO B
 refine JH (n+4) (SU E σ s b u M a) (λc s'=>(c=σ/\s'=s)/\∃v,b.1.testBit v=true/\cJ u=cJ v) (λr c s' i=>⟨i.e▸i.es▸h,i.es▸hl⟩) (λc s' i=>i.1.1▸i.1.2▸h) (λq r c s' i Q' qt qf=>?_) ⟨Y,Y,[],Y,nofun⟩ (λc s' i=>i.1.1▸qT i.2) λc s' i=>?_
 .obtain⟨rfl,rfl,d,ed,D⟩:=i;have next:=λk=>qf _ _ ⟨Y,Y,d++[q],(List.append_cons d q r).symm.trans ed,hB D k⟩
  rcases(t.mem q).mp (ed▸abi _ (.head _)) with⟨y,my,N⟩|⟨v,w,A⟩
  .exact rn n T h (rQ j) (jb (t.w.th y my)) (mn (B.mono f)) (fD (N.mono f)) hz (λd J J=>vW j d) (λl=>absurd l (Gy j x).1) λJ=>next λv' m H=>(gW (h.inv.base) (m.mono f) (N.mono f)).elim
  .have z:=hO A;have L:=zN t.w t.ne w;exact rn n T h (rQ j) (rQ z) (mn (B.mono f)) (mn (A.mono f)) hz (λd J J=>vW j d) (λl=>qt _ _ ⟨⟨Y,Y⟩,v,w,(Gu j z x L).mp l⟩) λnl=>next λv' m H e=>nl ((Gu j z x L).mpr (kg h.inv.base (m.mono f) (A.mono f)▸e))
 .obtain⟨rfl,rfl,d,ed,D⟩:=i;rw[abO] at ed;subst ed;refine qF λv w=>?_;obtain⟨q,U⟩:∃q,a6 a v q:=t.hH v w;exact D q ((t.mem q).mpr (.inr ⟨v,w,U⟩)) v U w
section
variable(E:EN)(G:Rg)(σ:Sg)(s:RS)(C rest:Nat)
structure Way(aj s'):Prop where
 g:aP E 0 σ s aj s'
 n:bI E s s'
 l:s'.au<=20000
 c:s'.au<=C
structure ST(b:Kind)(x f M ja)(r:List Nat)(aj s'):Prop where
 w:Way E σ s C aj s'
 d:∃d,d++r=M/\∀q∈d,∀y∈b.2,IsT E.W ja y q->¬aQ E.W (aA x) (aA y)
 bud:s'.au+G.rem E.W s'+(wsum (IsT E.W ja) b.2 f r+rest)<=C\/∀q∈r,∀y∈b.2,¬IsT E.W ja y q
structure Ca(b:Kind)(x aj s'):Prop where
 w:Way E σ s C aj s'
 c:s'.au+G.rem E.W s'+rest<=C
 t:∃y∈b.2,d6 E.W s'.τ s'.tr (aA x) (aA y)
structure DT(a b:Kind)(f:Th->Th->Nat)(K ja r aj s'):Prop where
 w:Way E σ s C aj s'
 c:s'.au+G.rem E.W s'+(wsum (IsT E.W ja) a.2 (λx=>(b.2.map (f x)).sum) r+rest)<=C
 d:∃dn,dn++r=K/\(∀p∈dn,∀x∈a.2,IsT E.W ja x p->∃y∈b.2,d6 E.W s'.τ s'.tr (aA x) (aA y))/\∀p∈dn,∀u,a.1.testBit u=true->a6 ja u p->∃v,b.1.testBit v=true/\cJ u=cJ v
def Du(a b:Kind):Prop:=(∃x∈a.2,∀y∈b.2,¬aQ E.W (aA x) (aA y))\/∃u,a.1.testBit u=true/\∀v,b.1.testBit v=true->cJ u≠cJ v
structure Around(g d)(R:RS->Prop):Prop where
 h:aF E σ s
 ht:s.tr≠[]
 z:b9 0 s
 hr:s.rd.length+g<=23
 hd:s.deep+d<60
 hR:∀s',s'.rd=s.rd->s.τ<+:s'.τ->s.tr<+:s'.tr->R s'
end
theorem Around.next{E}{σ s C g d R}(a:Around E σ s g d R){b s'}(w:Way E σ s C b s'):Around E b s' g d R:=
 ⟨w.g.st,YT a.ht w.n,b9.out (m:=0) a.z w.g w.l,w.g.rd.symm▸a.hr,w.g.deep.symm▸a.hd,λc e p x=>a.hR c (e.trans w.g.rd) (w.g.pre.trans p) (w.n.ext.trans x)⟩
theorem Way.step{E σ f d s s' b C h}(a:Way E σ s C f s')(g:aP E 0 f s' d b)(n:bI E s' b)(l:b.au<=20000)(c:b.au<=h):Way E σ s h d b:=⟨a.g.trans g,a.n.trans g.pre n,l,c⟩
theorem NY(n){E}(hw:E.W.Ok){G N g d j rest R σ s}(ar:Around E σ s g d R){a}(pf:a<+:s.τ){b M}(L:Parts E.W a b M){x p}(hx:IsT E.W a x p)(wx:bG E.W x)(f)(hN:N<=n+5)
  (sp:∀y∈b.2,cG E G N (f y) g d R (aA x) (aA y))(U:G.U=[]\/b.2.length<=1)(hC:j<=20000)(al:s.au+G.rem E.W s+((b.2.map f).sum+rest)<=j){Q}
  (qT:∀c s',Ca E G σ s j rest b x c s'->Q (.bool true) c)
  (qF:∀c s',Way E σ s j c s'->(∀y∈b.2,¬aQ E.W (aA x) (aA y))->Q (.bool false) c):
  C (n+6) 850 [.loc E.R.rel,iv p,.tup (M.map iv)] Q σ:=by
 have Ip:∀x p q,IsT E.W a x p->IsT E.W a x q->p=q:=λx p q h1 h2=>fH ar.h.tab.nodup (h1.mono pf) (h2.mono pf)
 refine JH (n+4) (ST E G σ s j rest b x f M a) (Ca E G σ s j rest b x) (λr c s' i=>⟨i.w.g.st,i.w.l⟩) (λc s' i=>i.w.g.st)
  (λq r c s' i Q' qt qf=>?_) ⟨⟨aP.refl ar.h,bI.refl,ar.z.2,aaS (aaS (aaW ..) (aaW ..)) al⟩,⟨[],Y,nofun⟩,.inl (aaS (aa3 (aa2 (Ej Ip (g:=f) L.nd b.2) _) _) al)⟩ qT λc s' i=>?_
 .obtain⟨w,⟨dn,ed,na⟩,h⟩:=i;have B:=ar.next w;have m:=pf.trans w.g.pre;have pX:=(List.append_cons dn q r).symm.trans ed;rcases(L.mem q).mp (ed▸abi _ (.head _)) with⟨y,t,hy⟩|⟨v,ev,hv⟩
  .have h:=h.resolve_right λk=>k q (.head _) y t hy;rw[wJ] at h;have hh:=G6 (g:=f) hy t;refine sp y t (n+5) c s' p q hN B.h B.ht (fD (hx.mono m)) (fD (hy.mono m)) ⟨B.z,B.hr,B.hd,by lia,ar.hR s' w.g.rd w.g.pre w.n.ext⟩ λv H u o=>?_
   cases v with
   |true=>
    have oc:u.au+G.rem E.W u<=s'.au+G.rem E.W s'+f y:=o.c;exact qt H u ⟨w.step o.g o.n o.l (by lia),by lia,y,t,o.t Y⟩
   |false=>
    have oc:u.au+0<=s'.au+G.rem E.W s'+f y:=o.c;refine qf H u ⟨w.step o.g o.n o.l (by lia),⟨dn++[q],pX,hB na λy' D A=>iQ hw.names B.h.inv.base (A.mono m) (hy.mono m)▸(o.f Y).1⟩,U.imp (λU=>?_) λU q' T y' D A=>?_⟩
    .have e0:∀s,G.rem E.W s=0:=λs=>by unfold Rg.rem Rg.left;rw[U];rfl
     rw[e0] at oc h⊢;lia
    .have ey:y'=y:=by
      cases hb:b.2 with
      |nil=>rw[hb] at t;cases t
      |cons z zs=>
       rw[hb] at U t D;cases List.eq_nil_of_length_eq_zero (Nat.le_zero.mp (Nat.le_of_succ_le_succ U))
       exact(aaT.mp D).trans (aaT.mp t).symm
     have nd:=L.nd;rw[←ed,abR] at nd;exact(abv.mp nd.2.1).1 (Ip y q' q (ey▸A) hy▸T)
  .have lv:=hO hv;exact rn n hw B.h (jb wx) (rQ lv) (fD (hx.mono m)) (mn (hv.mono m)) (jJ B.z.row.1) (λJ d J=>vW lv d) (λl=>absurd l (Gy lv (zN L.w L.ne ev)).2) λJ=>(qf c s' ⟨w,⟨dn++[q],pX,hB na λy' D A=>(gW B.h.inv.base (hv.mono m) (A.mono m)).elim⟩,h.imp (λh=>by rw[wJ] at h;lia) λh q' T=>h q' (.tail _ T)⟩)
 .obtain⟨w,⟨dn,ed,na⟩,h⟩:=i;rw[abO] at ed;subst ed;refine qF c s' w λy t=>?_;obtain⟨q,hq⟩:=L.gq y t;exact na q ((L.mem q).mpr (.inl ⟨y,t,hq⟩)) y t hq
theorem B'(n){E}(hw:E.W.Ok){G N g d l rest R σ s}(ar:Around E σ s g d R){j}(pf:j<+:s.τ){a b K M}(A:Parts E.W j a K)(pb:Parts E.W j b M)(f)(hN:N<=n+5)
  (sp:∀x∈a.2,∀y∈b.2,cG E G N (f x y) g d R (aA x) (aA y))(hU:G.U=[]\/b.2.length<=1)(hC:l<=20000)(al:s.au+G.rem E.W s+(sum2 f a.2 b.2+rest)<=l){Q}
  (qT:∀c s',Way E σ s l c s'->s'.au+G.rem E.W s'+rest<=l->(∀x∈a.2,∃y∈b.2,d6 E.W s'.τ s'.tr (aA x) (aA y))->(∀u,a.1.testBit u=true->∃v,b.1.testBit v=true/\cJ u=cJ v)->Q (.bool true) c)
  (qF:∀c s',Way E σ s l c s'->Du E a b->Q (.bool false) c):
  C (n+7) 878 [.loc E.R.rel,.tup (K.map iv),.tup (M.map iv)] Q σ:=by
 refine Xu (n+6) (λr c=>∃s',DT E G σ s l rest a b f K j r c s') (λc=>∃s',Way E σ s l c s'/\Du E a b)
  (λp r c i Q' qt qf=>?_) ⟨s,⟨aP.refl ar.h,bI.refl,ar.z.2,aaS (aaS (aaW ..) (aaW ..)) al⟩,aaS (aa3 (aa2 (Ej (λx p q h1 h2=>fH ar.h.tab.nodup (h1.mono pf) (h2.mono pf):∀x p q,IsT E.W j x p->IsT E.W j x q->p=q) (g:=λx=>(b.2.map (f x)).sum) A.nd a.2) _) _) al,[],Y,nofun,nofun⟩ (λc i=>?_) λc i=>i.elim λs' o=>qF c s' o.1 o.2
 .obtain⟨s',w,U,dn,ed,th,un⟩:=i;have D:=ar.next w;have m:=pf.trans w.g.pre;have pX:=(List.append_cons dn p r).symm.trans ed;rw[wJ] at U;rcases(A.mem p).mp (ed▸abi _ (.head _)) with⟨x,B,hx⟩|⟨u,eu,hu⟩
  .have hh:=G6 (g:=λx=>(b.2.map (f x)).sum) hx B;exact NY n hw (rest:=wsum (IsT E.W j) a.2 (λx=>(b.2.map (f x)).sum) r+rest) D m pb hx (A.w.th x B) (f x) hN (sp x B) hU hC (by lia) (λz H o=>(qt z ⟨H,w.step o.w.g o.w.n o.w.l o.w.c,o.c,dn++[p],pX,hB (λp' XI x' L t=>(th p' XI x' L t).imp λy h=>⟨h.1,h.2.mono o.w.g.pre (km o.w.n.ext)⟩) (λx' L t=>iQ hw.names D.h.inv.base (t.mono m) (hx.mono m)▸o.t),hB un λu' OY T=>(gW D.h.inv.base (T.mono m) (hx.mono m)).elim⟩)) λz H o OG=>(qf z ⟨H,w.step o.g o.n o.l o.c,.inl ⟨x,B,OG⟩⟩)
  .exact MQ n hw D.h m pb hu (zN A.w A.ne eu) (jJ D.z.row.1) w.l (λhv=>qt c ⟨s',w,by lia,dn++[p],pX,hB th λx' L t=>(gW D.h.inv.base (hu.mono m) (t.mono m)).elim,hB un λu' OY T=>kg D.h.inv.base (T.mono m) (hu.mono m)▸hv⟩) λhv=>qf c ⟨s',w,.inr ⟨u,eu,hv⟩⟩
 .obtain⟨s',w,U,dn,ed,th,un⟩:=i;rw[abO] at ed;subst ed;refine qT c s' w (aaS (aa3 (abj ..) _) U) (λx B=>?_) λu eu=>?_
  .obtain⟨p,hp⟩:=A.gq x B;exact th p ((A.mem p).mpr (.inl ⟨x,B,hp⟩)) x B hp
  .obtain⟨p,hp⟩:=A.hH u eu;exact un p ((A.mem p).mpr (.inr ⟨u,eu,hp⟩)) u eu hp
section
variable{E:EN}{G:Rg}{N N' c c' g g' d d':Nat}{R R':RS->Prop}{a b:Kind}
theorem fw.le(p:fw E G c' g' d' R' s)(i:c<=c')(f:g<=g')(h:d<=d')(j:R' s->R s):fw E G c g d R s:=⟨p.z,aaS (aa3 f _) p.rd,aaZ (aa3 h _) p.deep,aaS (aa3 i _) p.c,j p.r⟩
theorem cG.mono(h:cG E G N c g d R a b)(z:N<=N')(l:c<=c')(w:g<=g')(x:d<=d')(y:∀s,R' s->R s):cG E G N' c' g' d' R' a b:=
 λn σ s i j u hs t r m p Q q=>h n σ s i j (aaS z u) hs t r m (fw.le p l w x (y s)) λv f s' o=>q v f s' ⟨o.g,o.n,o.l,o.t,o.f,aaS o.c (aa3 l _)⟩
theorem dJ.mono(h:dJ E G N c g d R a b)(z:N<=N')(m:c<=c')(w:g<=g')(x:d<=d')(y:∀s,R' s->R s):dJ E G N' c' g' d' R' a b:=
 λn σ s i j u hs t r l H D B A kt p Q q=>h n σ s i j (aaS z u) hs t r l H D B A kt (fw.le p m w x (y s)) λv f s' o=>q v f s' ⟨o.g,o.n,o.l,o.t,o.f,aaS o.c (aa3 m _)⟩
theorem BD(hw:E.W.Ok)(H:aJ E.W a)(wb:aJ E.W b)(n1:¬((∃x,a=aA x)/\∃y,b=aA y))(f)
  (sp:∀x∈a.2,∀y∈b.2,cG E G N (f x y) g d R (aA x) (aA y))(NR:∀y∈b.2,∀x∈a.2,cG E G N (f y x) g d R (aA y) (aA x))(hU:G.U=[]\/(a.2.length<=1/\b.2.length<=1))(hR:∀s s',R s->s'.rd=s.rd->s.τ<+:s'.τ->s.tr<+:s'.tr->R s')
  (L:a8 a=a8 b->1+sum2 f a.2 b.2+sum2 f b.2 a.2<=c)(xH:a8 a≠a8 b->1<=c):dJ E G (N+8) c g (d+1) R a b:=by
 intro n σ s i j hn h ka kb tB da db ea eb kt p Q q
 obtain⟨m,rfl⟩:=jY (aaS (abj ..) hn)
 have hN:N<=m+5:=aaS (Nat.le_of_add_le_add_right hn) (aaW ..)
 have nd:=h.tab.nodup
 have c1:1<=c:=by
  by_cases m:a8 a=a8 b
  .exact aaS (aaS (aaW ..) (aaW ..)) (L m)
  .exact xH m
 have D:b9 140 (s.into (i,j)):=GF p (aaS c1 (abj ..))
 have hz:=jJ p.z.row.1
 have T:a8 a≠a8 b->Q _ σ:=λne=>q false σ _ ⟨(aP.refl h).le (),bI.refl,D.2,fF,λJ l=>by
  rcases l with e|e|e
  .exact fF (ea.symm.trans e)
  .exact fF (eb.symm.trans e)
  .exact ne e.2.1,show s.au+1<=s.au+G.rem E.W s+c from abw (aaW ..) c1⟩
 rcases da with⟨x,rfl,hx⟩|⟨K,lK,eK,mK,pK⟩
 .rcases db with⟨y,rfl,hy⟩|⟨M,lM,eM,mM,pM⟩
  .exact(n1 ⟨⟨x,Y⟩,⟨y,Y⟩⟩).elim
  .obtain⟨r,e,t⟩:=oB hx (H.th x (.head _));exact DG (m+7) h e eM (.inr ⟨t,Y⟩) hz (T λe=>fF (qW.symm.trans (e.trans mM)))
 .rcases db with⟨y,rfl,hy⟩|⟨M,lM,eM,mM,pM⟩
  .obtain⟨r,e,t⟩:=oB hy (wb.th y (.head _));exact DG (m+7) h eK e (.inl ⟨Y,t⟩) hz (T λe=>fF (qW.symm.trans (e.symm.trans mK)))
  .have hc:=L (mK.trans mM.symm);have pa:=HT nd h.inv.base H ea ka eK pK;have pb:=HT nd h.inv.base wb eb kb eM pM;have rm:=Rg.sm (G:=G) (W:=E.W) (s:=s) (s':=s.into (i,j)) (abp _) (λx=>abe _);have ar:Around E σ _ g d R:=⟨h,yC (E:=E) bI.refl,D.le (),p.rd,(abu s.deep 1 d).symm▸(abE 1 d).symm▸p.deep,λs' e pp xx=>hR s s' p.r e pp ((List.prefix_append ..).trans xx)⟩;refine K_ (m+7) h eK eM hz λkF kT=>?_;refine B' m hw (rest:=sum2 f b.2 a.2) ar (abp _) pa pb f hN sp (hU.imp id (·.2)) p.c ?_ (λB s' w c' t' u'=>kT B ?_) λB s' w bad=>kF B (q false B s' ⟨w.g.le (),w.n,w.l,fF,λJ=>FI H.lt wb.lt ea eb bad,w.c⟩)
   .show s.au+1+_+_<=_;lia
   .refine B' m hw (rest:=0) (ar.next w) w.g.pre pb pa f hN NR (hU.imp id (·.1)) p.c c' (λz A u c₂ rF U=>?_) λz A u bad=>q false z A ⟨(w.g.trans u.g).le (),w.n.trans u.g.pre u.n,u.l,fF,λJ l=>FI wb.lt H.lt eb ea bad l.symm,u.c⟩;have pp:=w.g.pre.trans u.g.pre;exact q true z A ⟨(w.g.trans u.g).le (),w.n.trans u.g.pre u.n,u.l,λJ=>.many a b (ka.mono pp) (kb.mono pp) H wb (Lh H.lt wb.lt u' U) (mK.trans mM.symm) mK (λx mx=>(t' x mx).imp λy h=>⟨h.1,.inr (h.2.mono u.g.pre (km u.n.ext))⟩) λy my=>(rF y my).imp λx h=>⟨h.1,.inr h.2⟩,tF,c₂⟩
theorem E2(nd:τ.Nodup)(l:aB W τ a i)(h:aB W τ a j):i=j:=by
 obtain⟨K,kp⟩:=gG nd l;obtain⟨m,f⟩:=gG nd h;cases Cr kp.sorted f.sorted λp=>by rw[kp.mem,f.mem]
 exact EB nd kp.ut f.ut
theorem xf(u:E.W.Ok)(f:aJ E.W a):cG E G 5 c g d R a a:=by
 intro n σ s i j w h y t r p Q q;obtain⟨m,rfl⟩:=jY w;exact rn m u h f f t r (jJ p.z.row.1) (λJ J x=>x (E2 h.tab.nodup t r)) (λl=>q true σ s ⟨aP.refl h,bI.refl,p.z.2,λJ=>.inl l,tF,aaW ..⟩) (absurd (bM.refl a))
theorem cG.weak(h:cG E .none N c g d R a b):cG E G N c g d R a b:=by
 intro n σ s i j u hs t r m p Q q;have x:=p.c;refine h n σ s i j u hs t r m ⟨p.z,p.rd,p.deep,by rw[Rg.nO];lia,p.r⟩ λv l s' o=>q v l s' ⟨o.g,o.n,o.l,o.t,o.f,?_⟩
 have w:=Rg.sm (G:=G) (W:=E.W) o.g.pre (km o.n.ext);have f:=o.c;cases v with
 |true=>
  have f:s'.au+0<=s.au+0+c:=f;show s'.au+G.rem E.W s'<=_;lia
 |false=>
  have f:s'.au+0<=s.au+0+c:=f;show s'.au+0<=_;lia
theorem Gd(u:E.W.Ok)(f:aJ E.W a)(wb:aJ E.W b)(v:dY a=true\/dY b=true):cG E G 5 c g d R a b:=by
 intro n σ s i j w h z t r p Q q;obtain⟨m,rfl⟩:=jY w;exact rn m u h f wb t r (jJ p.z.row.1) (λx y J=>v.elim (λv=>m_ v x) λv=>m_ v y) (λl=>q true σ s ⟨aP.refl h,bI.refl,p.z.2,λJ=>.inl l,tF,aaW ..⟩) λnl=>q false σ s ⟨aP.refl h,bI.refl,p.z.2,fF,λJ=>⟨nl,Y⟩,aaS (aaW ..) (aaW ..)⟩
theorem wO(u:E.W.Ok)(l:aJ E.W a)(wb:aJ E.W b)(f)
  (A:∀x∈a.2,∀y∈b.2,cG E G N (f x y) g d R (aA x) (aA y))(z:∀y∈b.2,∀x∈a.2,cG E G N (f y x) g d R (aA y) (aA x))(D:G.U=[]\/(a.2.length<=1/\b.2.length<=1))(H:∀s s',R s->s'.rd=s.rd->s.τ<+:s'.τ->s.tr<+:s'.tr->R s'):
  cG E G (N+13) (cz f a b) g (d+1) R a b:=by
 have h:5<=N+13:=aaS () (abj 13 N)
 by_cases e:a=b
 .subst e;exact(xf u l).mono h (aaX _) (aaX _) (aaX _) λJ r=>r
 cases t:dY a with
 |true=>exact(Gd u l wb (.inl t)).mono h (aa9 _) (aa9 _) (aa9 _) λJ r=>r
 |false=>
  cases q:dY b with
  |true=>exact(Gd u l wb (.inr q)).mono h (aa9 _) (aa9 _) (aa9 _) λJ r=>r
  |false=>
   by_cases w:(∃x,a=aA x)/\∃y,b=aA y
   .obtain⟨⟨x,rfl⟩,⟨y,rfl⟩⟩:=w;exact(ym λL=>e (aaU aA L))▸(A x (.head _) y (.head _)).mono (aaW ..) (aaX _) (aaX _) (ab7 _) λJ r=>r
   .have B:1<=cz f a b:=by
     by_cases m:a8 a=a8 b
     .rw[rS e w t q m,abu];exact aaW ..
     .exact aa7 (sO e t q m).symm
    exact(tZ u l wb (λs i j J J J J J J J p=>abb (abb (abW B) (aa2 (aaW ..) _)) p.c) (BD u l wb w f A z D H (λm=>aa7 (rS e w t q m).symm) λm=>aa7 (sO e t q m).symm)).mono (aaX _) (aaX _) (aaX _) (aaX _) λJ r=>r
end
section
variable{E:EN}{o:Th->Th->Nat}{g:Nat}{x y:Th}
theorem Ve(h:k<=g):NT k<=NT g:=aa2 (abz 31 h) 10
theorem FU(g):NT g-5+5<=NT g:=aa7 (Nat.sub_add_cancel (aaS () (abj 10 _)))
theorem aas(g):NT g+13+13=NT (g+1)-5:=by unfold NT;lia
theorem XX(a:1<=g)(lf:aI x=true\/aI y=true)(ne:x≠y):1<=tN E.W o g x y:=by
 obtain⟨m,rfl⟩:=jY a;unfold tN;rw[aa_ ne];split
 .rw[abu];exact aaW ..
 .exact(abn (Bool.or_eq_true_iff.mpr lf))▸aaX _
theorem GH(c:E.W.Ok)(b:bT E.W x)(d:bT E.W y)(f:1<=g)(lf:aI x=true\/aI y=true)(h:dJ E .none (NT g-5) (tN E.W o g x y) g (2*g) (RL (3-g)) (aA x) (aA y)):cG E .none (NT g) (tN E.W o g x y) g (2*g) (RL (3-g)) (aA x) (aA y):=by
 by_cases a:x=y
 .subst a;exact(xf c (fW b.1)).mono (aaS () (abj ..)) (aa9 _) (aa9 _) (aa9 _) λJ J=>trivial
 .exact(tZ c (fW b.1) (fW d.1) (λs i j J J J J J J J p=>abb (abb (abW (XX f lf a)) (aa2 (aaW ..) _)) p.c) h).mono (FU g) (aaX _) (aaX _) (aaX _) λJ r=>r
theorem uI{W y}(h:d8 y):bT W (.lf y):=⟨h,nofun⟩
theorem Hf(t:E.W.Ok)(o g):∀x y,bT E.W x->bT E.W y->(aI x=true\/aI y=true)->fk x<=g->fk y<=g->1<=g->g<=3->dJ E .none (NT g-5) (tN E.W o g x y) g (2*g) (RL (3-g)) (aA x) (aA y):=by
 induction g with
 |zero=>exactλJ J J J J J J h=>absurd h ()
 |succ g ih=>
  intro x y m c lf B M _ hg;by_cases A:x=y
  .exactλn σ s i j J h ka kb=>absurd (fH (h.tab.nodup) (ig ka) (ig (A▸kb)))
  have g2:=Nat.sub_le_sub_left (abj 1 g) 3;have u:∀s i j,RL _ s->¬(cW _ (aW x) i=true/\cW _ (aW y) j=true):=λs i j r hh=>by
   exact lf.elim (λlf=>fF ((F4 r g2 (DR lf)).1.symm.trans hh.1)) λlf=>fF ((F4 r g2 (DR lf)).2.symm.trans hh.2)
  by_cases mix:aI x=aI y;rotate_left
  .obtain⟨na,nf⟩:=PB t m c mix;have tc:tN E.W o (g+1) x y=1:=by
    unfold tN;rw[aa_ A];cases x with
    |lf=>cases y with
     |lf=>exact absurd Y mix
     |_=>rfl
    |_=>cases y with
     |lf=>rfl
     |_=>exact absurd Y mix
   rw[tc];have h2:∀l,b8 _ l=0:=λl=>by
    induction l with
    |nil=>rfl
    |cons p l ih=>rw[s9,ih]
   refine(xc t m.1 c.1 (λJ=>0) (λJ=>0) (λr Q=>absurd (na▸Q) abo) (λf=>absurd f nf) (λJ J J J J J J J J J J J=>trivial) (λJ J J J J J J J J J J J=>trivial) (λs i j r J J J J J=>u s i j r) true tF λs i j J J J J=>?_).mono (aa2 (aa9 _) 13) (aaX _) (aaX _) (aaX _) λJ r=>r;rw[Rg.nO,Rg.nO,h2];unfold cw;rw[na];decide
  .have U:=lf.elim id λl=>mix.trans l;have ly:=mix▸U;cases x with
   |own=>exact fF U
   |six=>exact fF U
   |lf x=>
   cases y with
   |own=>exact fF ly
   |six=>exact fF ly
   |lf y=>
   have low:∀{x y},d8 x->d8 y->bE x<=g->bE y<=g->cG E .none (NT g) _ g (2*g) _ _ _:=λm c B M=>
    GH t (uI m) (uI c) (aaS (DL _) B) (.inl Y) (ih _ _ (uI m) (uI c) (.inl Y) B M (aaS (DL _) B) (Nat.le_of_succ_le hg))
   have q:∀{x z},bE x<=g+1->Small x z->∃y,z=.lf y/\bE y<=g/\d8 y:=λh e=>e.imp λy e=>⟨e.1,Nat.le_of_succ_le_succ (aaS e.2.1 h),e.2.2⟩;have D:∀{a b},aJ E.W a->aJ E.W b->_->_->cG E .none _ _ g (2*g+1) _ a b:=λ{a b}N wb L H=>by
    have both:∀{a b:Kind},(∀z∈a.2,∃y,z=.lf y/\bE y<=g/\d8 y)->(∀z∈b.2,∃y,z=.lf y/\bE y<=g/\d8 y)->∀x∈a.2,∀y∈b.2,cG E .none (NT g) _ g (2*g) (RL (3-g)) (aA x) (aA y):=λL H x mx y my=>by
     obtain⟨x',rfl,Mz,C6⟩:=L x mx;obtain⟨y',rfl,X4,I1⟩:=H y my;exact low C6 I1 Mz X4
    exact wO t N wb _ (both L H) (both H L) (.inl Y) λs s' r e J J=>r.mono e (aaX _)
   have tc:tN E.W o (g+1) (.lf x) (.lf y)=1+cw (λp=>cz (tN E.W o g) p.1 p.2) (.lf x) (.lf y)+(if !pS E.W (.lf x) (.lf y) then b8 (λp=>cz (tN E.W o g) p.1 p.2) (bq E.W (.lf x) (.lf y)) else 0):=by
    unfold tN;rw[aa_ A];rfl
   rw[tc];refine xc t (d:=2*g+1) (RA:=RL (3-g)) (RM:=RL (3-g)) m.1 c.1 _ _ (λr Q p T=>?_) (λJ p T=>?_) (λs s' i j J r J J J e J J=>r.mono e (Nat.sub_le_sub_left (ab7 _) 3)) (λs s' i j J r J J J e J J=>(r.push e).mono Y (by lia)) (λs i j r J J J J J=>u s i j r) _ (λe=>YF (Bool.not_eq_false' .. ▸e)) λs i j J J J J=>aa7 (ab5 _).symm
   .obtain⟨a,b,rfl,N,wb,k,as,bs,h1,h2,ma,mb⟩:=vl m.1 c.1 Q T;exact D (dN N) (dN wb) (λz w=>q B (Aj m.1 h1 ma w)) λz w=>q M (Aj c.1 h2 mb w)
   .obtain⟨⟨m1,m2⟩,w1,w2⟩:=uv t m c T;exact D w1 w2 (λz w=>q B (Gg t m.1 _ m1 z w)) λz w=>q M (Gg t c.1 _ m2 z w)
theorem FY(c:E.W.Ok)(o g x y)(b:bT E.W x)(a:bT E.W y)(lf:aI x=true\/aI y=true)(i:fk x<=g)(h:fk y<=g)(d:1<=g)(f:g<=3):cG E .none (NT g) (tN E.W o g x y) g (2*g) (RL (3-g)) (aA x) (aA y):=
 GH c b a d lf (Hf c o g x y b a lf i h d f)
theorem NX(i:E.W.Ok)(j:aJ E.W a)(wb:aJ E.W b)(h:∀z∈a.2,bT E.W z/\fk z<=3)(f:∀z∈b.2,bT E.W z/\fk z<=3)(lf:∀x∈a.2,∀y∈b.2,aI x=true\/aI y=true):cG E .none (NT 3+13) (kc E.W (a,b)) 3 7 (RL 0) a b:=
 wO i j wb _ (λx d y c=>FY i _ 3 x y (h x d).1 (f y c).1 (lf x d y c) (h x d).2 (f y c).2 () ()) (λy c x d=>FY i _ 3 y x (f y c).1 (h x d).1 (lf x d y c).symm (f y c).2 (h x d).2 () ()) (.inl Y) λs s' r e J J=>r.mono e (aaX _)
theorem vh(c:E.W.Ok)(o:cQ E.W x)(h:dR k\/∃z∈bk E.W x,k.2=[z]):∀z∈k.2,bT E.W z/\fk z<=3:=λz a=>by
 rcases h with h|⟨w,b,e⟩
 .exact h.ok.1 z a
 .rw[e,aaT] at a;subst a;have o:=jD c o z b;refine⟨o.ok,?_⟩;cases z with
  |lf x=>exact tF o.own
  |_=>exact aa9 _
theorem Be(b:aI z=false)(a:aI w=false):tc W z w=0:=by
 unfold tc tN;split
 .rfl
 .rw[b,a];rfl
theorem Oq(c:E.W.Ok)(T:cQ E.W l)(N:cQ E.W f)(m):∀x y,(x,y)∈eV E.W l f->dJ E (j9 E.W l f) (NT (m+3)-5) 0 (m+3) (2*(m+3)) (Dk E.W l f m) (aA x) (aA y):=by
 induction m with
 |zero=>exactλx y A n σ s i j M h ka kb tB da db ea eb kt pp Q q=>absurd (aaS (List.length_pos_of_mem (Rg.Xt A (wA (s:=s) h.tab.nodup (ig ka) (ig kb) kt))) pp.r.1) (Nat.lt_irrefl _)
 |succ m ih=>
  intro x y D;have vo:=Cu c T N;have B:=IC c T N D;have L:=vo x B.1;have H:=vo y B.2;have low:∀{x y},(x,y)∈eV E.W l f->cG E _ _ 0 (m+3) _ _ (aA x) (aA y):=λA=>by
   have B:=IC c T N A;refine(tZ c (fW (vo _ B.1).ok.1) (fW (vo _ B.2).ok.1) (λs i j M ka kb da db tB kt pp=>?_) (ih _ _ A)).mono (FU _) (aaX _) (aaX _) (aaX _) λJ r=>r;have pc:=pp.c;have:=Ai M (ig ka) (ig kb) kt A
   lia
  have t:∀{a b},aJ E.W a->aJ E.W b->_->_->_->cG E .none _ _ (m+3) _ (RL 0) a b:=λwa wb h1 h2 h3=>
   (NX c wa wb h1 h2 h3).mono (aa2 (Ve (abj 3 m)) 13) (aaX _) (abj 3 m) (abI (abz 2 (abj 3 m))) λJ r=>r
  refine xc c (d:=2*(m+3)+1) (RM:=Dk E.W l f m) L.ok.1 H.ok.1 (kc E.W) (kc E.W) (λr mr p A=>?_) (λJ p A=>?_) (λs s' i j J r J J J e J J=>r.2.leaf c T N e) (λs s' i j M r hx hy kt e u pt=>?_) (λs i j r J M hx hy=>LW JY (WY T.own N.own) M r.2 hx hy B.1 B.2) true tF (λs i j M hx hy kt=>?_)
  .obtain⟨a,b,rfl,wa,wb,k,as,bs,h1,h2,ma,U⟩:=vl L.ok.1 H.ok.1 mr A;have k1:=jB wa (L.dep a (oE L.own h1▸ma));exact t (dN wa) (dN wb) k1.ok.1 (jB wb (H.dep b (oE H.own h2▸U))).ok.1 λx mx y my=>.inl ((dR.ok (W:=E.W) k1).2 x mx)
  .obtain⟨⟨m1,m2⟩,w1,w2⟩:=uv c L.ok H.ok A;have r1:=kP c L _ m1;have r2:=kP c H _ m2;by_cases both:(∃z∈bk E.W x,p.1.2=[z])/\∃w∈bk E.W y,p.2.2=[w]
   .obtain⟨⟨z,mz,ez⟩,⟨w,mw,ew⟩⟩:=both;have oz:=jD c L z mz;have ow:=jD c H w mw;have u1:=EO c T N D mz mw (j_.mpr ⟨p,A,ez,ew,oz.own,ow.own⟩);refine wO c w1 w2 _ (λa ma b U=>?_) (λb U a ma=>?_) (.inr ⟨aa7 (aaU List.length ez),aa7 (aaU List.length ew)⟩) λs s' r e u pt=>⟨aaS (Rg.Yo u (km pt)) r.1,r.2.mono e u⟩
    .cases aaT.mp (ez▸ma)
     cases aaT.mp (ew▸U)
     rw[Be oz.own ow.own];exact low u1
    .cases aaT.mp (ez▸ma)
     cases aaT.mp (ew▸U)
     rw[Be ow.own oz.own];exact low (Dn u1)
   .refine(t w1 w2 (vh c L r1) (vh c H r2) λa ma b U=>?_).weak.mono (aaX _) (aaX _) (aaX _) (aaX _) λs r=>r.2.leaf c T N Y;exact r1.elim (λk1=>.inl ((dR.ok (W:=E.W) k1).2 a ma)) λq1=>.inr ((dR.ok (W:=E.W) (r2.resolve_right λq2=>both ⟨q1,q2⟩)).2 b U)
  .refine⟨Nat.le_of_succ_le_succ (aaS (Rg.K7 u (λk mk=>pt.subset (abe _ mk)) D (wA M hx hy kt) ⟨i,j,hx.mono u,hy.mono u,pt.subset (abi _ (.head _))⟩) r.1),λe' me=>?_⟩;rw[e] at me;rcases abq.mp me with me|me
   .exact(r.2 e' me).imp λz h=>⟨h.1,h.2.imp λw h=>⟨h.1,h.2.1.mono u,h.2.2.1.mono u,h.2.2.2⟩⟩
   .cases aaT.mp me
    exact⟨x,B.1,y,B.2,hx.mono u,hy.mono u,Y,Y⟩
  .have:=Ai M hx hy kt D
   lia
end
theorem fa{b:Type}{p:b->Prop}{a l}(h:p a)(t:∀x∈l,p x):∀x∈a::l,p x:=aa'.mpr ⟨h,t⟩
section
variable{E:EN}
theorem MN(n){b deep d items}(z:E.R.aV≠E.R.kn)(M:E.R.aV≠b)(H:E.R.kn≠b)(D:E.R.aV≠E.R.rel)(B:E.R.kn≠E.R.rel){K}(r):∀{kn L σ},σ[b]?=some (.list items)->σ[E.R.rel]?=some (.inst 692 (i6 E.H E.R b deep d))->σ[E.R.aV]?=some (.dict .tup (cR r))->σ[E.R.kn]?=some (.dict .tup (eo kn))->r.Nodup->r.length+kn.length<=20000->L.lookup 219=some (.loc E.R.rel)->L.lookup 114=some (.bool true)->
  (∀s a c,s.lookup 219=some (.loc E.R.rel)->ag [E.R.aV,E.R.kn] σ a->a[E.R.aV]?=some (.dict .tup [])->a[E.R.kn]?=some (.dict .tup (eo c))->c.length<=kn.length+r.length->(∀p∈c,p∈kn\/(p.2=true/\p.1∈r))->K .next s a)->
  bU (aH n) (.one 155) Dh (.loc b items) (r.map bS) L K σ:=by
 induction r with
 |nil=>exactλf t i u nd hs e1 e2 q=>⟨f,q _ _ _ e1 .refl i u (aaX _) λp=>.inl⟩
 |cons k r Q=>
  intro kn L σ f t i u nd hs e1 e2 q;obtain⟨A,nd⟩:=abv.mp nd;rw[abt,abT] at hs;have l1:=C0 (kn:=kn) (k:=k) (v:=true);have tz:∀{n},n<=20000->n<=sizeLine:=λh=>sz (aaS h ());refine⟨f,aa (sl Y e1) (ae t (aa se (ae i ⟨⟨ju k,lm (tz (aaS (abI (aaW ..)) hs)),tV.trans (aba (.head _))⟩,eB (aaU _ (Qu A)) ?_⟩)))⟩;have y:ag [E.R.aV,E.R.kn] σ (σ.set E.R.aV (.dict .tup (cR r))):=ag.set (.head _);have x:=ba (o':=.dict .tup (cR r)) i;have l:=a4 (o':=.dict .tup (cR r)) t D;have j:=a4 (o':=.dict .tup (cR r)) u z;have w:=a4 (o':=.dict .tup (cR r)) f M;revert y x l j w;refineλy x l j w=>aa (sl Y e2) (aa (sl Y e1) (ae l (aa se (ae j ⟨⟨ju _,lm (tz (aaS (abj ..) (Nat.le_of_succ_le hs)))⟩,eB (aaU _ EP) ?_⟩))));refine Q (a4 w H) (a4 l B) (a4 x z.symm) (ba j) nd (aaS (aa3 l1 _) hs) (sl Y e1) (sl Y e2) λs a c f1 f2 f3 f4 U T=>?_;refine q s a c f1 ((y.trans (ag.set (.tail _ (.head _)))).trans f2) f3 f4 (by rw[abt,abE r.length,←abu];exact aaS U (aa2 l1 _)) λp N=>?_
  rcases T p N with m|h
  .rcases wz m with e|m
   .exact .inr ⟨e.2,e.1▸.head _⟩
   .exact .inl m
  .exact .inr ⟨h.1,.tail _ h.2⟩
theorem PA(h:aF E σ s):∀a∈E.mut s.aw,a<σ.length:=
 fa (aD h.tab.rows) (fa (aD h.tab.index) (fa (aD h.host.ins) (fa (aD h.rel) (fa (aD h.aV) (fa (aD h.kn) (fa (aD h.rd) (fa (aD h.aw) (fa (aD h.bZ) nofun))))))))
theorem Xv(h:aF E σ s):∀a∈E.nQ,a<σ.length:=by
 have b:=λk c=>(h.decl.decl k c).elim λfs e=>aD e.1;exact fa (aD h.tab.tab) (fa (aD h.decl.list) (fa (b 0 ()) (fa (b 1 ()) (fa (b 2 ()) (fa (b 3 ()) (fa (aD h.host.host) (fa (aD h.rules) (fa (aD h.r5) (fa (aD h.cV) nofun)))))))))
theorem LS(m:a∈E.mut b)(h:a≠b):a∈E.mut c:=by
 have e:∀t,E.mut t=[E.T.rows,E.T.index,E.H.ins,E.R.rel,E.R.aV,E.R.kn,E.R.rd]++_:=λJ=>Y;rw[e] at m⊢;exact(abq.mp m).elim (abe _) λm=>abi _ (.tail _ ((aa5.mp m).resolve_left h))
theorem Nf(nd:(E.mut d).Nodup)(h:∀a∈E.mut d,a≠c):(E.mut c).Nodup:=by
 have e:∀t,E.mut t=[E.T.rows,E.T.index,E.H.ins,E.R.rel,E.R.aV,E.R.kn,E.R.rd]++_:=λJ=>Y;rw[e] at h nd⊢;obtain⟨j,i,f⟩:=abR.mp nd;exact abR.mpr ⟨j,abv.mpr ⟨λm=>h E.R.bZ (abi _ (.tail _ (.head _))) (aaT.mp m).symm,(abv.mp i).2⟩,λa ma b l q=>((aa5.mp l).elim (λw=>h a (abe _ ma) (q.trans w)) λw=>f a ma b (.tail _ w) q)⟩
theorem Vm(n){σ s}(h:aF E σ s)(A:∀k∈s.tr,i7 E.W s.τ k.1 k.2)(B:s.au<=20000){Q}
  (q:∀b f d,aF E b {s with tr:=[],aw:=d,kn:=f}->σ.length<=d->ag (E.mut s.aw) σ b->Q .none b):C (n+1) 752 [.loc E.R.rel,.bool true] Q σ:=by
 have z:=h.cnt
 have w:=bV h.nd 4 3 Y Y ()
 have u:=bV h.nd 5 3 Y Y ()
 refine fn Ep Y Y (ae h.rel (ae h.aw (MN n (bV h.nd 4 5 Y Y ()) (bV h.nd 4 7 Y Y ()) (bV h.nd 5 7 Y Y ()) w u s.tr h.aw h.rel h.aV h.kn h.iJ (aaS (aa7 (abE ..)) (aaS z B)) Y Y λL' b f U p T N M y=>aa U ?_)))
 have r1:=ay (x:=[AO.list []]) (p.get h.rel λm=>(aa5.mp m).elim w.symm λm=>u (aaT.mp m).symm)
 refine ae r1 ⟨⟨Y,dt Y⟩,?_⟩
 have c:ag [E.R.aV,E.R.kn,E.R.rel] σ ((b++[AO.list []]).set E.R.rel (.inst 692 (i6 E.H E.R b.length s.deep s.au))):=(p.mono λx=>abe [E.R.rel]).trans (ag.app.trans (ag.set (.tail _ (.tail _ (.head _)))))
 have r:∀(i){a},_[i]?=some a->a∈E.mut s.aw:=λi a=>abk
 have t:=fa (r 4 Y) (fa (r 5 Y) (fa (r 3 Y) nofun))
 have k:∀(i){a},E.nQ[i]?=some a->a∉[E.R.aV,E.R.kn,E.R.rel]:=λi a e=>tf t h.fix a (abk e)
 have j:∀(i){a},_[i]?=some a->decide (i≠3)=true->decide (i≠4)=true->decide (i≠5)=true->a∉[E.R.aV,E.R.kn,E.R.rel]:=λi a e L H D m=>by
  rcases aa5.mp m with m|m
  .exact bV h.nd i 4 e Y (dt H) m
  .rcases aa5.mp m with m|m
   .exact bV h.nd i 5 e Y (dt D) m
   .exact bV h.nd i 3 e Y (dt L) (aaT.mp m)
 have fresh:=λa m=>abx (abb ((PA h) a m) p.1)
 exact q _ f b.length ⟨⟨h.inv.base,h.inv.str0,h.inv.dW,h.inv.ins,λl m=>((y _ m).elim (h.inv.je l) λm=>A _ m.2),λl m=>((y _ m).elim (h.inv.jx l) λe=>fF e.1)⟩,h.tab.chg c (k 0 Y) (j 0 Y Y Y Y) (j 1 Y Y Y Y),⟨c.get h.host.host (k 6 Y),c.get h.host.ins (j 2 Y Y Y Y)⟩,xl h.decl c t h.fix,ba r1,c.get h.rules (k 7 Y),c.get h.r5 (k 8 Y),a4 (ay T) w.symm,a4 (ay N) u.symm,a4 az (fresh E.R.rel (r 3 Y)),c.get h.rd (j 6 Y Y Y Y),c.get h.cV (k 9 Y),c.get h.bZ (j 8 Y Y Y Y),Nf h.nd fresh,λa ma m=>h.fix a ma (LS m (abx (abb (Xv h a ma) p.1))),ab6,aaS M z⟩ p.1 (c.mono t)
end
theorem Ds(D:E.W.Ok)(B:aJ E.W a)(wb:aJ E.W b)(sp:a≠b->dJ E .none N c g d R a b)(hc:a≠b->dY a=false->dY b=false->1<=c)(n)(hn:N+5<=n)(h:aF E σ s)(H:s.tr=[])(w:aB E.W s.τ a i)(u:aB E.W s.τ b j)(p:fw E .none c g d R s)
  (q:∀v L s',tR E c a b v σ s L s'->Q (.bool v) L):C n 654 [.loc E.R.rel,iv i,iv j] Q σ:=by
 obtain⟨m,rfl⟩:=jY (aaS (abj ..) hn)
 have bs:=h.inv.base
 have now:=λv hv=>q v σ s ⟨aP.refl h,H,aaW ..,hv⟩
 have yes:aQ E.W a b->(true=true↔aQ E.W a b):=λl=>⟨λJ=>l,λJ=>Y⟩
 have no:¬aQ E.W a b->(false=true↔aQ E.W a b):=λl=>⟨fF,λk=>absurd k l⟩
 refine vR m D h B wb w u (jJ p.z.row.1) (λl=>now true (yes l)) (λl=>now false (no l)) λT da db ea eb=>?_
 have M:a≠b:=λe=>T (E2 h.tab.nodup w (e▸u))
 have va:=abV.mpr λq=>m_ q da
 have vb:=abV.mpr λq=>m_ q db
 refine IU (m+1) h p.A4 (λJ=>abb (abW (hc M va vb)) p.room) (AJ E .none c a b (i,j) s) (λv mk=>?_) (λmk=>absurd (H▸mk) abo) (λkt A f7 c₁ TL U=>?_) (λr x=>⟨a,b,B,wb,w.mono x.pre,u.mono x.pre,x.f Y⟩) (λr x=>x.t Y) (λe=>absurd H e) (λJ t r x mt J g nn=>?_) λt r x J g=>q false t _ ⟨g,H,x.c,no (x.f Y)⟩
 .cases v with
  |true=>exact now true (yes ((h.inv.je _ mk).out D.names bs B wb w u))
  |false=>exact now false (no ((h.inv.jx _ mk).out D.names bs B wb w u))
 .exact sp M (m+2) A s i j (aaS (Nat.le_of_add_le_add_right hn) (aaW ..)) f7 w u T da db ea eb kt p λv z r o=>U v z r o.g o.n o.l ⟨o.g.pre,o.l,o.n.aw,o.t,o.f,o.c⟩
 .have f:=λk mk=>(nn.n9 k mk).resolve_left λm=>absurd (H▸m) abo;have tl:=MS D g.st.inv.base f;exact Vm (m+1) g.st tl x.l λy kn' aaq jK J9 lD=>q true y _ ⟨g.trans (k':=0) ⟨jK,lD,abp _,.inr J9,Y,Y,aaX _,aaX _⟩,Y,x.c,yes ((tl _ mt).out D.names g.st.inv.base B wb (w.mono x.pre) (u.mono x.pre))⟩
section
variable{E:EN}{R:RS->Prop}{x y:Th}
theorem uG(m:E.W.Ok)(t:cQ E.W x)(p:cQ E.W y)(l:p5 E.W x y)(u:(a,b)∈eV E.W x y):dJ E .none (NT 13-5) 1240 13 26 (fh E.W (eP E.W x y)) (aA a) (aA b):=by
 intro n σ s i j A h z w d L H D B kt pp Q q;have r:=UZ m l (s:=s);refine Oq m t p 10 a b u n σ s i j A h z w d L H D B kt ⟨pp.z,pp.rd,pp.deep,aaS (aa3 r.1 _) pp.c,r.2,pp.r⟩ λv c s' o=>q v c s' ⟨o.g,o.n,o.l,o.t,o.f,?_⟩;have f:=aaS o.c (aa3 r.1 s.au);cases v with
 |true=>exact aaS (aa3 (aa9 _) _) f
 |false=>exact f
theorem Ib(h:E.W.Ok)(a:∀s,R s->RL 0 s)(c:bT E.W x/\fk x<=3)(b:bT E.W y/\fk y<=3)(l:aI x=false->aI y=false->x≠y->dJ E .none (NT 13-5) 1240 13 26 R (aA x) (aA y))(ne:x≠y):dJ E .none (NT 13-5) (tt E.W x y) 13 26 R (aA x) (aA y):=by
 by_cases lf:aI x=true\/aI y=true
 .exact(Hf h _ 3 x y c.1 b.1 lf c.2 b.2 () ()).mono () (aaX _) () () a
 .have f:=abV.mpr λq=>lf (.inl q);have d:=abV.mpr λq=>lf (.inr q);exact(TJ ne f d)▸l f d ne
theorem Ax(b:E.W.Ok)(c:∀s,R s->RL 0 s)(a:bT E.W x/\fk x<=3)(d:bT E.W y/\fk y<=3)(l:aI x=false->aI y=false->x≠y->dJ E .none (NT 13-5) 1240 13 26 R (aA x) (aA y)):cG E .none (NT 13) (tt E.W x y) 13 26 R (aA x) (aA y):=by
 by_cases e:x=y
 .subst e;exact(xf b (fW a.1.1)).mono () (aaX _) (aaX _) (aaX _) λJ r=>r
 .exact(tZ b (fW a.1.1) (fW d.1.1) (λs i j J J J J J J J p=>abb (abW (Jv e)) p.c) (Ib b c a d l e)).mono () (aaX _) (aaX _) (aaX _) λJ r=>r
theorem x9(u:E.W.Ok)(c:∀s,R s->RL 0 s)(L:∀s s',R s->s'.rd=s.rd->s.τ<+:s'.τ->R s')(M:aJ E.W a)(wb:aJ E.W b)(D:∀z∈a.2,bT E.W z/\fk z<=3)(B:∀z∈b.2,bT E.W z/\fk z<=3)
  (l:∀x∈a.2,∀y∈b.2,aI x=false->aI y=false->x≠y->dJ E .none (NT 13-5) 1240 13 26 R (aA x) (aA y)/\dJ E .none (NT 13-5) 1240 13 26 R (aA y) (aA x))(ne:a≠b):dJ E .none (NT 13+8) (kt E.W (a,b)) 13 27 R a b:=by
 unfold kt
 cases A:dY a with
 |true=>exactλn σ s i j J J J J J T=>absurd T (m_ A)
 |false=>
  cases w:dY b with
  |true=>exactλn σ s i j J J J J J J Q=>absurd Q (m_ w)
  |false=>
   by_cases H:(∃x,a=aA x)/\∃y,b=aA y
   .obtain⟨⟨x,rfl⟩,⟨y,rfl⟩⟩:=H;have t:=λe=>ne (aaU aA e);exact(ym t)▸(Ib u c (D x (.head _)) (B y (.head _)) (λq p h=>(l x (.head _) y (.head _) q p h).1) t).mono () (aaX _) (aaX _) () λJ r=>r
   .exact BD u M wb H (tt E.W) (λx f y d=>Ax u c (D x f) (B y d) λq p h=>(l x f y d q p h).1) (λy d x f=>Ax u c (B y d) (D x f) λq p h=>(l x f y d p q (Ne.symm h)).2) (.inl Y) (λs s' r e N J=>L s s' r e N) (λm=>aa7 (rS ne H A w m).symm) λm=>aa7 (sO ne A w m).symm
theorem S5(c:E.W.Ok)(f:cQ E.W x)(d:cQ E.W y)(l:p5 E.W x y)(m:(∃road∈aZ x y,(a,b)∈road)\/(a,b)∈bq E.W x y):(aJ E.W a/\aJ E.W b)/\(a≠b->dJ E .none (NT 13+8) (kt E.W (a,b)) 13 27 (fh E.W (eP E.W x y)) a b):=by
 have q:∀s,fh E.W _ s->RL 0 s:=λs r=>r.leaf c f d Y;have p:∀s s',fh E.W _ s->s'.rd=s.rd->s.τ<+:s'.τ->fh E.W (eP E.W x y) s':=λs s' r=>r.mono;rcases m with⟨road,mr,u⟩|u
 .obtain⟨a',b',e,B,wb,k,as,bs,h,H,ma,mb⟩:=vl f.ok.1 d.ok.1 mr u;cases e
  have A:=jB B (f.dep a' (oE f.own h▸ma));have k2:=jB wb (d.dep b' (oE d.own H▸mb));exact⟨⟨dN B,dN wb⟩,x9 c q p (dN B) (dN wb) A.ok.1 k2.ok.1 λz t w D h=>tF (((dR.ok (W:=E.W) A).2 z t).symm.trans h)⟩
 .obtain⟨⟨m1,m2⟩,M,L⟩:=uv c f.ok d.ok u;have r1:=kP c f _ m1;have Q:=kP c d _ m2;refine⟨⟨M,L⟩,x9 c q p M L (vh c f r1) (vh c d Q) λz t w D h H h3=>?_⟩;obtain⟨z',i,T⟩:=r1.resolve_left λA=>tF (((dR.ok (W:=E.W) A).2 z t).symm.trans h);obtain⟨w',j,U⟩:=Q.resolve_left λk2=>tF (((dR.ok (W:=E.W) k2).2 w D).symm.trans H);cases aaT.mp (show z∈[z'] from T▸t)
  cases aaT.mp (show w∈[w'] from U▸D)
  have N:=EO c f d (.head _) i j (j_.mpr ⟨_,u,T,U,(jD c f z i).own,(jD c d w j).own⟩);exact⟨uG c f d l N,uG c f d l (Dn N)⟩
variable(E:EN)(s:RS)(i j:Nat)(x y:Th)in
section
structure DA(l)(s':RS):Prop where
 t:s'.tr=[]
 rd:s'.rd=[]
 dp:s'.deep=0
 pf:s.τ<+:s'.τ
 ro:∃d,d++l∈aZ x y/\∀p∈d,aQ E.W p.1 p.2
 c:s'.au+b8 (kt E.W) l<=s.au+cw (kt E.W) x y
structure DF(s':RS):Prop where
 t:s'.tr=[]
 rd:s'.rd=[]
 dp:s'.deep=0
 pf:s.τ<+:s'.τ
 no:∃road∈aZ x y,∃p∈road,¬aQ E.W p.1 p.2
 c:s'.au<=s.au+cw (kt E.W) x y
structure DM(l)(s':RS):Prop where
 t:s'.tr=[]
 rd:s'.rd=[(aW x,i,aW y,j)]
 dp:s'.deep=0
 pf:s.τ<+:s'.τ
 na:∀road∈aZ x y,∃p∈road,¬aQ E.W p.1 p.2
 ro:∃d,d++l=bq E.W x y/\∀p∈d,aQ E.W p.1 p.2
 c:s'.au+b8 (kt E.W) l<=s.au+(cw (kt E.W) x y+b8 (kt E.W) (bq E.W x y))
structure DN(s':RS):Prop where
 t:s'.tr=[]
 na:∀road∈aZ x y,∃p∈road,¬aQ E.W p.1 p.2
 no:∃p∈bq E.W x y,¬aQ E.W p.1 p.2
 c:s'.au<=s.au+(cw (kt E.W) x y+b8 (kt E.W) (bq E.W x y))
end
theorem S1(hw:E.W.Ok)(ox:cQ E.W x)(oy:cQ E.W y)(l:p5 E.W x y)(T:cw (kt E.W) x y+b8 (kt E.W) (bq E.W x y)<=8000)(n)(hn:NT 13+30<=n)(h:aF E σ s)(ht:s.tr=[])(hr:s.rd=[])(hd:s.deep=0)(hz:b9 130 s)(hl:s.au<=10000)(hx:IsT E.W s.τ x i)(hy:IsT E.W s.τ y j)
  (q:∀v f s',aP E 130 σ s f s'->s'.tr=[]->s'.au<=s.au+8000->(v=true↔(x=y\/br E.W x y))->Q (.bool v) f):C n 1023 [.loc E.R.rel,iv i,iv j] Q σ:=by
 obtain⟨m,rfl⟩:=jY (aaS (():10<=NT 13+30) hn)
 have hm:=Nat.le_of_add_le_add_right (b:=17) (aaS hn (aa3 () m))
 have z0:=abw hl T
 have ask:∀{a b},((∃road∈aZ x y,(a,b)∈road)\/(a,b)∈bq E.W x y)->∀n,NT 13+13<=n->∀{σ}{s i j},aF E σ s->s.tr=[]->aB E.W s.τ a i->aB E.W s.τ b j->b9 0 s->s.rd.length<=1->s.deep=0->fh E.W (eP E.W x y) s->s.au+kt E.W (a,b)<=18000->∀{Q},(∀v f s',tR E (kt E.W (a,b)) a b v σ s f s'->s'.au<=20000->Q (.bool v) f)->C n 654 [.loc E.R.rel,iv i,iv j] Q σ:=λ{a b}mm n hn{σ s i j}h ht ka kb z r d rr c{Q}q=>by
  obtain⟨w,lk⟩:=S5 hw ox oy l mm;exact Ds hw w.1 w.2 lk (Bc) n hn h ht ka kb ⟨z,aaS (aa2 r 13) (),d.symm▸(),by exact Rg.nO▸aaS c (),rr⟩ λv f s' o=>q v f s' o (aaS o.l (aaS c ()))
 refine HC m hw h hx hy ox.ok.1 oy.ok.1 (λe=>tF ((aaU aI e.1).symm.trans ox.own)) hz (hr.symm▸()) (λe=>fF ((Bool.and_false _).symm.trans ((aaU (λr:List (Nat×Nat×Nat×Nat)=>cW (r.map (cH 0)) (aW x) i) hr).symm.trans e.1))) (AA:=DA E s x y) (FA:=DF E s x y) ?_ (λroad t=>⟨ht,hr,hd,abp _,⟨[],t,nofun⟩,x3 t▸aaX _⟩) (A:=DM E s i j x y) (F:=DN E s x y) ?_ ?_ ?_ ?_ ?_ ?_ ?_ ?_
 .intro a b l' f s' i' j' o h' H D z' Q' qt qf;obtain⟨dn,t,tk⟩:=o.ro;have L:=o.c;have N:(a,b)∈dn++(a,b)::l':=abi _ (.head _);refine ask (.inl ⟨_,t,N⟩) (m+8) (aaS hm (aaW ..)) h' o.t H D z' (o.rd▸()) o.dp (λe me=>absurd (o.rd▸me) abo) (aaS (aaS (aa3 (aaW ..) _) L) (aaS (aa3 (aaW ..) _) z0)) λv p u o' l2=>?_;have ee:=o'.g.rd.trans o.rd;have ed:=o'.g.deep.trans o.dp;have pf:=o.pf.trans o'.g.pre;have M:=nP L o'.l;cases v with
  |true=>exact qt p u o'.g l2 ⟨o'.tr,ee,ed,pf,⟨dn++[(a,b)],(List.append_cons dn (a,b) l')▸t,hB tk (o'.v.mp Y)⟩,M⟩
  |false=>exact qf p u o'.g l2 ⟨o'.tr,ee,ed,pf,⟨_,t,_,N,λk=>fF (o'.v.mpr k)⟩,aaS (aaW ..) M⟩
 .exactλl' s' cm es' o pp=>⟨o.t,o.rd,o.dp,o.pf.trans pp,o.na,o.ro,o.c⟩
 .intro f0 a b l' f s' i' j' o h' H D z' Q' qt qf;obtain⟨dn,er,tk⟩:=o.ro;have L:=o.c;rw[s9] at L;have N:=er▸abi _ (.head _);refine ask (.inr N) (m+6) (aaS hm (aaW ..)) h' o.t H D z' (o.rd▸aaX _) o.dp (λe me=>?_) (aaS (aaS (aa3 (aaW ..) _) L) z0) λv p u o' l2=>?_
  .cases aaT.mp (o.rd▸me)
   exact⟨x,.head _,y,.tail _ (.head _),hx.mono o.pf,hy.mono o.pf,Y,Y⟩
  have M:=nP L o'.l;cases v with
  |true=>exact qt p u o'.g l2 ⟨o'.tr,o'.g.rd.trans o.rd,o'.g.deep.trans o.dp,o.pf.trans o'.g.pre,o.na,⟨dn++[(a,b)],(List.append_cons dn (a,b) l').symm.trans er,hB tk (o'.v.mp Y)⟩,M⟩
  |false=>exact qf p u o'.g l2 ⟨o'.tr,o.na,⟨_,N,λk=>fF (o'.v.mpr k)⟩,aaS (aaW ..) M⟩
 .exactλe0=>⟨ht,(λe=>hr.symm▸Y:∀e,s.rd++[e]=[e]) _,hd,abp _,λr t=>absurd (e0▸t) abo,⟨[],Y,nofun⟩,aa3 (abj ..) _⟩
 .intro f s' B l' o;obtain⟨road,t,np⟩:=o.no;exact⟨o.t,aaU (·++[(aW x,i,aW y,j)]) o.rd,o.dp,o.pf,λr ya=>yr t ya▸np,⟨[],Y,nofun⟩,aaS (aa2 o.c _) (aa7 (abu ..))⟩
 .intro f s' road B l' t o;obtain⟨dn,U,tk⟩:=o.ro;rw[abO] at U;exact q true f s' B o.t (aaS o.c (aa3 (aaS (aaW ..) T) _)) ⟨λJ=>.inr (br.intro ⟨dn,abe _ U,tk⟩),λJ=>Y⟩
 .intro f s' B qX l' ef o;obtain⟨dn,er,tk⟩:=o.ro;rw[abO] at er;subst er;exact q true f {s' with rd:=s.rd} B o.t (aaS o.c (aa3 T _)) ⟨λJ=>.inr (br.intro ⟨bq E.W x y,abi _ ((abn ef).symm▸.head _),tk⟩),λJ=>Y⟩
 .exactλf s' lk B qX l' nf o=>q false f {s' with rd:=s.rd} B o.t (aaS (aaS (aaW ..) o.c) (aa3 T _)) ⟨fF,λk=>absurd k (ID o.na (.inl nf))⟩
 .exactλf s' B qX l' o=>q false f {s' with rd:=s.rd} B o.t (aaS o.c (aa3 T _)) ⟨fF,λk=>absurd k (ID o.na (.inr o.no))⟩
end
section
variable{σ:Sg}{Q:PX}{W:World}
theorem AB(b:σ[t]?=some (.list l))(a:AV.keys l=true)(dl:AV.du l<=40)(kx:x.key=true)(d:x∈l->Q (.bool false) σ)(c:x∉l->Q (.bool true) σ):gK false x (.loc t) Q σ:=by
 refine ae b (bR (zi a dl kx ?_));by_cases m:x∈l
 .rw[aba m];exact d m
 .rw[abf m];exact c m
theorem UH(n){t}{xs:List Th}(i:σ[t]?=some (.list (xs.map (tE W))))(a:∀x∈xs,aL W x){items L}(j:L.lookup 261=some (.loc t))(l:List Th):(∀x∈l,aL W x)->∀{Q},Q ((l.filter λx=>decide (x∉xs)).map (tE W)) σ->
  bK (aH n) (X.v 142) (.one 142) (some (X.cK (X.v 142) (X.v 261))) (.seq items) L (l.map (tE W)) Q σ:=by
 induction l with
 |nil=>exactλJ J q=>q
 |cons x l b=>
  intro d Q q;have c:=U7 (d x (.head _)) a;have b:=@b λy f=>d y (.tail _ f);exact aa se (aa (sl Y j) (AB i (keys_map (jP W) xs) (aaS (V4 a) ()) (jP W x)
   (λm=>b (List.filter_cons_of_neg (p:=λx=>decide (x∉xs)) (by rw[abf λh=>h (c.mp m)];exact aaY)▸q))
   λm=>aa se (b (by rw[List.filter_cons_of_pos (p:=λx=>decide (x∉xs)) (aba λh=>m (c.mpr h))] at q;exact q))))
theorem join_loop(n){r t}{ks:List Kind}(s:r≠t){Q}(l):(∀k∈l,k.1<256/\∀x∈k.2,aL W x)->∀{σ L b xs},(∀x∈xs,aL W x)->σ[r]?=some (.list (ks.map (kE W)))->σ[t]?=some (.list (xs.map (tE W)))->L.lookup 105=some (iv b)->L.lookup 261=some (.loc t)->xs.length+(l.map λk=>k.2.length).sum<=1000->
  (∀f a,ag [t] σ a->f.lookup 105=some (iv (b7 b l))->f.lookup 261=some (.loc t)->a[t]?=some (.list ((gc xs l).map (tE W)))->Q .next f a)->
  bU (aH n) (.many [245,173]) Gw (.loc r (ks.map (kE W))) (l.map (kE W)) L Q σ:=by
 induction l with
 |nil=>exactλJ J J J J J p d e1 e2 J q=>⟨p,q _ _ .refl e1 e2 d⟩
 |cons k l A=>
  intro u σ L b xs i p d e1 e2 hz q;have j:=(u k (.head _)).2;have h:=aaS (aaS (aa2 (aa3 (abS (λx=>decide (x∉xs)) k.2) _) _) (aa7 (abu ..))) hz;refine⟨p,aa (sl Y (sl Y e1)) (aa (sl Y se) (aa (sl Y (sl Y (sl Y e2))) (aa (sl Y se) ⟨lm (sz (aaS (aaS (aaS (aaW ..) (abj ..)) hz) ())),UH n d i (er Y (sl Y (sl Y (sl Y e2)))) k.2 j (bR (Cs (ay d) az (abx (aD d)) ?_ ?_))⟩)))⟩
  .rw[aa1,aa1];exact sz (aaS (aaS (aaW ..) h) ())
  .rw[←abA];have w:∀{o x},ag [t] σ ((σ++x).set t o):=ag.app.trans (ag.set (.head _));refine A (λk' m=>u k' (.tail _ m)) (λx y=>(abq.mp y).elim (i x) λm=>j x (abZ.mp m).1) (w.get p (ne1 s)) (ba (ay d)) (sl Y (se.trans (aaU (λz=>some _) n'))) se (aa4▸h) λf a c=>q f a (w.trans c)
theorem bz{a m:Nat}:Builtin.bitAnd (a) (m)=0↔a&&&m=0:=oh▸Int.ofNat_inj
theorem S'(n){r ks}(i:σ[r]?=some (.list (ks.map (kE W))))(s:∀k∈ks,k.1<256/\∀x∈k.2,aL W x)(hz:(ks.map λk=>k.2.length).sum<=1000)
  (q:∀d,ai σ d->Q (kE W (aS ks)) d):C (n+1) 1173 [.loc r] Q σ:=by
 refine fn Ic Y Y (ae (ay i) (join_loop n (abx (aD i)) ks s nofun (ay i) az Y Y (aaS (aa7 (ab5 _)) hz) λt d c e1 e2 j=>?_))
 have q:=q d ⟨aaS (aa4▸aaW ..) c.1,λm J o e=>c.get (ay e) (ne1 (abx (aD e)))⟩
 have a:=s_ (b:=0) () λk m=>(s k m).1
 have tz:((gc [] ks).map (tE W)).length<=sizeLine:=lm (sz (aaS (aaS EF (aaS (aa7 (ab5 _)) hz)) ()))
 unfold aS at q
 revert e1 a q
 generalize b7 0 ks=B
 refineλe1 q a=>aa e1 (cd (λz=>?_) λz=>aa e1 (cd (λf=>?_) λf=>?_))
 .have p:=λe=>(GY a).mpr e (bz.mp z);rw[aa_ λe=>p (.inl e),aa_ λe=>p (.inr e)] at q;refine aa e1 (cd (λf=>aa e1 ?_) λf=>aa e1 (aa se ?_))
  .have l:=λe=>(Co a).mpr e (bz.mp f);unfold dr at q;rw[aa_ l] at q;refine cd (λh=>aa e1 (aa e2 (ae j ⟨tz,?_⟩))) λh=>aa e1 (aa se (aa (sl Y e2) (ae j ⟨tz,?_⟩)))
   .rw[aa_ λe=>pY.mpr e (bz.mp h)] at q;exact q
   .rw[abn (pY.mp λe=>h (bz.mpr e))] at q;exact(Vv a)▸q
  .have l:=(Co a).mp λe=>f (bz.mpr e);unfold dr at q;rw[abn l] at q;rw[Yr a];refine iu (bz.mpr ?_) (aa se (aa (sl Y e2) (ae j ⟨tz,q⟩)));rw[Nat.and_assoc];exact Nat.and_zero _
 .rw[aa_ λe=>(zj a).mpr e (bz.mp f),abn (((GY a).mp λe=>z (bz.mpr e)).resolve_left λe=>(zj a).mpr e (bz.mp f))] at q;exact q
 .rw[abn ((zj a).mp λe=>f (bz.mpr e))] at q;exact q
end
section
variable{σ:Sg}{Q:PX}{W:World}{A:nj}
theorem RU(h:cS σ A W)(q:Q (iv W.dz) σ):getM (.loc A.w) (.str "self") Q σ:=h.w.elim λJ e=>ae e.1 ⟨Y,a5 e.2.2.2.2 q⟩
theorem BW(h:cS σ A W)(q:Q (iv W.n) σ):getM (.loc A.w) (.str "n") Q σ:=h.w.elim λJ e=>ae e.1 ⟨Y,a5 e.2.1 q⟩
theorem GG(h:cS σ A W)(q:Q (.loc A.rows) σ):getM (.loc A.w) (.str "rows") Q σ:=h.w.elim λJ e=>ae e.1 ⟨Y,a5 e.2.2.1 q⟩
theorem PM(h:cS σ A W)(q:Q (.loc A.box) σ):getM (.loc A.w) (.str "box") Q σ:=h.w.elim λJ e=>ae e.1 ⟨Y,a5 e.2.2.2.1 q⟩
theorem ue(n)(h:σ[l]?=some (.list [kE W a,kE W b]))(j:a.1<256/\∀x∈a.2,aL W x)(i:b.1<256/\∀x∈b.2,aL W x)(f:a.2.length<=100)(d:b.2.length<=100)
  (q:∀c,ai σ c->Q (kE W (aS [a,b])) c):C (n+1) 1173 [.loc l] Q σ:=
 S' n (ks:=[a,b]) h (λk m=>by
  cases m with
  |head=>exact j
  |tail _ m=>exact aaT.mp m▸i) (aaS (abw f d) ()) q
theorem Cq(n)(U:as.length=1\/as.length=2)(t:∀a∈as,e6 a)(q:∀i,ai σ i->Q (kE W (cell W k how as)) i)
  (e1:L.lookup 195=some (iv (W.own k)))(e2:L.lookup 130=some (aE (as.headD (0,none))))(y:L.lookup 160=some (aE (as.getLastD (0,none))))(f:L.lookup 141=some (iv how))(w:L.lookup 96=some (.tup (as.map aE))):bH (aH (n+1)) (yx.body.drop 3) L (cL Q) σ:=by
 have u:=Bz t
 have d:=q σ .refl
 have r:∀{c},(how:Int)=(c:Nat)->cell W k how as=cell W k c as:=λe=>aaU (λz=>cell W k z as) (abC e)
 refine aa f (cd (λe=>aa f (iu e (aa e2 ?_))) λs=>aa f (cd (λe=>aa f (dg s (aa y ?_))) λN=>aa f (cd (λe=>aa e2 (ue n (W:=W) (b:=(9,[])) (gZ W _▸az) (jh u) ⟨dt Y,nofun⟩ (aaS (gU _) ()) () ?_)) λT=>?_)))
 .rw[r e] at d;rw[gZ W];exact d
 .rw[r e] at d;rw[gZ W];exact d
 .rw[r e] at q;exactλi kp=>q i (ai.app.trans kp)
 refine aa f (cd (λe=>aa e1 (aa f (iu e (aa w ?_)))) λj=>aa f (cd (λe=>aa e1 (aa f (dg j (aa w (bR (HQ (by rw[aa1];exact U) ?_)))))) λM=>aa f (cd (λe=>aa y (aa e2 (ue n (W:=W) (a:=(0,[.lf _])) ?_ ⟨dt Y,λx m=>aaT.mp m▸uj (E' t)⟩ (jh u) (dt Y) (aaS (gU _) ()) ?_))) λD=>?_)))
 .rw[r e] at d;exact d
 .rw[r e] at d;exact List.map_reverse▸d
 .rw[←gZ W,show kE W _=.tup [iv 0,.tup [(Lf.box _).enc]] from Y,Iu];exact az
 .rw[r e] at q;exactλi kp=>q i (ai.app.trans kp)
 refine aa f (cd (λe=>?_) λH=>aa f (cd (p:=(how:Int)=(3:Nat)) (λe=>aa f (iu e (aa e2 ?_))) λl=>aa f (cd (λe=>aa f (dg l ?_)) λB=>?_)))
 .rw[r e] at d;exact d
 .rw[r e,show kE W _=.tup [iv 0,.tup [(Lf.box _).enc]] from Y,Iu] at d;exact d
 .rw[r e] at d;exact d
 .have no:∀{c},¬(how:Int)=(c:Nat)->¬how=c:=λh e=>h (aaU _ e);unfold cell at d;rw[aa_ (no s),aa_ (no N),aa_ (no T),aa_ (no j),aa_ (no M),aa_ (no D),aa_ (no H),aa_ (no l),aa_ (no B)] at d;exact d
theorem OF(n)(h:cS σ A W)(f:as.length=1\/as.length=2)(i:∀a∈as,e6 a)
  (q:∀c,ai σ c->Q (kE W (cell W k how as)) c):C (n+2) 1197 [.loc A.w,iv k,iv how,.tup (as.map aE)] Q σ:=by
 have d:(as.map aE)[0]?=some (aE (as.headD (0,none)))/\(as.map aE).getLast?=some (aE (as.getLastD (0,none))):=by
  match as,f with
  |[a],_=>exact⟨Y,Y⟩
  |[a,b],_=>exact⟨Y,Y⟩
 exact fn yx Y Y (cd (λe=>RU h (a5 d.1 (a5 d.2 (Cq n f i q (aaU (λz=>some _) (abn (abC e)).symm) Y Y Y Y)))) λe=>a5 d.1 (a5 d.2 (Cq n f i q (aaU (λz=>some (iv z)) (aa_ λw=>e (aaU _ w)).symm) Y Y Y Y)))
theorem QV(n)(j:as.length=1\/as.length=2)(l:∀a∈as,e6 a)(e1:L.lookup 277=some (.loc A.w))(e2:L.lookup 153=some (iv k))(p:L.lookup 96=some (.tup (as.map aE)))(ms:List Mem):∀{σ},cS σ A W->σ[src]?=some (.list all)->∀{Q},(∀d,ai σ d->Q ((ms.map λm=>(m,cell W k m.how as)).map (rE W)) d)->
  bK (aH (n+2)) (X.tup [(X.v 177),(X.call 66 1197 [(X.v 277),(X.v 153),(X.v 141),(X.v 96)]),(X.v 169),(X.v 196)]) (.many [177,141,169,196]) none (.loc src all) L (ms.map mE) Q σ:=by
 induction ms with
 |nil=>exactλJ hs J q=>⟨hs,q _ .refl⟩
 |cons m ms i=>
  intro σ h hs Q q;exact⟨hs,aa (sl Y (sl Y (sl Y se))) (aa (sl Y (sl Y (sl Y (sl Y e1)))) (aa (sl Y (sl Y (sl Y (sl Y e2)))) (aa (sl Y (sl Y se)) (aa (sl Y (sl Y (sl Y (sl Y p)))) (OF n h j l λf kp=>aa (sl Y se) (aa se (i (h.keep kp) (kp.get hs) λb c=>q b (kp.trans c))))))))⟩
theorem ua(h:decide (y∈xs)=false)(e:L.lookup y=some v):(fQ L xs).lookup y=some v:=by rw[xT,aa_ (of_decide_eq_false h)];exact e
theorem wR(n){k as}(d:as.length=1\/as.length=2)(f:∀a∈as,e6 a){src}{ms:List Mem}{L}(e1:L.lookup 277=some (.loc A.w))(e2:L.lookup 153=some (iv k))(i:L.lookup 96=some (.tup (as.map aE)))(h:cS σ A W)(c:σ[src]?=some (.list (ms.map mE)))(hz:ms.length<=100)
  (q:∀b l,ai σ b->σ.length<=l->b[l]?=some (.list ((ms.map λm=>(m,cell W k m.how as)).map (rE W)))->Q (.loc l) b):bH (aH (n+2)) (zX.body.drop 3) (aT L 226 (.loc src)) (cL Q) σ:=
 aa se (ae c ⟨lm (sz (aaS hz ())),QV n d f (ua Y (sl Y e1)) (ua Y (sl Y e2)) (ua Y (sl Y i)) ms h c λb kp=>q _ b.length (kp.trans .app) kp.1 az⟩)
inductive Yd(W x k as):Prop
 |one (hk:k=3\/k=4) (e:bW W x=[(mP,(1,[]))])
 |box (hk:k=2) (e:bW W x=[W.bx].map λm=>(m,cell W k m.how as))
 |r1 (hk:k=1) (e:bW W x=W.r1.map λm=>(m,cell W k m.how as))
 |r0 (h1:k≠1) (h2:k≠2) (h3:k≠3) (h4:k≠4) (e:bW W x=W.r0.map λm=>(m,cell W k m.how as))
theorem Yc(a:∀k as,x=.own k as->k<2)(e:lh W x=some (k,as)):Yd W x k as:=by
 cases x with
 |own l bs=>
  cases e
  match l,a _ _ Y with
  |0,_=>exact .r0 () () () () Y
  |1,_=>exact .r1 Y Y
 |six=>
  cases e
  refine .r0 () () () () ?_;show wK W 0 W.six=_;exact List.map_congr_left λm J=>aaU _ (Po Y)
 |lf x=>
  cases x with
  |par i=>cases e
  |i3=>cases e;exact .one (.inl Y) Y
  |i4=>cases e;exact .one (.inr Y) Y
  |a9 b=>cases e;exact .box Y Y
  |aY b x=>cases e;exact .box Y Y
theorem qH(n)(h:cS σ A W){x}(m:iZ W x)(t:W.r0.length<=100)(s:W.r1.length<=100)
  (q:∀b l,ai σ b->σ.length<=l->b[l]?=some (.list ((bW W x).map (rE W)))->Q (.loc l) b):C (n+3) 1202 [.loc A.w,tE W x] Q σ:=by
 obtain⟨k,as,e,f,d⟩:=m.ne
 rw[nL e]
 refine fn zX Y Y ?_
 cases Yc m.own e with
 |one c a=>
  rw[a] at q;have q:=q _ σ.length .app (aaX _) az;rcases c with rfl|rfl<;>exact q
 |box c a=>
  subst c;rw[a] at q;exact PM h (wR n (d () ()) f Y Y Y h (ms:=[W.bx]) h.box (dt Y) q)
 |r1 c a=>
  subst c;rw[a] at q;exact GG h (ae h.rows (wR n (d () ()) f (L:=[_,_,_,_]) Y Y Y h h.r1 s q))
 |r0 r p j i a=>
  rw[a] at q;exact dg (lg j) (dg (lg i) (dg (lg p) (GG h (dg (lg r) (ae h.rows (wR n (d j i) f Y Y Y h h.r0 t q))))))
end
end W
theorem ai.ext(k:ai σ a)(h:σ.length<=o)(c:ag [o] a b):ai σ b:=⟨aaS k.1 c.1,λm J o' e=>c.get (ai.get k e) λw=>aby (abg.mp e).1 (aaT.mp w▸h)⟩
namespace W
section
variable{σ:Sg}{Q:PX}{W:World}{A:nj}
theorem BS(n)(c:m.2.1<256/\∀x∈m.2.2,aL W x)(b:m.2.2.length<=100)(q:∀a,ai σ a->Q (kE W (bP m.1 m.2)) a):C (n+2) 1209 [rE W m] Q σ:=by
 unfold bP at q;refine fn Eg Y Y (cd (λz=>?_) λz=>?_)
 .rw[aa_ λe=>pY.mpr e (bz.mp z)] at q;exact q σ .refl
 .rw[abn (pY.mp λe=>z (bz.mpr e))] at q;exact ue n az c ⟨dt Y,nofun⟩ b (dt Y) λa kp=>q a (ai.app.trans kp)
theorem WL(m):AV.tup [.str (cj m.nm),.int (Builtin.bitAnd m.ms (25:Nat)),.bool (decide (Builtin.bitAnd (m.ms) (34:Nat)>0)),iv m.ow]=fS (c_ m):=by
 rw[oh,oh,show decide ((_:Int)>0)=decide _ from ab8.mpr (Int.ofNat_lt.trans Nat.pos_iff_ne_zero)];rfl
theorem Wb(n)(hs:σ[src]?=some (.list all))(ms:List (Mem×Kind)):∀{Q},Q ((ms.map λm=>c_ m.1).map fS) σ->
  bK (aH n) (X.tup [(X.v 177),(X.band (X.v 169) (X.int 25)),(X.gt (X.band (X.v 169) (X.int 34)) (X.int 0)),(X.v 196)]) (.many [177,156,169,196]) none (.loc src all) L (ms.map (rE W)) Q σ:=by
 induction ms with
 |nil=>exactλq=>⟨hs,q⟩
 |cons m ms a=>exact@λQ q=>⟨hs,aa (sl Y (sl Y (sl Y se))) (aa (sl Y se) (aa (sl Y se) (aa se (a ((aaU (λv=>Q (v::_) σ) (WL m.1)).mpr q)))))⟩
theorem F'(n){l}{ms:List (Mem×Kind)}(h:σ[l]?=some (.list (ms.map (rE W))))(hz:ms.length<=100)
  (q:∀a k,ai σ a->a[k]?=some (.list ((ms.map λm=>c_ m.1).map fS))->Q (.loc k) a):C (n+1) 1214 [.loc l] Q σ:=
 fn G4 Y Y (ae h ⟨lm (sz (aaS hz ())),Wb n h ms (q _ σ.length .app az)⟩)
theorem xX{a elt t}{c n L Q}(hz:n<=100)(h:∀l,bK a elt t c (.seq l) (fQ L t.vars) ((List.range' 0 n).map λ(j:Nat)=>.int (j)) Q σ):vQ elt t c a L Q (.seq ((List.range n).map λ(j:Nat)=>.int (j:Int))) σ:=by
 refine⟨lm ((List.length_range)▸sz (aaS hz ())),?_⟩;rw[show(Src.seq _).items=(List.range' 0 n).map λ(j:Nat)=>AV.int j by rw[←List.range_eq_range'];rfl]
 exact h _
theorem gT{b:Type}{l:List b}{k}(h:k<l.length):∃a,l[k]?=some a:=⟨l[k],ab4 h⟩
theorem Ke(n){kx l}{as bs:List AK}(r:as.length=bs.length)(hz:as.length<=100)(items){L}(e1:L.lookup 283=some (.tup [iv kx,.tup (as.map aE)]))(e2:L.lookup 284=some (.tup [iv l,.tup (bs.map aE)]))(m):∀{k},k+m=as.length->∀{Q},Q ((((as.map AK.kind).zip (bs.map AK.kind)).drop k).map (pE W)) σ->
  bK (aH n) (X.tup [(X.ix (X.ix (X.v 283) (X.int 1)) (X.v 142)),(X.ix (X.ix (X.v 284) (X.int 1)) (X.v 142))]) (.one 142) none (.seq items) L ((List.range' k m).map λ(j:Nat)=>.int (j)) Q σ:=by
 induction m with
 |zero=>
  intro k c Q q;rw[u4 (List.length_zip▸aaS (Nat.min_le_left ..) (aa7 ((aa1 _).trans c.symm)))] at q;exact q
 |succ m p=>
  intro k c Q q;have d:=Nat.lt_of_lt_of_eq (abW (Nat.succ_pos m)) c;have f:k<2^62:=abb d (aaS hz ());obtain⟨a,i⟩:=gT d;obtain⟨b,h⟩:=gT (r▸d);rw[drop_cons (List.getElem?_zip_eq_some.mpr ⟨abm.trans (aaU _ i),abm.trans (aaU _ h)⟩:_[k]?=some (a.kind,b.kind))] at q;refine aa (sl Y e1) (aa se (a5 ((dh f).trans (abm.trans (aaU _ i))) (aa (sl Y e2) (aa se (a5 ((dh f).trans (abm.trans (aaU _ h))) (p (by rw[←c,abT];rfl) ?_))))))
  rw[gZ W,gZ W];exact q
theorem Kr(n){l1 l2}{ms ns:List (Mem×Kind)}(H:ms.length=ns.length)(hz:ms.length<=100)(D:∀m∈ms,eS W m.2/\m.2.2.length<=2)(B:∀m∈ns,eS W m.2/\m.2.2.length<=2)(items){L:Loc}(e1:L.lookup 230=some (.loc l1))(e2:L.lookup 256=some (.loc l2))(m:Nat):∀{k:Nat}{σ:Sg},k+m=ms.length->σ[l1]?=some (.list (ms.map (rE W)))->σ[l2]?=some (.list (ns.map (rE W)))->∀{Q},(∀f,ai σ f->Q ((((ms.map λm=>bP m.1 m.2).zip (ns.map λm=>bP m.1 m.2)).drop k).map (pE W)) f)->
  bK (aH (n+2)) (X.tup [(X.call 76 1209 [(X.ix (X.v 230) (X.v 142))]),(X.call 76 1209 [(X.ix (X.v 256) (X.v 142))])]) (.one 142) none (.seq items) L ((List.range' k m).map λ(j:Nat)=>.int (j:Int)) Q σ:=by
 induction m with
 |zero=>
  intro k σ i t s Q q;rw[u4 (List.length_zip▸aaS (Nat.min_le_left ..) (aa7 ((aa1 _).trans i.symm)))] at q;exact q σ .refl
 |succ m z=>
  intro k σ i t s Q q;have l:k<ms.length:=Nat.lt_of_lt_of_eq (abW (Nat.succ_pos m)) i;have y:k<2^62:=abb l (aaS hz ());obtain⟨a,r⟩:=gT l;obtain⟨b,p⟩:=gT (H▸l);have ma:=D a (abk r);have x:=B b (abk p);rw[drop_cons (List.getElem?_zip_eq_some.mpr ⟨abm.trans (aaU _ r),abm.trans (aaU _ p)⟩:((ms.map λm=>bP m.1 m.2).zip (ns.map λm=>bP m.1 m.2))[k]?=some (bP a.1 a.2,bP b.1 b.2))] at q;exact aa (sl Y e1) (aa se (ae t (a5 ((dh y).trans (abm.trans (aaU _ r))) (BS n ma.1 (aaS ma.2 ()) λw c=>aa (sl Y e2) (aa se (ae (ai.get c s) (a5 ((dh y).trans (abm.trans (aaU _ p))) (BS n x.1 (aaS x.2 ()) λu d=>
   z (by rw[←i,abT];rfl) (ai.get (c.trans d) t) (ai.get (c.trans d) s) λf h=>q f ((c.trans d).trans h)))))))))
inductive eU(W)(σ:Sg)(o:Nat)(N5:List (List (Kind×Kind))):Prop
 |mk (ls) (h:σ[o]?=some (.list (ls.map .loc))) (lt:∀l∈ls,o<l) (al:aG (λl r=>σ[l]?=some (.list (r.map (pE W)))) ls N5)
theorem eU.push(b)(h:σ[o]?=some (.list (b.map .loc)))(lt:∀l∈b,o<l)(d:aG (λl r=>σ[l]?=some (.list (r.map (pE W)))) b a):eU W ((σ++[AO.list (r.map (pE W))]).set o (AO.list (b.map AV.loc++[AV.loc σ.length]))) o (a++[r]):=.mk (b++[σ.length]) (abA▸ba (ay h)) (λl m=>(abq.mp m).elim (lt l) λm=>aaT.mp m▸aD h) (.append (d.imp_mem λl c r e=>a4 (ay e) (abx (lt l c))) ⟨a4 az (abx (aD h)),trivial⟩)
theorem MB(n)(hs:W.dz<2)(h:cS σ A W){x y}(hx:iZ W x)(hy:iZ W y)(hn:∀x,(bW W x).length<=3/\∀m∈bW W x,m.1.nm<128)(h0:W.r0.length<=100)(h1:W.r1.length<=100){o L}
  (e1:L.lookup 277=some (.loc A.w))(e2:L.lookup 283=some (tE W x))(e3:L.lookup 284=some (tE W y))(M:L.lookup 194=some (.loc o))(r:eU W σ o (aZ x y))(q:∀t,ag [o] σ t->eU W t o (de W x y)->Q (.loc o) t):bH (aH (n+3)) (yp.body.drop 2) L (cL Q) σ:=by
 have u:=hn x
 have hY:=hn y
 refine aa e1 (aa e2 (qH n h hx h0 h1 λfi l₂ j aah s=>aa (sl Y e1) (aa (sl Y e3) (qH n (h.keep j) hy h0 h1 λlA Sh d aay p=>aa (sl Y se) (F' (n+2) (d.get s) (aaS u.1 ()) λU VI c z=>aa se (F' (n+2) (c.get p) (aaS hY.1 ()) λT Pc b w=>?_))))))
 have nm:∀{x},(∀m∈bW W x,m.1.nm<128)->∀f∈aU W x,f.1<128:=λh f mf=>by
  obtain⟨m,mm,rfl⟩:=aa6.mp mf;exact h m mm
 have i:=((j.trans d).trans c).trans b
 cases r with
 |mk ls B o2 H=>
 unfold de at q
 refine bR (PC (l:=aU W x) (k:=aU W y) (b.get z) w (nm u.2) (nm hY.2) (cd (λD=>?_) λD=>?_))
 .rw[abn D] at q;have gx:=ai.get ((d.trans c).trans b) s;refine aa (sl Y (sl Y M)) (ae (ai.get i B) (aa (sl Y se) (ae gx ⟨aaZ (lm u.1) (),aaZ (lm u.1) (),?_⟩)));rw[aa1];refine xX (aaS u.1 ()) λJ=>Kr (n+1) ((aa1 _).symm.trans ((aaU List.length D).trans (aa1 _))) (aaS u.1 ()) (JN hs hx) (JN hs hy) _ (er Y (sl Y se)) (er Y se) _ (ab5 _) gx (ai.get (c.trans b) p) λN a=>ae (ay (ai.get (i.trans a) B)) ⟨?_,aa (sl Y (sl Y M)) (q _ ((ai.chg (i.trans a)).trans (ag.app.trans (ag.set (.head _)))) (.push ls (ai.get (i.trans a) B) o2 (H.imp λl r=>ai.get (i.trans a))))⟩;refine lm (H.length▸aaS (?_:_<=1) ());rcases q_ (x:=x) (y:=y) with e|⟨r,e⟩<;>rw[e]<;>exact Nat.le_of_ble_eq_true Y
 .rw[aa_ D,abO] at q;exact aa (sl Y (sl Y M)) (q _ (ai.chg i) (.mk ls (ai.get i B) o2 (H.imp λl r=>ai.get i)))
theorem vO(h:c8 x=some (k,as))(w:bG W x):as.length=(aX W k).length:=by
 cases x with
 |own l bs=>cases h;exact w.1
 |six=>cases h
 |lf x=>cases x<;>first|(cases h;rfl)|cases h
theorem VR(n)(hs:W.dz<2)(h:cS σ A W){x y}(t:iZ W x)(s:iZ W y)(u:bG W x)(D:bG W y)(M:∀x,(bW W x).length<=3/\∀m∈bW W x,m.1.nm<128)(N:W.r0.length<=100)(j:W.r1.length<=100)
  (q:∀d o,ai σ d->σ.length<=o->eU W d o (de W x y)->Q (.loc o) d):C (n+4) 1219 [.loc A.w,tE W x,tE W y] Q σ:=by
 obtain⟨kx,as,ex,ha,hl⟩:=t.ne
 obtain⟨H,bs,B,hb,hm⟩:=s.ne
 have b:=FF ex t.own
 have f:=FF B s.own
 have fin:∀{a L},ai σ a->eU W a σ.length _->L.lookup 277=some _->L.lookup 283=some _->L.lookup 284=some _->L.lookup 194=some _->bH _ _ L _ a:=λk r e1 e2 i U=>MB n hs (h.keep k) t s M N j e1 e2 i U r λd c=>q d _ (k.ext (aaX _) c) (aaX _)
 rw[(nL ex),(nL B)] at fin⊢
 have none:aZ x y=[]->bH _ _ _ _ _:=λe=>fin (L:=aT [(277,_),(283,_),(284,_)] 194 _) .app (e▸.mk [] az nofun trivial) Y Y Y Y
 refine fn yp Y Y (cd (λl=>cd (p:=(kx:Int)<(3:Nat)) (λi=>?_) λi=>none ?_) λl=>none ?_)
 .have l:=abC l;subst l;have i:=Int.ofNat_lt.mp i;rw[abn i] at b f;have T:aZ x y=[]++[(as.map AK.kind).zip (bs.map AK.kind)]:=by unfold aZ;rw[b,f];exact abn Y
  have l2:=vO b u▸oV;refine ae az ⟨aaZ (lm l2) (),aaZ (lm l2) (),?_⟩;rw[aa1];exact xX (aaS l2 ()) λJ=>Ke (n+3) ((vO b u).trans (vO f D).symm) (aaS l2 ()) _ Y Y _ (ab5 _) (ae (ay az) ⟨aa9 _,fin (ai.set (ai.app.trans .app) (aaX _)) (T▸eU.push [] az nofun trivial) Y Y Y Y⟩)
 .unfold aZ;rw[b,aa_ λw=>i (Int.ofNat_lt.mpr w)]
 .unfold aZ;rw[b,f];by_cases j:kx<3
  .by_cases z:H<3
   .rw[abn j,abn z];exact aa_ λw=>l (aaU _ w)
   .rw[abn j,aa_ z]
  .rw[aa_ j]
end
section
variable{σ:Sg}{Q:PX}{W:World}{A:nj}{al:List (Th×Th)}{l:Nat}
theorem in_list{t l x}(b:σ[t]?=some (.list l))(a:AV.keys l=true)(dl:AV.du l<=40)(kx:x.key=true)(q:Q (.bool (decide (x∈l))) σ):gK true x (.loc t) Q σ:=ae b (bR (zi a dl kx q))
theorem xB{n}{l:List Bool}(h:σ[n]?=some (.list (l.map .bool)))(q:Q (.bool (decide (true∈l))) σ):gK true (.bool true) (.loc n) Q σ:=ae h (bR (DC ((show decide _=(decide _==true) from by cases decide (true∈l)<;>rfl)▸q)))
theorem EY(W x):∃l,tE W x=.tup l:=by
 cases x with
 |lf x=>cases x<;>exact⟨_,Y⟩
 |_=>exact⟨_,Y⟩
theorem WT{x y}(h:∃l,x=.tup l)(p:pr (Mine.Internal.fe x y) Q σ):fe x y Q σ:=by
 obtain⟨l,rfl⟩:=h;exact p
theorem Bj(q:Q (iv (a>>>b)) σ):X.FE (iv a) (iv b) Q σ:=by
 show Do.eF (if 0<=(b:Int) then some _ else none) Q σ;exact HX▸q
theorem yG(n)(h:σ[l]?=some (.list (al.map (cO W))))(d:∀q∈al,aL W q.1/\aL W q.2){x y}(a:aL W x)(c:aL W y)(q:Q (.bool (decide (x=y)||decide ((x,y)∈al))) σ):
  C (n+1) 1226 [tE W x,tE W y,.loc l] Q σ:=by
 refine fn Ho Y Y (WT (EY W x) (bR (Aa (jP W x) (jP W y) (aaS a.2 ()) ?_)))
 rw[AI a c]
 refine cd (λe=>?_) λe=>in_list h (keys_map (nF W) al) (aaS (vN d) ()) (nF W (x,y)) ?_
 .rw[aba e] at q;exact q
 .rw[abf e] at q;exact(aaU (λb=>Q (.bool b) _) (ab8.mpr (rP ⟨a,c⟩ d))).mpr q
theorem zS(n)(q:Q (iv (bO k)) σ):C (n+1) 1233 [kE W k] Q σ:=by
 refine fn Bx Y Y ?_;show Q (.int (Builtin.bitOr (Builtin.bitAnd (k.1) (127:Nat)) ((k.1:Int).fdiv (2^((7:Nat):Int).toNat)))) σ;rw[oh,HX,n'];exact q
theorem Ro(n)(e1:L.lookup 156=some (kE W k))(l:List Nat):∀{Q},Q ((l.filter λj=>(bO k).testBit j).map iv) σ->
  bK (aH (n+1)) (X.v 153) (.one 153) (some (X.band (X.shr (X.call 65 1233 [(X.v 156)]) (X.v 153)) (X.int 1))) (.seq items) L (l.map λ(j:Nat)=>.int (j)) Q σ:=by
 induction l with
 |nil=>exactλq=>q
 |cons j l a=>
  intro Q q;refine aa (sl Y e1) (zS n (aa se (Bj ?_)));refine cd (λz=>a ?_) λz=>aa se (a ?_)
  .rw[List.filter_cons_of_neg λe=>sF.mpr e (bz.mp z)] at q;exact q
  .rw[List.filter_cons_of_pos (sF.mp λe=>z (bz.mpr e))] at q;exact q
theorem Gq(n)(c:k.2.length<=100)(q:∀a,ai σ a->Q (.bool (a8 k)) a):C (n+2) 1238 [kE W k] Q σ:=by
 refine fn HD Y Y ⟨aaZ (lm c) (),dt Y,dt Y,Ro n Y _ (ae az ⟨aaZ (lm (abS ..)) (),?_⟩)⟩;rw[aa1,aa1];exact(aaU (λb=>Q (.bool b) _) (ab8.mpr Int.ofNat_lt)).mpr (q _ .app)
theorem Pk(n)(h:σ[l]?=some (.list (al.map (cO W))))(f:∀q∈al,aL W q.1/\aL W q.2)(d:aL W x)(e1:L.lookup 283=some (tE W x))(e2:L.lookup 90=some (.loc l))(a:List Th):(∀y∈a,aL W y)->∀{Q},Q ((a.map λy=>decide (x=y)||dF al x y).map .bool) σ->
  bK (aH (n+1)) (X.call 71 1226 [(X.v 283),(X.v 284),(X.v 90)]) (.one 284) none (.seq items) L (a.map (tE W)) Q σ:=by
 induction a with
 |nil=>exactλJ J q=>q
 |cons y a c=>exactλb Q q=>aa (sl Y e1) (aa se (aa (sl Y e2) (yG n h f d (b y (.head _)) (c (λz m=>b z (.tail _ m)) q))))
theorem QU(n)(h:σ[l]?=some (.list (al.map (cO W))))(d:∀q∈al,aL W q.1/\aL W q.2)(c:aL W y)(e1:L.lookup 284=some (tE W y))(e2:L.lookup 90=some (.loc l))(xs:List Th):(∀x∈xs,aL W x)->∀{Q},Q ((xs.map λx=>decide (x=y)||dF al x y).map .bool) σ->
  bK (aH (n+1)) (X.call 71 1226 [(X.v 283),(X.v 284),(X.v 90)]) (.one 283) none (.seq items) L (xs.map (tE W)) Q σ:=by
 induction xs with
 |nil=>exactλJ J q=>q
 |cons x xs b=>exactλa Q q=>aa se (aa (sl Y e1) (aa (sl Y e2) (yG n h d (a x (.head _)) c (b (λz m=>a z (.tail _ m)) q))))
theorem Ra(n)(i:∀q∈al,aL W q.1/\aL W q.2)(f:∀y∈b.2,aL W y)(hz:b.2.length<=100)(e1:L.lookup 102=some (kE W b))(e2:L.lookup 90=some (.loc l))(xs:List Th):(∀x∈xs,aL W x)->∀{σ},σ[l]?=some (.list (al.map (cO W)))->∀{Q},(∀a,ai σ a->Q ((xs.filter λx=>b.2.any λy=>decide (x=y)||dF al x y).map (tE W)) a)->
  bK (aH (n+1)) (X.v 283) (.one 283) (some (X.cv (X.bool true) (X.comp (X.call 71 1226 [(X.v 283),(X.v 284),(X.v 90)]) (.one 284) (It.val (X.ix (X.v 102) (X.int 1))) none))) (.seq items) L (xs.map (tE W)) Q σ:=by
 induction xs with
 |nil=>exactλJ J J J q=>q _ .refl
 |cons x xs c=>
  intro d σ h Q q;have c:=@c λz m=>d z (.tail _ m);refine aa (sl Y e1) ⟨lm (sz (aaS hz ())),Pk n h i (d x (.head _)) (er Y se) (er Y (sl Y e2)) b.2 f (xB az ?_)⟩;rw[x2];refine cB (λe=>aa se (c (ay h) λa k=>?_)) λe=>c (ay h) λa k=>?_
  .have q:=q a (ai.app.trans k);rw[List.filter_cons_of_pos (p:=λx=>b.2.any λy=>decide (x=y)||dF al x y) e] at q;exact q
  .have q:=q a (ai.app.trans k);rw[List.filter_cons_of_neg (p:=λx=>b.2.any λy=>decide (x=y)||dF al x y) (abV.mp e)] at q;exact q
theorem Kx(n)(j:∀q∈al,aL W q.1/\aL W q.2)(i:∀y∈a.2,aL W y)(hz:a.2.length<=100)(e1:L.lookup 87=some (kE W a))(e2:L.lookup 90=some (.loc l))(c:List Th):(∀y∈c,aL W y)->∀{σ},σ[l]?=some (.list (al.map (cO W)))->∀{Q},(∀b,ai σ b->Q ((c.filter λy=>a.2.any λx=>decide (x=y)||dF al x y).map (tE W)) b)->
  bK (aH (n+1)) (X.v 284) (.one 284) (some (X.cv (X.bool true) (X.comp (X.call 71 1226 [(X.v 283),(X.v 284),(X.v 90)]) (.one 283) (It.val (X.ix (X.v 87) (X.int 1))) none))) (.seq items) L (c.map (tE W)) Q σ:=by
 induction c with
 |nil=>exactλJ J J J q=>q _ .refl
 |cons y c d=>
  intro f σ h Q q;have d:=@d λz m=>f z (.tail _ m);refine aa (sl Y e1) ⟨lm (sz (aaS hz ())),QU n h j (f y (.head _)) (er Y se) (er Y (sl Y e2)) a.2 i (xB az ?_)⟩;rw[x2];refine cB (λe=>aa se (d (ay h) λb k=>?_)) λe=>d (ay h) λb k=>?_
  .have q:=q b (ai.app.trans k);rw[List.filter_cons_of_pos (p:=λy=>a.2.any λx=>decide (x=y)||dF al x y) e] at q;exact q
  .have q:=q b (ai.app.trans k);rw[List.filter_cons_of_neg (p:=λy=>a.2.any λx=>decide (x=y)||dF al x y) (abV.mp e)] at q;exact q
theorem Gr(n)(h:σ[l]?=some (.list (al.map (cO W))))(r:∀q∈al,aL W q.1/\aL W q.2)(D:eS W a)(B:eS W b)(m:a.2.length<=100)(j:b.2.length<=100)(q:∀p,ai σ p->Q (.bool (dH (dF al) a b)) p):
  C (n+3) 1243 [kE W a,kE W b,.loc l] Q σ:=by
 unfold dH at q
 refine fn Gf Y Y ?_
 have H:Builtin.bitAnd (Builtin.bitOr (a.1) (b.1)) (64:Nat)=0↔¬(bQ a||bQ b)=true:=by
  rw[n',bz,Bool.or_eq_true];exact(Decidable.not_not.symm.trans (not_congr (QG D.1 B.1)))
 refine cd (λz=>zS (n+1) (zS (n+1) (cN (λne=>?_) λU=>Gq n m λN u=>Gq n j λi t=>?_))) λz=>?_
 .have q:=q σ .refl;rw[abV.mpr (H.mp z),abf λw=>ne (aaU _ w)] at q;exact q
 .have f:=u.trans t;rw[abV.mpr (H.mp z),aba (abC U)] at q;refine bR (Hn (cN (λne=>?_) λT=>⟨lm (sz (aaS m ())),Ra (n+1) r B.2 j Y Y a.2 D.2 (ai.get f h) λM s=>?_⟩))
  .have q:=q i f;rw[abf ne] at q;exact q
  .rw[aba T] at q;have c:=(f.trans s).trans (ai.app (x:=[AO.list ((a.2.filter λx=>b.2.any λy=>decide (x=y)||dF al x y).map (tE W))]));refine⟨lm (sz (aaS j ())),Kx (n+1) r D.2 m Y Y b.2 B.2 (ai.get c h) λL d=>?_⟩;have q:=q _ ((ag.trans c d).trans (ai.app (x:=[AO.list ((b.2.filter λy=>a.2.any λx=>decide (x=y)||dF al x y).map (tE W))])));rw[←filter_all,←filter_all] at q;refine ae (ay (ai.get d az)) ⟨aaZ (lm (aaS (abS ..) m)) (),aaZ (lm m) (),?_⟩;rw[aa1,aa1];refine cd (λe=>ae az ⟨aaZ (lm (aaS (abS ..) j)) (),aaZ (lm j) (),?_⟩) λe=>?_
   .rw[aba (abC e)] at q;rw[aa1,aa1];exact(aaU (λb=>Q (.bool b) _) xQ).mpr q
   .rw[abf λw=>e (aaU _ w)] at q;exact q
 .have q:=q σ .refl;rw[Decidable.not_not.mp λw=>z (H.mpr w)] at q;exact q
end
theorem eU.keep(h:eU W σ o a)(k:ai σ b):eU W b o a:=by
 cases h with
 |mk c f i d=>exact .mk c (k.get f) i (d.imp λl r=>k.get)
theorem eU.chg(h:eU W σ o a)(c:ag F σ b)(d:∀n∈F,n<o):eU W b o a:=by
 cases h with
 |mk j q f p=>exact .mk j (c.get q λm=>Nat.lt_irrefl _ (d _ m)) f (p.imp_mem λl i r e=>c.get e λm=>Nat.lt_asymm (d _ m) (f l i))
inductive Bq(C:CX)(σ)(ps:List (Th×Th)):Prop
 |mk (os) (h:σ[C.wy]?=some (.list (os.map .loc))) (al:aG (λo p=>eU C.W σ o (de C.W p.1 p.2)/\C.wy<o) os ps)
structure fY(C:CX)(σ)(td:List (Kind×Kind))(ps:List (Th×Th)):Prop where
 keep:ai C.bc σ
 lt:C.bc.length<=C.t/\C.t<C.p/\C.p<C.wy
 w:cS C.bc C.A C.W
 ht:σ[C.t]?=some (.list (td.map (pE C.W)))
 hp:σ[C.p]?=some (.list (ps.map (cO C.W)))
 hw:Bq C σ ps
 tk:∀q∈td,UK C.W C.U q.1/\UK C.W C.U q.2
 nd:ps.Nodup
 pu:∀p∈ps,p.1∈C.U/\p.2∈C.U
 rd:∀p∈ps,∀r∈de C.W p.1 p.2,∀q∈r,q∈td
 cnt:td.length<=C.asked.length+6*ps.length
 pre:C.asked<+:td
theorem fY.bound{C}(u:Un C.W C.U){σ a ps}(h:fY C σ a ps)(c:C.asked.length<=10):ps.length<=3600/\a.length<=21610:=by
 have b:=aaS (QQ h.nd h.pu) (Nat.mul_le_mul u.len u.len);exact⟨b,aaS h.cnt (aaS (abw c (abz 6 b)) ())⟩
theorem Qt(n)(d:t<o)(i):∀{b h L σ},σ[o]?=some (.list all)->(∀l∈i,o<l)->aG (λl r=>σ[l]?=some (.list (r.map (pE W)))) i b->σ[t]?=some (.list (h.map (pE W)))->L.lookup 263=some (.loc t)->h.length+b.flatten.length<=100000->
  (∀u a,ag [t] σ a->(∀y,y≠224->u.lookup y=L.lookup y)->a[t]?=some (.list ((h++b.flatten).map (pE W)))->Q .next u a)->bU (aH n) (.one 224) Gb (.loc o all) (i.map .loc) L Q σ:=by
 induction i with
 |nil=>
  intro b h L σ s _ j p e1 _ q;cases b with
  |cons=>exact j.elim
  |nil=>exact⟨s,q L σ .refl (λJ J=>Y) ((abO h).symm▸p)⟩
 |cons l i A=>
  intro b h L σ s f j p e1 hz q;cases b with
  |nil=>exact j.elim
  |cons r b=>
  rw[List.flatten_cons,aa4,←abu] at hz;refine⟨s,aa (sl Y e1) (aa se (bR (Cs p j.1 (abx (abB d (f l (.head _)))) ?_ ?_)))⟩
  .rw[aa1,aa1];exact sz (aaS (aaS (aaW ..) hz) ())
  .rw[←abA];refine A (a4 s (abx d)) (λl m=>f l (.tail _ m)) ((aG.tl j).imp_mem λl' z D e=>a4 e (abx (abB d (f l' (.tail _ z))))) (ba p) se (by rw[aa4];exact hz) λu a c e2 B=>q u a ((ag.set (.head _)).trans c) (λy x=>(e2 y x).trans ?_) (List.append_assoc .. ▸B)
   by_cases w:y=263
   .rw[w,e1];exact se
   .exact(sn w).trans (sn x)
theorem Wo(h:∃l,x=.tup l)(p:pr (Mine.Internal.fv x y) Q σ):fv x y Q σ:=by
 obtain⟨l,rfl⟩:=h;exact p
theorem Es(h:l.Nodup)(n:a∉l):(l++[a]).Nodup:=abR.mpr ⟨h,abv.mpr ⟨abo,ab6⟩,λx m y b e=>n (aaT.mp b▸e▸m)⟩
theorem sH{b:Type}{l a}{P:b->Prop}(h:∀x∈l,P x)(p:P a):∀x∈l++[a],P x:=λx m=>(abq.mp m).elim (h x) λm=>aaT.mp m▸p
theorem fY.add{C}(u:Un C.W C.U){σ d c b a s ps}(h:fY C σ s ps){x y}(w:x∈C.U)(t:y∈C.U)(N:(x,y)∉ps){os o}(L:aG (λo p=>eU C.W σ o (de C.W p.1 p.2)/\C.wy<o) os ps)(M:eU C.W c o (de C.W x y))(c1:ag [C.p] σ d)(H:ai d c)(lo:C.wy<o)(A:ag [C.wy] c b)(j:ag [C.t] b a)(hp:d[C.p]?=some (.list ((ps++[(x,y)]).map (cO C.W))))(T:b[C.wy]?=some (.list ((os++[o]).map .loc)))(U:a[C.t]?=some (.list ((s++(de C.W x y).flatten).map (pE C.W)))):fY C a (s++(de C.W x y).flatten) (ps++[(x,y)]):=by
 have lt:=h.lt;have z:ag [C.p,C.wy,C.t] σ a:=(c1.mono λJ m=>aaT.mp m▸.head _).trans (H.chg.trans ((A.mono λJ m=>aaT.mp m▸.tail _ (.head _)).trans (j.mono λJ m=>aaT.mp m▸.tail _ (.tail _ (.head _)))));have pw:∀{o},C.wy<o->∀n∈[C.p,C.wy,C.t],n<o:=λh n m=>by
  simp at m<;>lia
 refine⟨⟨aaS h.keep.1 z.1,λm J ob e=>z.get (ai.get h.keep e) λQ=>?_⟩,lt,h.w,U,j.get (A.get (ai.get H hp) (ne1 (abx lt.2.2))) (ne1 (Nat.ne_of_gt lt.2.1)),.mk _ (j.get T (ne1 (Nat.ne_of_gt (abB lt.2.1 lt.2.2)))) (.append (L.imp λo' p' h=>⟨h.1.chg z (pw h.2),h.2⟩) ⟨⟨(M.chg A λJ m=>aaT.mp m▸lo).chg j λJ m=>aaT.mp m▸abB (abB lt.2.1 lt.2.2) lo,lo⟩,trivial⟩),λD B=>(abq.mp B).elim (h.tk D) λm=>?_,Es h.nd N,sH h.pu ⟨w,t⟩,sH (λp m r f q i=>abe _ (h.rd p m r f q i)) λr f q i=>abi _ (List.mem_flatten.mpr ⟨r,f,i⟩),?_,h.pre.trans (List.prefix_append ..)⟩
 .have l:=aD e;simp at Q<;>lia
 .obtain⟨r,f,i⟩:=List.mem_flatten.mp m;exact u.Ba x w y t r f D i
 .have:=h.cnt
  have:=u.wQ x w y t
  rw[aa4,aa4];show _<=C.asked.length+6*(ps.length+1);lia
theorem SA(n){C}(u:Un C.W C.U)(D:C.W.Ok)(ha:C.asked.length<=10){L a}(k:KC C L a){σ A ps}(h:fY C σ A ps){x y}(hx:x∈C.U)(U:y∈C.U)(e1:L.lookup 283=some (tE C.W x))(e2:L.lookup 284=some (tE C.W y)){Q}
  (q:∀H t w i,fY C t w i->A<+:w->(∀p∈ps,p∈i)->(x=y\/(x,y)∈i)->(∀z,z≠224->H.lookup z=L.lookup z)->Q .next H t):
  bH (aH (n+4)) xC L Q σ:=by
 obtain⟨lx,wx,B⟩:=u.look x hx
 obtain⟨ly,wy,N⟩:=u.look y U
 have bd:=h.bound u ha
 have T:∀q∈ps,aL C.W q.1/\aL C.W q.2:=λq m=>⟨(u.look _ (h.pu q m).1).2.2,(u.look _ (h.pu q m).2).2.2⟩
 refine aa e1 (aa e2 (Wo (EY _ x) (bR (uK (jP _ x) (jP _ y) (aaS B.2 ()) ?_))))
 rw[AI B N]
 refine cN (λexy=>aa e1 (aa e2 (aa k.p (AB h.hp (keys_map (nF _) ps) (aaS (vN T) ()) (nF _ (x,y)) (λm=>q L σ A ps h (abp _) (λp m=>m) (.inr ((rP ⟨B,N⟩ T).mp m)) λJ J=>Y) λmp=>?_)))) λe=>q L σ A ps h (abp _) (λp m=>m) (.inl e) λJ J=>Y
 have lt:=h.lt
 cases h.hw with
 |mk os w1 w2=>
 refine aa k.p (ae h.hp (aa e1 (aa e2 (ae h.hp ⟨(lm (sz (aaS bd.1 ()))),eB (aaU AO.list (abA (l₂:=[(x,y)])).symm) ?_⟩))))
 have r:ag [C.p] σ (σ.set C.p (.list ((ps++[(x,y)]).map (cO C.W)))):=ag.set (.head _)
 have j:(σ.set C.p (.list ((ps++[(x,y)]).map (cO C.W))))[C.p]?=_:=ba h.hp
 revert r j
 intro r j
 have f:=r.get w1 (ne1 (Nat.ne_of_gt lt.2.2))
 have mo:=lH D
 refine aa k.wy (ae f (aa k.w (aa e1 (aa e2 (VR n D.dz (h.w.keep (h.keep.ext (aaS lt.1 (abG lt.2.1)) r)) lx ly wx wy (λx=>⟨(mo x).1,λm mm=>((mo x).2 m mm).1⟩) (aaS D.len0.2 ()) (aaS D.fO.2 ()) λb o c ge ro=>ae (c.get f) ⟨lm (w2.length▸sz (aaS bd.1 ())),eB (aaU AO.list (abA (l₂:=[o])).symm) ?_⟩)))))
 have lo:=abb (aD f) ge
 have s:ag [C.wy] b (b.set C.wy (.list ((os++[o]).map .loc))):=ag.set (.head _)
 have d:(b.set C.wy (.list ((os++[o]).map .loc)))[C.wy]?=_:=ba (c.get f)
 revert s d
 intro s d
 have YO:=ro.chg s λJ m=>aaT.mp m▸lo
 cases YO with
 |mk ls r1 r2 r3=>
 have M:=s.get (c.get (r.get h.ht (ne1 (abx lt.2.1)))) (ne1 (abx (abB lt.2.1 lt.2.2)))
 have gl:((os++[o]).map AV.loc).getLast?=some (.loc o):=by rw[abA];exact List.getLast?_concat
 exact aa k.wy (ae d (a5 gl (ae r1 (Qt (n+4) (abB (abB lt.2.1 lt.2.2) lo) ls r1 r2 r3 M k.t (aaS (abw bd.2 (u.wQ x hx y U)) ()) λH l c4 e4 M=>q H l _ _ (h.add u hx U (λm=>mp ((rP ⟨B,N⟩ T).mpr m)) w2 ro r c lo s c4 j d M) (List.prefix_append ..) (λp=>abe _) (.inr (abi _ (.head _))) e4))))
section
variable{C:CX}(u:Un C.W C.U)(hw:C.W.Ok)(ha:C.asked.length<=10)
include u hw ha
theorem P4(n)(hx:x∈C.U)(l:List Th):(∀y∈l,y∈C.U)->∀{L σ td ps},KC C L a->L.lookup 283=some (tE C.W x)->fY C σ td ps->
  (∀L' r s d,fY C r s d->td<+:s->(∀p∈ps,p∈d)->(∀y∈l,x=y\/(x,y)∈d)->(∀z,z≠224->z≠284->L'.lookup z=L.lookup z)->Q .next L' r)->
  bU (aH (n+4)) (.one 284) xC (.seq items) (l.map (tE C.W)) L Q σ:=by
 induction l with
 |nil=>exactλJ J J J J J J h q=>q _ _ _ _ h (abp _) (λp m=>m) nofun λJ J J=>Y
 |cons y l ih=>
  exactλhy L σ td ps k e1 h q=>SA n u hw ha (k.set ()) h hx (hy y (.head _)) (sl Y e1) se λiM ek Rl Of H w s₁ B b=>
   ih (λz m=>hy z (.tail _ m)) (k.of λz T N h3=>(b z T).trans (sn N)) ((b _ ()).trans (sl Y e1)) H λM f i j D t c A l₂=>
    q M f i j D (w.trans t) (λp m=>c p (s₁ p m)) (aa'.mpr ⟨B.imp id (c _),A⟩) λz T N=>(l₂ z T N).trans ((b z T).trans (sn N))
theorem Nn(n)(hb:∀y∈b.2,y∈C.U)(xs:List Th):(∀x∈xs,x∈C.U)->∀{L σ N ps},KC C L a->L.lookup 102=some (kE C.W b)->fY C σ N ps->
  (∀L' r s f,fY C r s f->N<+:s->(∀p∈ps,p∈f)->(∀x∈xs,∀y∈b.2,x=y\/(x,y)∈f)->KC C L' a->Q .next L' r)->
  bU (aH (n+4)) (.one 283) B9 (.seq items) (xs.map (tE C.W)) L Q σ:=by
 induction xs with
 |nil=>exactλJ J J J J k J h q=>q _ _ _ _ h (abp _) (λp m=>m) nofun k
 |cons x xs ih=>
  exactλhx L σ N ps k e1 h q=>aa (sl Y e1) (P4 u hw ha n (hx x (.head _)) b.2 hb (k.set ()) se h λiM T Rl Of H w s₁ B d=>
   ih (λz m=>hx z (.tail _ m)) (k.of λz h1 h2 h3=>(d z h1 h2).trans (sn h3)) ((d _ () ()).trans (sl Y e1)) H λM i j l D t c A=>q M i j l D (w.trans t) (λp m=>c p (s₁ p m)) (aa'.mpr ⟨λy my=>(B y my).imp id (c _),A⟩))
theorem R7(n)(q:∀N f i j a',KC C N a'->fY C f i j->(∀q∈i,sT j q)->Q .next N f)(m):∀{a L σ d ps},21700<=m+a->KC C L a->fY C σ d ps->a<=d.length->(∀q∈d.take a,sT ps q)->
  lB (aH (n+4)) (X.lt (X.v 101) (X.len (X.v 263))) GA m L Q σ:=by
 induction m with
 |zero=>exactλD k h l J=>absurd (aaS D (aaS (aa7 (ab5 _)) (aaS l (h.bound u ha).2))) ()
 |succ m ih=>
  intro a L σ d ps D k h l dn;have bd:=(h.bound u ha).2;refine aa k.a (aa k.t (ae h.ht ⟨aaZ (lm bd) (),cd (λe=>?_) λe=>?_⟩))
  .rw[aa1] at e;have e:=Int.ofNat_lt.mp e;obtain⟨x,B⟩:=gT e;have A:=abk B;have tk:=h.tk x A;refine aa k.t (aa k.a (ae h.ht (a5 ((dh (abB (abb e bd) ())).trans (abm.trans (aaU _ B))) (aa (sl Y (sl Y k.a)) (aa (sl Y (sl Y se)) (Nn u hw ha n tk.2.1 x.1.2 tk.1.1 ⟨sl Y (sl Y (sl Y k.w)),sl Y (sl Y (sl Y k.t)),sl Y (sl Y (sl Y k.p)),sl Y (sl Y (sl Y k.wy)),se⟩ (sl Y se) h λT H c M y b p s t=>?_))))));refine ih (aaS D (aa7 (abT ..))) t y (aaS e b.length_le) λz mz=>?_;have et:c.take (a+1)=d.take a++[x]:=by
    obtain⟨r,rfl⟩:=b;rw[List.take_append_of_le_length e,List.take_add_one,B];rfl
   exact sH (λz m' v mv w mw=>(dn z m' v mv w mw).imp id (p _)) s z (et▸mz)
  .rw[aa1] at e;exact q L σ d ps a k h λx A=>dn x ((List.take_of_length_le (Nat.le_of_not_lt λw=>e (Int.ofNat_lt.mpr w)))▸A)
end
theorem Rm(n){W U}(u:Un W U){l f p}(s:∀q∈p,aL W q.1/\aL W q.2){all:List (Kind×Kind)}{L}(e1:L.lookup 90=some (.loc f))(r:List (Kind×Kind)):(∀q∈r,UK W U q.1/\UK W U q.2)->∀{σ},σ[l]?=some (.list (all.map (pE W)))->σ[f]?=some (.list (p.map (cO W)))->∀{Q},(∀d,ai σ d->Q ((r.map λq=>dH (dF p) q.1 q.2).map .bool) d)->
  bK (aH (n+3)) (X.call 80 1243 [(X.v 87),(X.v 102),(X.v 90)]) (.many [87,102]) none (.loc l (all.map (pE W))) L (r.map (pE W)) Q σ:=by
 induction r with
 |nil=>exactλJ J i J J q=>⟨i,q _ .refl⟩
 |cons x r A=>
  intro w σ i y Q q;have c:=w x (.head _);exact⟨i,aa (sl Y se) (aa se (aa (sl Y (sl Y e1)) (Gr n y s ⟨c.1.2.1,λz j=>(u.look z (c.1.1 z j)).2.2⟩ ⟨c.2.2.1,λz j=>(u.look z (c.2.1 z j)).2.2⟩ c.1.2.2 c.2.2.2 λt a=>A (λq m=>w q (.tail _ m)) (a.get i) (a.get y) λb h=>q b (a.trans h))))⟩
theorem V1{σ}{Q:PX}{n}{l:List Bool}(h:σ[n]?=some (.list (l.map .bool)))(q:Q (.bool (decide (false∈l)==false)) σ):gK false (.bool false) (.loc n) Q σ:=ae h (bR (DC q))
theorem X9(n){W U}(u:Un W U){o i z}(A:∀q∈z,aL W q.1/\aL W q.2){all L}(e1:L.lookup 90=some (.loc i))(s):∀{b:List (List (Kind×Kind))},(∀r∈b,(∀q∈r,UK W U q.1/\UK W U q.2)/\r.length<=100)->∀{σ},σ[o]?=some (.list all)->σ[i]?=some (.list (z.map (cO W)))->aG (λl r=>σ[l]?=some (.list (r.map (pE W)))) s b->∀{Q},(∀f,ai σ f->Q ((b.map λr=>r.all λq=>dH (dF z) q.1 q.2).map .bool) f)->
  bK (aH (n+3)) (X.cK (X.bool false) (X.comp (X.call 80 1243 [(X.v 87),(X.v 102),(X.v 90)]) (.many [87,102]) (It.val (X.v 224)) none)) (.one 224) none (.loc o all) L (s.map .loc) Q σ:=by
 induction s with
 |nil=>
  intro b w σ t y d Q q;cases b with
  |nil=>exact⟨t,q σ .refl⟩
  |cons=>exact d.elim
 |cons l s D=>
  intro b w σ t y d Q q;cases b with
  |nil=>exact d.elim
  |cons r b=>
  have h:=w r (.head _);refine⟨t,aa se (ae d.1 ⟨lm (sz (aaS h.2 ())),Rm n u A (ua Y (sl Y e1)) r h.1 d.1 y λB p=>V1 az ?_⟩)⟩;rw[Qz];have a:=λx=>p.trans (ai.app (x:=[x]));exact D (λr m=>w r (.tail _ m)) (ai.get (a _) t) (ai.get (a _) y) ((aG.tl d).imp λl r=>ai.get (a _)) λc j=>q c (ag.trans (a _) j)
theorem Lc{a:Type}{l:List a}{i x P}(b:l[i]?=some x)(h:P x=true):(l.take (i+1)).filter P=(l.take i).filter P++[x]:=by
 rw[List.take_add_one,b,List.filter_append];exact aaU _ (List.filter_cons_of_pos h)
theorem A8{a:Type}{l:List a}{i x P}(b:l[i]?=some x)(h:¬P x=true):(l.take (i+1)).filter P=(l.take i).filter P:=by
 rw[List.take_add_one,b,List.filter_append];exact(aaU _ (List.filter_cons_of_neg h)).trans (abO _)
structure oW(C:CX)(ps:List (Th×Th))(σ:Sg):Prop where
 hp:σ[C.p]?=some (.list (ps.map (cO C.W)))
 hw:Bq C σ ps
 pu:∀q∈ps,q.1∈C.U/\q.2∈C.U
 len:ps.length<=3600
theorem oW.keep{C ps σ a}(h:oW C ps σ)(k:ai σ a):oW C ps a:=by
 cases h.hw with
 |mk os c b=>exact⟨k.get h.hp,.mk os (k.get c) (b.imp λo q r=>⟨r.1.keep k,r.2⟩),h.pu,h.len⟩
theorem Wr:(de W x y).length<=2:=by
 unfold de;rw[aa4];refine abw (d:=1) ?_ ?_
 .rcases q_ (x:=x) (y:=y) with e|⟨r,e⟩<;>rw[e]<;>exact Nat.le_of_ble_eq_true Y
 .split<;>exact Nat.le_of_ble_eq_true Y
theorem Mo{a:Type}{r}{l:List (List a)}(m:r∈l):r.length<=l.flatten.length:=by
 induction m with
 |head=>rw[List.flatten_cons,aa4];exact aaW ..
 |tail _ _ b=>rw[List.flatten_cons,aa4];exact aaS b (abj ..)
section
variable{C:CX}{ps:List (Th×Th)}
theorem N6(n)(u:Un C.W C.U){s y lf}(fG:∀q∈s,q∈ps){a}(p:oW C ps a)(ga:a[y]?=some (.list (s.map (cO C.W))))(U8:a.length<=lf){items Q}(m):∀{i L σ},i+m=ps.length->ai a σ->σ[lf]?=some (.list (((ps.take i).filter λq=>decide (q∈s)&&tv C.W s q).map (cO C.W)))->L.lookup 199=some (.loc C.p)->L.lookup 90=some (.loc y)->L.lookup 279=some (.loc C.wy)->L.lookup 164=some (.loc lf)->
  (∀H c,ai a c->c[lf]?=some (.list ((nW C.W ps s).map (cO C.W)))->(∀z,z≠142->H.lookup z=L.lookup z)->Q .next H c)->
  bU (aH (n+3)) (.one 142) xq (.seq items) ((List.range' i m).map λ(j:Nat)=>.int (j)) L Q σ:=by
 induction m with
 |zero=>
  intro i L σ D kp d e1 e2 U T q;exact q L σ kp ((List.take_of_length_le (show ps.length<=i from aa7 D.symm))▸d) λJ J=>Y
 |succ m ih=>
  intro i L σ D kp d e1 e2 U T q;have il:=Nat.lt_of_lt_of_eq (abW (Nat.succ_pos m)) D;have kb:i<2^62:=abB (abb il p.len) ();obtain⟨x,l⟩:=gT il;have mx:=abk l;have rest:∀{c},ai a c->c[lf]?=some _->bU (aH (n+3)) (.one 142) xq (.seq items) ((List.range' (i+1) m).map λ(j:Nat)=>.int j) (aT L 142 (iv i)) Q c:=λO6 v_=>
   ih (by rw[←D,abT];rfl) O6 v_ (sl Y e1) (sl Y e2) (sl Y U) (sl Y T) λH A YN vy Oz=>q H A YN vy λz hz=>(Oz z hz).trans (sn hz)
  have f:=p.keep kp;have t:∀q∈ps,aL C.W q.1/\aL C.W q.2:=λq m=>⟨(u.look _ (p.pu q m).1).2.2,(u.look _ (p.pu q m).2).2.2⟩;have h:=λq m=>t q (fG q m);have gx:=(dh kb).trans (abm.trans (aaU (Option.map (cO C.W)) l));have mm:=rP (t x mx) h;refine aa (sl Y e1) (aa se (ae f.hp (a5 gx (aa (sl Y e2) (in_list (ai.get kp ga) (keys_map (nF _) s) (aaS (vN h) ()) (nF ..) (cd (λN=>?_) λN=>rest kp ?_))))))
  .cases f.hw with
   |mk os w1 w2=>
   obtain⟨o,ho,ro,_⟩:=w2.Nt l;cases ro with
   |mk ls r1 r2 r3=>
   have pu:=p.pu x mx;refine aa (sl Y U) (aa se (ae w1 (a5 ((dh kb).trans (abm.trans (aaU _ ho))) (ae r1 ⟨lm (sz (aaS (r3.length▸Wr) ())),X9 n u h (er Y (sl Y e2)) ls (λr mr=>⟨u.Ba _ pu.1 _ pu.2 r mr,aaS (Mo mr) (aaS (u.wQ _ pu.1 _ pu.2) ())⟩) r1 (ai.get kp ga) r3 λek B=>xB az ?_⟩))));rw[x2];have b:=λx=>B.trans (ai.app (x:=[x]));have ex:=mm.mp N;refine cB (λM=>aa (sl Y T) (ae (ai.get (b _) d) (aa (sl Y e1) (aa se (ae (ai.get (b _) f.hp) (a5 gx (ae (ai.get (b _) d) ⟨lm (sz (aaS (abS ..) (aaS (List.length_take_le' ..) (aaS p.len ())))),rest (ai.set (ag.trans kp (b _)) U8) ?_⟩))))))) λM=>rest (ag.trans kp (b _)) ?_
   .rw[Lc l (by rw[aba ex];exact M),abA]
    exact ba (ai.get (b _) d)
   .rw[A8 l (by rw[aba ex];exact abV.mp M)]
    exact ai.get (b _) d
  .rw[A8 l (by exact(abf λw=>N (mm.mpr w))▸aaY)]
   exact d
theorem Zb(n)(u:Un C.W C.U)(cl:yN C.W ps)(m):∀{k L σ r d},k+m=ps.length+1->jk C.W ps r->r.length+k<=ps.length->oW C ps σ->σ[d]?=some (.list (r.map (cO C.W)))->L.lookup 199=some (.loc C.p)->L.lookup 90=some (.loc d)->L.lookup 279=some (.loc C.wy)->
  (∀B c(l)(h:List (Th×Th)),ai σ c->c[l]?=some (.list (h.map (cO C.W)))->(∀q,q∈h↔q∈ps/\br C.W q.1 q.2)->Q (.ret (.loc l)) B c)->
  bU (aH (n+3)) (.one 159) Ht (.seq items) ((List.range' k m).map λ(j:Nat)=>.int (j)) L Q σ:=by
 induction m with
 |zero=>exactλz J y J J J J J J=>absurd (aaS (aa7 z.symm) (aaS (abj ..) y)) (Nat.not_succ_le_self _)
 |succ m H=>
  intro k L σ r d z ok y f A e1 e2 D q;have s:=Q2 ok;have t:=aaS (aaS (aaW ..) y) f.len;refine aa (sl Y (sl Y e1)) (ae (ay f.hp) ⟨aaZ (lm f.len) (),aaZ (lm f.len) (),?_⟩);rw[aa1];refine vg (N6 n u (λq m=>(abZ.mp (ok.sub▸m)).1) f A (aaX _) ps.length (ab5 _) .app az (sl Y (sl Y e1)) (sl Y (sl Y e2)) (sl Y (sl Y D)) se λx p b i a=>?_);refine aa ((a _ ()).trans se) (ae i ⟨aaZ (lm (aaS s t)) (),aa ((a _ ()).trans (sl Y (sl Y e2))) (ae (b.get A) ⟨aaZ (lm t) (),?_⟩)⟩);rw[aa1,aa1];exact cd (λe=>aa ((a _ ()).trans (sl Y (sl Y e2))) (q x p d r b (b.get A) (ok.fin (abC e)))) λe=>aa ((a _ ()).trans se) (H (by rw[←z,abT];rfl) (ok.step cl) (aaS (aa7 (Nat.succ_add_eq_add_succ ..).symm) (aaS (aa2 (Nat.lt_of_le_of_ne s λw=>e (aaU _ w)) k) y)) (f.keep b) i (sl Y ((a _ ()).trans (sl Y (sl Y e1)))) se (sl Y ((a _ ()).trans (sl Y (sl Y D)))) λB c l h k'=>q B c l h (b.trans k'))
end
theorem JM(hs:σ[n]?=some (.list l0))(l):∀{Q},Q l σ->bK c (X.v x) (.one x) none (.loc n l0) L l Q σ:=by
 induction l with
 |nil=>exactλq=>⟨hs,q⟩
 |cons a l b=>exact@λQ q=>⟨hs,aa se (b q)⟩
theorem Wm(n){W U}(u:Un W U)(hw:W.Ok){A σ}(h:cS σ A W){B}{asked:List (Kind×Kind)}(w:σ[B]?=some (.list (asked.map (pE W))))(f:asked.length<=10)(hU:∀q∈asked,UK W U q.1/\UK W U q.2){Q}
  (q:∀b(l)(z ps:List (Th×Th)),ai σ b->b[l]?=some (.list (z.map (cO W)))->(∀p,p∈z↔p∈ps/\br W p.1 p.2)->(∀q∈asked,sT ps q)->(∀p∈ps,p.1∈U/\p.2∈U)->Q (.loc l) b):C (n+5) 1248 [.loc A.w,.loc B] Q σ:=by
 refine fn Bm Y Y (ae w ⟨lm (sz (aaS f ())),JM w (asked.map (pE W)) (Et ?_)⟩)
 have m:(σ++[AO.list (asked.map (pE W))]++[AO.list []]++[AO.list []])[σ.length]?=some _:=ay (ay az)
 have j:(σ++[AO.list _]++[AO.list []]++[AO.list []])[(σ++[AO.list (asked.map (pE W))]).length]?=some (.list []):=ay az
 have i:(σ++[AO.list _]++[AO.list []]++[AO.list []])[(σ++[AO.list (asked.map (pE W))]++[AO.list []]).length]?=some (.list []):=az
 have kp:ai σ (σ++[AO.list (asked.map (pE W))]++[AO.list []]++[AO.list []]):=(ai.app.trans .app).trans .app
 have l1:=aD (az (σ:=σ) (o:=AO.list (asked.map (pE W))))
 have l2:=aD (az (σ:=σ++[AO.list (asked.map (pE W))]) (o:=AO.list []))
 revert m j i kp l2
 generalize(σ++[AO.list _]++[AO.list []]).length=D
 revert l1
 generalize(σ++[AO.list (asked.map (pE W))]).length=H
 refineλl1 m j i kp l2=>R7 (C:=⟨W,U,A,asked,σ,σ.length,H,D⟩) u hw f n (λL t td ps a k c dn=>?_) 1000000 (ps:=[]) () ⟨Y,Y,Y,Y,Y⟩ ⟨kp,⟨aaX _,l1,l2⟩,h,m,j,.mk [] i trivial,hU,ab6,nofun,nofun,aaX _,abp _⟩ (aa9 _) nofun
 have bd:=c.bound u f
 have closed:yN W ps:=λp mp r T q d x N y M=>(dn q (c.rd p mp r T q d) x N y M).resolve_left
 refine aa k.p (aa (sl Y k.p) (ae c.hp ⟨aaZ (lm bd.1) (),?_⟩))
 rw[aa1]
 refine⟨aaZ (abI bd.1) (),vg (Zb (C:=⟨W,U,A,asked,σ,σ.length,H,D⟩) (n+1) u closed (ps.length+1) (ab5 _) .init (aaX _) ⟨c.hp,c.hw,c.pu,bd.1⟩ c.hp (sl Y k.p) se (sl Y k.wy) λL' b l s k' h' e'=>q b l s ps (ag.trans c.keep k') h' e' (λq d=>dn q (c.pre.subset d)) c.pu)⟩
section
variable{σ:Sg}{Q:PX}{T:TH}{τ:List Row}
section
variable{t C:Nat}{fs:List (V×AV)}{a:V}{v:AV}{L:Loc}{K:PS}{o:AO}{s k:Nat}
theorem cC(c:σ[t]?=some (.inst C fs))(rest:∀b,ag [t] σ b->b.length=σ.length->b[t]?=some (.inst C (aT fs a v))->K .next L b)(d:isField C a=true:=by rfl)(hz:decide (fs.length<500)=true:=by rfl):qY (.loc t) a v (kEx L K) σ:=
 ae c ⟨⟨d,dt hz⟩,rest _ (ag.set (.head _)) List.length_set (ba c)⟩
theorem eH(d:σ.length=s+k)(c:σ[t]?=some (.inst C fs))(rest:∀b,ag [t] σ b->b.length=s+(k+1)->b[s+k]?=some o->b[t]?=some (.inst C (aT fs a (.loc (s+k))))->K .next L b)(f:isField C a=true:=by rfl)(hz:decide (fs.length<500)=true:=by rfl):qY (.loc t) a (.loc σ.length) (kEx L K) (σ++[o]):=by
 refine ae (ay c) ⟨⟨f,dt hz⟩,?_⟩;have g:=a4 (o':=.inst C (aT fs a (.loc σ.length))) (az (o:=o)) (abx (aD c));have h:=ba (o':=.inst C (aT fs a (.loc σ.length))) (ay (x:=[o]) c);rw[d] at g h⊢;exact rest _ (ag.app.trans (ag.set (.head _))) (by rw[List.length_set,aa4,d];rfl) g h
end
theorem Zs(n)(t:Tab σ T τ)(b:r.ok=true)(d:τ.length<=16000000)(c:r∉τ)(q:∀a,Tab a T (τ++[r])->ag [T.rows,T.index] σ a->Q (iv τ.length) a):C (n+1) 177 [.loc T.tab,r.enc] Q σ:=by
 refine h9 n t b d λj f a o e=>?_;obtain⟨x,rfl⟩:=o.pre;have m:=(abq.mp (abk e)).resolve_left c;cases x with
 |nil=>cases m
 |cons y x=>
  cases x with
  |cons=>exact absurd (Nat.le_of_succ_le_succ (Nat.le_of_add_le_add_left (aa4▸o.len))) (Nat.not_succ_le_zero _)
  |nil=>
   cases aaT.mp m
   cases(List.getElem?_inj (aD e) o.tab.nodup).mp (e.trans List.getElem?_concat_length.symm)
   exact q a o.tab o.chg
theorem VA(n){items K}(b):∀{τ L σ},Tab σ T τ->L.lookup 237=some (.loc T.tab)->(∀r∈b,r.ok=true)->(τ++b).Nodup->(τ++b).length<=1000->(∀i a,Tab a T (τ++b)->ag [T.rows,T.index] σ a->K .next i a)->
  bU (aH (n+1)) (.one 225) yR (.seq items) (b.map Row.enc) L K σ:=by
 induction b with
 |nil=>exactλh e1 f nd hz q=>q _ _ ((abO _).symm▸h) .refl
 |cons r b p=>
  intro τ L σ h e1 f nd hz q;refine aa (sl Y e1) (ae h.tab (aa se (Zs n h (f r (.head _)) (aaS (aaS (aa4▸aaW ..) hz) ()) (λm=>(abR.mp nd).2.2 r m r (.head _) Y) λj c d=>?_)));rw[List.append_cons] at nd hz q;exact p c (sl Y e1) (λx m=>f x (.tail _ m)) nd hz λi a l s=>q i a l (d.trans s)
theorem aae(n){t}(ht:σ[t]?=some (.inst 180 []))(q:∀a,A5 a (tabAt t σ.length)->ag [t] σ a->σ.length+8<=a.length->Q .none a):C (n+2) 163 [.loc t] Q σ:=by
 have ne:∀{k},σ.length+k∉[t]:=λm=>aby (aD ht) (aaT.mp m▸aaW ..);generalize hs:σ.length=s at*;refine fn C' Y Y (eH (k:=0) hs ht λek b U z f7=>eH U f7 λfi c₂ l₂ y j0=>eH l₂ j0 λlA jr N x yn=>eH N yn λs7 lD M w jK=>eH M jK λmd zh L u nR=>eH L nR λpO ip H r Ag=>eH H Ag λD8 oN D aaL vz=>eH D vz λuL qP B aai qc=>cC qc λux lF A n_=>cC n_ λf c₀ Tu h₀=>?_);have h:=oN.trans (qP.trans (lF.trans c₀));have i:=ip.trans h;have j:=zh.trans i;have l:=lD.trans j;have p:=jr.trans l;have d:=c₂.trans p;have nf:∀{k},s+(k+2)∉[(tabAt t s).rows,(tabAt t s).index]:=λ{k}m=>by
  cases m with
  |tail _ m=>exact absurd (Nat.add_left_cancel (aaT.mp m)) (Nat.succ_ne_succ.mpr (Nat.succ_ne_zero k))
 show srcOf yX (kFor (.one 225) yR _ [(237,.loc t)] _) f;rw[PJ];refine VA n (T:=tabAt t s) k7 (τ:=[]) ⟨h₀,d.get z (ne (k:=0)),p.get y (ne),ab6⟩ Y Ze XS () λL' a t' c=>?_;refine q a ⟨t',c.get (l.get x (ne)) (nf),c.get (j.get w (ne)) (nf),c.get (i.get u (ne)) (nf),c.get (h.get r (ne)) (nf)⟩ ⟨aaS (b.trans d).1 c.1,λm hm o e=>c.get ((b.trans d).get e hm) λmm=>?_⟩ (aaS (aa7 (B.symm.trans (A.symm.trans Tu.symm))) c.1);have le:=hs▸aD e;cases mm with
 |head=>exact Nat.lt_irrefl _ le
 |tail _ mm=>exact Nat.not_succ_le_self _ (abG (aaT.mp mm▸le))
end
section
variable{σ:Sg}{Q:PX}{T:TH}{τ:List Row}
theorem Yz(n)(ht:σ[t]?=some (.inst 201 []))(q:∀b,fJ b t did->ag [t] σ b->Q .none b):C (n+1) 198 [.loc t,iv did,kd,DX] Q σ:=by
 refine fn Az Y Y ?_;refine cC ht λek B aaE p=>?_;refine cC p λfi A l₂ m=>?_;refine cC m λlA z Sh l=>?_;refine cC l λU y VI j=>?_;refine cC j λc x Pc a=>?_;have a:c[t]?=some (.inst 201 [_,_,_,_,_]):=a;exact cC a λN w aaG i=>(cC i λM u aag h=>(cC h λL s Hj f=>(cC f λH r Hc d=>(eH (k:=0) Y d λvF ca la oa ha=>(eH (k:=0) Y ha λIW cb lb ob hb=>(cC hb λoZ cc lc hc=>(cC hc λXd cd ld hd=>(cC hd λLm ce le he=>(cC he λD cf lf hf=>(q D ⟨_,hf,dt Y,Y,Y,Y⟩ (B.trans (A.trans (z.trans (y.trans (x.trans (w.trans (u.trans (s.trans (r.trans (ca.trans (cb.trans (cc.trans (cd.trans (ce.trans cf))))))))))))))))))))))))
theorem RJ(n)(t:Tab σ T τ)(c:σ[T.decls]?=some (.list ds))(hz:ds.length<=100)(q:∀a,ag [T.decls] σ a->σ.length<a.length->a[T.decls]?=some (.list (ds++[.loc σ.length]))->fJ a σ.length ds.length->Q (.loc σ.length) a):C (n+3) 244 [.loc T.tab,m,l] Q σ:=by
 refine fn CH Y Y (ae t.tab (ae c ⟨aaZ hz (),Yz n az λh f b=>⟨Y,?_⟩⟩));have d:=ai.ext ai.app (aaX _) b;refine ae (t.keep d).tab (ae (d.get c) (ae (d.get c) ⟨sz (aaS hz ()),?_⟩));obtain⟨fs,j,i⟩:=f;exact q _ (ag.trans d.chg (ag.set (.head _))) (List.length_set.symm▸(abb (aa4▸ab3 _) b.1)) (ba (d.get c)) ⟨fs,a4 j (abx (aD c)),i⟩
theorem WB(n)(t:Tab σ T τ)(w:σ[T.bounds]?=some (.list bs))(hf:σ[T.defaults]?=some (.list fs))(hn:σ[T.names]?=some (.list ns))(hz:bs.length<=100/\fs.length<=100/\ns.length<=100)(ne:[T.tab,T.rows,T.index,T.bounds,T.defaults,T.names].Nodup)(hl:τ.length<=1000)
  (q:∀i f p,Tab f T p->τ<+:p->p.length<=τ.length+1->p[i]?=some (.par bs.length)->ag [T.rows,T.index,T.bounds,T.defaults,T.names] σ f->f[T.bounds]?=some (.list (bs++[.int (-1)]))->f[T.defaults]?=some (.list (fs++[.int (-1)]))->f[T.names]?=some (.list (ns++[r]))->Q (iv i) f):
  C (n+2) 237 [.loc T.tab,r] Q σ:=by
 have c:∀(i j){a b},[T.tab,T.rows,T.index,T.bounds,T.defaults,T.names][i]?=some a->[T.tab,T.rows,T.index,T.bounds,T.defaults,T.names][j]?=some b->decide (i≠j)=true->a≠b:=λi j a b D B h3=>bV ne i j D B (dt h3)
 have x:∀{n},n<=100->n<=sizeLine:=λh=>sz (aaS h ())
 refine fn HO Y Y (ae t.tab (ae w ⟨aaZ hz.1 (),ae t.tab (ae w (ae w ⟨x hz.1,?_⟩))⟩))
 have cb:ag [T.bounds] σ (σ.set T.bounds (.list (bs++[.int (-1)]))):=ag.set (.head _)
 have M:(σ.set T.bounds (.list (bs++[.int (-1)])))[T.bounds]?=_:=ba w
 revert cb M
 generalize σ.set T.bounds _=d
 intro cb M
 have t1:=t.chg cb (ne1 (c 0 3 Y Y Y)) (ne1 (c 1 3 Y Y Y)) (ne1 (c 2 3 Y Y Y))
 have L:=cb.get hf (ne1 (c 4 3 Y Y Y))
 refine ae t1.tab (ae L (ae L ⟨x hz.2.1,?_⟩))
 have u:ag [T.defaults] d (d.set T.defaults (.list (fs++[.int (-1)]))):=ag.set (.head _)
 have H:(d.set T.defaults (.list (fs++[.int (-1)])))[T.defaults]?=_:=ba L
 revert u H
 generalize d.set T.defaults _=l
 intro u H
 have U:=t1.chg u (ne1 (c 0 4 Y Y Y)) (ne1 (c 1 4 Y Y Y)) (ne1 (c 2 4 Y Y Y))
 have A:=u.get (cb.get hn (ne1 (c 5 3 Y Y Y))) (ne1 (c 5 4 Y Y Y))
 refine ae U.tab (ae A (ae A ⟨x hz.2.2,?_⟩))
 have s:ag [T.names] l (l.set T.names (.list (ns++[r]))):=ag.set (.head _)
 have z:(l.set T.names (.list (ns++[r])))[T.names]?=_:=ba A
 revert s z
 intro s z
 have N:=U.chg s (ne1 (c 0 5 Y Y Y)) (ne1 (c 1 5 Y Y Y)) (ne1 (c 2 5 Y Y Y))
 have y:∀{a},a≠T.rows->a≠T.index->a∉[T.rows,T.index]:=λD B m=>(aa5.mp m).elim D λm=>B (aaT.mp m)
 exact ae N.tab (h9 n N Y (aaS hl ()) λi p f o e'=>q i f p o.tab o.pre o.len e' ((((cb.mono λm h=>(aaT.mp h▸.tail _ (.tail _ (.head _)))).trans (u.mono λm h=>(aaT.mp h▸.tail _ (.tail _ (.tail _ (.head _)))))).trans (s.mono λm h=>(aaT.mp h▸.tail _ (.tail _ (.tail _ (.tail _ (.head _))))))).trans (o.chg.mono λm h=>(abe _ h))) (o.chg.get (s.get (u.get M (ne1 (c 3 4 Y Y Y))) (ne1 (c 3 5 Y Y Y))) (y (c 3 1 Y Y Y) (c 3 2 Y Y Y))) (o.chg.get (s.get H (ne1 (c 4 5 Y Y Y))) (y (c 4 1 Y Y Y) (c 4 2 Y Y Y))) (o.chg.get z (y (c 5 1 Y Y Y) (c 5 2 Y Y Y))))
theorem ZZ(n){d l}(m:d≠l){all K}(b):∀{ds:List a_}{L σ},σ[l]?=some (.list all)->σ[d]?=some (.dict .str (ds.map fE))->L.lookup 133=some (.loc d)->bA ((ds++b).map a_.nm)->(ds++b).length<=60->(∀i a,ag [d] σ a->a[d]?=some (.dict .str ((ds++b).map fE))->i.lookup 133=some (.loc d)->K .next i a)->
  bU (aH n) (.one 210) AS (.loc l all) (b.map a_.enc) L K σ:=by
 induction b with
 |nil=>exactλf h e1 asc hz q=>⟨f,q _ _ .refl ((abO _).symm▸h) e1⟩
 |cons p b s=>
  intro ds L σ f h e1 asc hz q;have j:=λx r=>by
   rw[abA] at asc;exact abx ((List.pairwise_append.mp asc).2.2 x.nm (aa6.mpr ⟨x,r,Y⟩) p.nm (.head _))
  refine⟨f,aa se (aa (sl Y e1) (aa se (ae h ⟨⟨Y,lm (sz (aaS (aaS (aa4▸aaW ..) hz) ()))⟩,eB (aaU _ (ND j)) ?_⟩)))⟩;rw[List.append_cons] at asc hz q;exact s (a4 f m) (ba h) (sl Y e1) asc hz λi a c=>q i a ((ag.set (.head _)).trans c)
theorem Ou(n){d l all}{ps:List a_}(c:σ[l]?=some (.list all))(h:σ[d]?=some (.dict .str (ps.map fE)))(asc:bA (ps.map a_.nm)){L}(e1:L.lookup 133=some (.loc d))(a:List a_):(∀p∈a,p∈ps)->∀{Q},Q (a.map a_.enc) σ->
  bK (aH n) (X.ix (X.v 133) (X.v 177)) (.one 177) none (.loc l all) L (a.map λp=>.str (cj p.nm)) Q σ:=by
 induction a with
 |nil=>exactλJ J q=>⟨c,q⟩
 |cons p a f=>exactλb Q q=>⟨c,aa (sl Y e1) (aa se (ae h ⟨Y,a5 (OU asc (b p (.head _))) (f (λx m=>b x (.tail _ m)) q)⟩))⟩
theorem ZK(n){l}{ps:List a_}(b:σ[l]?=some (.list (ps.map a_.enc)))(asc:bA (ps.map a_.nm))(hz:ps.length<=60)(q:∀a,ai σ a->Q (.tup (ps.map a_.enc)) a):C (n+1) 210 [.loc l] Q σ:=by
 refine fn Iv Y Y (ae (ay b) (ZZ n (Nat.ne_of_gt (aD b)) ps (ds:=[]) (ay b) az Y asc hz λj a c d h=>aa h (bR ?_)));rw[List.nil_append] at d;have es:(ps.map fE).map (·.1)=ps.map λp=>.str (cj p.nm):=by rw[List.map_map];rfl
 have i:(ps.map fE).map (·.1)=((ps.map a_.nm).map cj).map .str:=by rw[List.map_map,List.map_map,List.map_map];rfl
 refine⟨_,.str,_,_,⟨Y,d,nofun,aaZ (lm hz) (),.inr ⟨_,⟨i,Y⟩,Z6 asc⟩⟩,?_⟩;rw[es];exact ae az ⟨lm (sz (aaS hz ())),Ou n az (ay d) asc (er Y h) ps (λp m=>m) (ae az ⟨(lm (f:=a_.enc) (sz (aaS hz ()))),q _ ((ag.trans (ai.ext ai.app (aaX _) c) ai.app).trans .app)⟩)⟩
theorem Up(n)(t:Tab σ T τ)(hz:τ.length<=16000000)(h:σ[l]?=some (.list (ps.map a_.enc)))(asc:bA (ps.map a_.nm))(f:∀p∈ps,p.nm<128)(hp:ps.length<=60)
  (q:∀i b a,bg σ T τ 1 b a->a[i]?=some (.obj ps)->Q (iv i) b):C (n+2) 222 [.loc T.tab,.loc l] Q σ:=
 fn Hs Y Y (ae t.tab (ZK n h asc hp λd c=>h9 n (t.keep c) (r:=.obj ps) (abd.mpr λp m=>aba (f p m)) hz λi a b o=>q i b a ⟨o.tab,c.chg.trans o.chg,o.pre,o.len⟩))
end
def eY(B:BH)(W:World)(N c:Nat)(k:Kind):Prop:=∀n σ τ,N<=n->cq B W σ τ->τ.length+c<=10000000->∀{Q},(∀i b a,bg σ B.T τ c b a->aB W a k i->Q (iv i) b)->C n 1263 [.loc B.T.tab,.loc B.A.w,kE W k] Q σ
def df(B:BH)(W:World)(N c:Nat)(x:Th):Prop:=∀n σ τ,N<=n->cq B W σ τ->τ.length+c<=10000000->∀{Q},(∀i b a,bg σ B.T τ c b a->IsT W a x i->Q (iv i) b)->C n 1258 [.loc B.T.tab,.loc B.A.w,tE W x] Q σ
theorem sD(t:Tab σ T τ)(k:ai σ a):bg σ T τ c a τ:=⟨t.keep k,k.chg,abp _,aaW ..⟩
theorem jM{n k:Nat}(h:k<=n):∃m,n=m+k:=⟨n-k,(Nat.sub_add_cancel h).symm⟩
theorem nK(h:a+c<=10000000):a<=16000000:=aaS (aaW a c) (aaS h ())
theorem room{a b c d N:Nat}(h:a+(c+d)<=N)(l:b<=a+c):b+d<=N:=aaS (aa2 l d) (aaS (aa7 (abu ..)) h)
theorem kh{a c d N:Nat}(h:a+(c+d)<=N):a+c<=N:=aaS (aa3 (aaW ..) a) h
section
variable{B:BH}{W:World}{σ:Sg}{τ:List Row}{Q:PX}{N c n:Nat}
theorem SM(h:cq B W σ τ)(q:Q (.loc B.d_) σ):getM (.loc B.A.w) (.str "dids") Q σ:=h.wd.elim λJ e=>ae e.1 ⟨Y,a5 e.2.1 q⟩
theorem HE(h:cq B W σ τ)(q:Q (.loc B.params) σ):getM (.loc B.A.w) (.str "params") Q σ:=h.wd.elim λJ e=>ae e.1 ⟨Y,a5 e.2.2 q⟩
theorem Ui(z:N<=n){items L}(e1:L.lookup 257=some (.loc B.T.tab))(e2:L.lookup 277=some (.loc B.A.w))(xs):(∀x∈xs,df B W N c x)->∀{σ τ},cq B W σ τ->τ.length+c*xs.length<=10000000->∀{Q},(∀vs l j,bg σ B.T τ (c*xs.length) l j->aG (IsT W j) xs vs->Q (vs.map iv) l)->
  bK (aH n) (X.call 83 1258 [(X.v 257),(X.v 277),(X.v 260)]) (.one 260) none (.seq items) L (xs.map (tE W)) Q σ:=by
 induction xs with
 |nil=>exactλJ J J h J J q=>q [] _ _ (bg.refl h.tab) trivial
 |cons x xs w=>
  intro u σ τ h hz Q q;rw[abt,Nat.mul_succ,abE (c*xs.length)] at hz q;exact aa (sl Y e1) (aa (sl Y e2) (aa se (u x (.head _) n σ τ z h (kh hz) λi t s a p=>w (λy m=>u y (.tail _ m)) (h.dK a.o) (room hz a.len) λvs f d b r=>q (i::vs) f d (a.trans b) ⟨p.mono b.pre,r⟩)))
theorem VG(n){k}{ul:List Nat}(b:ul.length=8){items L}(e1:L.lookup 156=some (kE W k))(e2:L.lookup 275=some (.tup (ul.map iv)))(l:List Nat):(∀j∈l,j<8)->∀{Q},Q (((l.filter λj=>k.1.testBit j).map λj=>(ul[j]?).getD 0).map iv) σ->
  bK (aH n) (X.ix (X.v 275) (X.v 153)) (.one 153) (some (X.band (X.shr (X.ix (X.v 156) (X.int 0)) (X.v 153)) (X.int 1))) (.seq items) L (l.map λ(j:Nat)=>.int (j)) Q σ:=by
 induction l with
 |nil=>exactλJ J q=>q
 |cons j l a=>
  intro d Q q;have f:=d j (.head _);have a:=@a λx m=>d x (.tail _ m);refine aa (sl Y e1) (aa se (Bj (cd (λz=>a ?_) λz=>aa (sl Y e2) (aa se (a5 ((dh (abB f ())).trans ?_) (a (Q:=Fc (iv ((ul[j]?).getD 0)) Q) ?_))))))
  .rw[List.filter_cons_of_neg λe=>sF.mpr e (bz.mp z)] at q;exact q
  .rw[abm,ab4 (b.symm▸f)];rfl
  .rw[List.filter_cons_of_pos (sF.mp λe=>z (bz.mpr e))] at q;exact q
theorem Rh{k:Kind}(nd:k.2.length<=10):lC ((k.2.map λx=>(0,[x]))++(unitsOf k.1).map λj=>(2^j,[]))<64:=by
 have d:∀l:List Th,((l.map λx=>((0,[x]))).map λk=>k.2.length+pc k.1).sum=l.length:=λl=>by
  induction l with
  |nil=>rfl
  |cons x l a=>
   rw[abM,abM,List.sum_cons,a,abE,(():pc 0=0)];rfl
 have b:∀l:List Nat,(∀j∈l,j<8)->((l.map λj=>((2^j,[]):Kind)).map λk=>k.2.length+pc k.1).sum=l.length:=λl=>by
  induction l with
  |nil=>exactλJ=>Y
  |cons j l a=>exactλh=>by rw[abM,abM,List.sum_cons,a λx m=>h x (.tail _ m),(():∀j<8,pc (2^j)=1) j (h j (.head _)),abE];rfl
 unfold lC;rw[abA,List.sum_append,d,b (unitsOf k.1) λj f=>List.mem_range.mp (abZ.mp f).1];exact aaZ (abw nd (abS ..)) ()
theorem OJ(e2:τ[f]?=some (.str 0))(l:τ[d]?=some .num)(i:τ[a]?=some (.str 1)):∀j∈unitsOf b,a6 τ j (((oD f d a)[j]?).getD 0):=λj h=>
 match j,List.mem_range.mp (abZ.mp h).1 with
 |0,_=>e2
 |1,_=>l
 |2,_=>rfl
 |3,_=>rfl
 |4,_=>rfl
 |5,_=>rfl
 |6,_=>rfl
 |7,_=>i
theorem GO{k}(hk:fM k)(sp:∀x∈k.2,df B W N c x):eY B W (N+7) (c*k.2.length+4) k:=by
 intro n σ τ hn h hz Q q;obtain⟨m,rfl⟩:=jM (k:=6) (aaS (abH ()) hn);have nd:=hk.nd;refine fn Hw Y Y ⟨lm (sz (aaS nd ())),Ui (by lia) Y Y k.2 sp h (kh hz) λvs ek t_ s H=>?_⟩
 have f:=h.dK s.o;have A:=room hz s.len;have t:=f.keep (ai.app (x:=[AO.list (vs.map iv)]));refine ae t.tab.tab (h9 (m+4) t.tab (r:=.str 0) Y (nK A) λu0 Ek fi p zU=>?_);have z:=room (d:=3) A p.len;refine ae p.tab.tab (h9 (m+4) p.tab (r:=.num) Y (nK z) λU aaQ lA b ZI=>?_);have y:=room (d:=2) z b.len;refine ae b.tab.tab (h9 (m+4) b.tab (r:=.str 1) Y (nK y) λT aal l a UI=>?_);have u:=(p.trans b).trans a;refine⟨dt Y,dt Y,VG (m+5) (ul:=oD u0 U T) Y Y Y _ (λj=>List.mem_range.mp) ?_⟩;refine bR (Mi (ay (u.chg.get az λmm=>(aa5.mp mm).elim (λe=>Nat.lt_irrefl _ (e▸aD f.tab.rows)) λmm=>Nat.lt_irrefl _ (aaT.mp mm▸aD f.tab.index))) az ?_ ?_)
 .rw[aa1,aa1,aa1,←H.length];exact aaS (abw nd (abS ..)) ()
 rw[←abA];have gl:=az (σ:=l++[AO.list (((unitsOf k.1).map λj=>((oD u0 U T)[j]?).getD 0).map iv)]) (o:=AO.list ((vs++(unitsOf k.1).map λj=>((oD u0 U T)[j]?).getD 0).map iv));have w:ai l (l++[AO.list (((unitsOf k.1).map λj=>((oD u0 U T)[j]?).getD 0).map iv)]++[AO.list ((vs++(unitsOf k.1).map λj=>((oD u0 U T)[j]?).getD 0).map iv)]):=ai.app.trans .app;revert gl w;exactλgl w=>xy (m+2) (a.tab.keep w) (f.base.mono u.pre) (nK (room (d:=1) y a.len)) (.inr ⟨_,Y,gl⟩) (aG.append (Yx (H.imp λJ J=>IsT.mono u.pre)) (Xx (OJ (cU (b.pre.trans a.pre) zU) (cU a.pre ZI) UI))) (Rh nd) λi L M D Yk=>q i M L ((s.trans ((sD (c:=0) f.tab ai.app).trans (u.trans ((sD (c:=0) a.tab w).trans D)))).le (by lia)) (Jd D.tab.nodup (XD hk) Yk)
theorem L6(A:N<=n){src all}(hs:src∉[B.T.rows,B.T.index]){L}(e1:L.lookup 257=some (.loc B.T.tab))(e2:L.lookup 277=some (.loc B.A.w))(ms):(∀m∈ms,eY B W N c m.2)->∀{σ τ},cq B W σ τ->σ[src]?=some (.list all)->τ.length+c*ms.length<=10000000->∀{Q},(∀ps p l,bg σ B.T τ (c*ms.length) p l->aG (dC W l) ms ps->Q (ps.map a_.enc) p)->
  bK (aH n) (X.tup [(X.v 177),(X.call 85 1263 [(X.v 257),(X.v 277),(X.v 156)]),(X.v 169),(X.v 196)]) (.many [177,156,169,196]) none (.loc src all) L (ms.map (rE W)) Q σ:=by
 induction ms with
 |nil=>exactλJ J J h b J J q=>⟨b,q [] _ _ (bg.refl h.tab) trivial⟩
 |cons m ms z=>
  intro w σ τ h b hz Q q;rw[abt,Nat.mul_succ,abE (c*ms.length)] at hz q;exact⟨b,aa (sl Y (sl Y (sl Y se))) (aa (sl Y (sl Y (sl Y (sl Y e1)))) (aa (sl Y (sl Y (sl Y (sl Y e2)))) (aa (sl Y (sl Y se)) (w m (.head _) n σ τ A h (kh hz) λi u t a r=>aa (sl Y se) (aa se (z (λy x=>w y (.tail _ x)) (h.dK a.o) (a.chg.get b hs) (room hz a.len) λps j f d s=>q (⟨m.1.nm,i,m.1.ms,m.1.ow⟩::ps) j f (a.trans d) ⟨⟨Y,Y,Y,r.mono d.pre⟩,s⟩))))))⟩
theorem y9{ms}(H:∀m∈ms,eY B W N c m.2)(asc:bA (ms.map λm=>m.1.nm))(U:∀m∈ms,m.1.nm<128)(z:ms.length<=10)(T:N+3<=n)(h:cq B W σ τ){l}(A:σ[l]?=some (.list (ms.map (rE W))))(u:l∉[B.T.rows,B.T.index])(hz:τ.length+(c*ms.length+1)<=10000000)
  (q:∀i ps s f,bg σ B.T τ (c*ms.length+1) s f->f[i]?=some (.obj ps)->aG (dC W f) ms ps->Q (iv i) s):C n 1253 [.loc B.T.tab,.loc B.A.w,.loc l] Q σ:=by
 obtain⟨m,rfl⟩:=jM (k:=3) (aaS (abH ()) T)
 refine fn Hh Y Y (ae A ⟨lm (sz (aaS z ())),L6 (by lia) u Y Y ms H h A (kh hz) λps y w b d=>?_⟩)
 have D:=XZ d
 refine Up m (b.tab.keep ai.app) (nK (room hz b.len)) az (D▸asc) (λp M=>?_) (d.length▸aaS z ()) λi r j a t=>q i ps r j (b.trans ⟨a.tab,ai.app.chg.trans a.chg,a.pre,a.len⟩) t (d.imp λJ J=>dC.mono a.pre)
 obtain⟨x,L,ex⟩:=aa6.mp (D▸aa6.mpr ⟨p,M,Y⟩)
 exact ex▸U x L
theorem df.mono(h:df B W N c x)(j:N<=m)(d:c<=l):df B W m l x:=λn σ τ f hs hz Q q=>h n σ τ (aaS j f) hs (aaS (aa3 d _) hz) λi b a o=>q i b a (o.le d)
theorem eY.mono(h:eY B W N c x)(j:N<=m)(d:c<=l):eY B W m l x:=λn σ τ f hs hz Q q=>h n σ τ (aaS j f) hs (aaS (aa3 d _) hz) λi b a o=>q i b a (o.le d)
theorem qz(d:fM k)(b:k.2.length<=2)(a:∀x∈k.2,df B W N c x):eY B W (N+7) (c*2+4) k:=
 (GO d a).mono (aaX _) (aa2 (abz c b) 4)
theorem L8(A:N<=n){items L}(e1:L.lookup 257=some (.loc B.T.tab))(e2:L.lookup 277=some (.loc B.A.w))(as):(∀a∈as,eY B W N c a.kind)->∀{σ τ},cq B W σ τ->τ.length+c*as.length<=10000000->∀{Q},(∀us p l,bg σ B.T τ (c*as.length) p l->aG (dD l) as us->Q (us.map iv) p)->
  bK (aH n) (X.call 85 1263 [(X.v 257),(X.v 277),(X.v 94)]) (.one 94) none (.seq items) L (as.map aE) Q σ:=by
 induction as with
 |nil=>exactλJ J J h J J q=>q [] _ _ (bg.refl h.tab) trivial
 |cons a as z=>
  intro x σ τ h hz Q q;rw[abt,Nat.mul_succ,abE (c*as.length)] at hz q;refine aa (sl Y e1) (aa (sl Y e2) (aa se ?_));have s:=x a (.head _) n σ τ A h (kh hz) (Q:=kD _ Q) λi w u b r=>z (λy m=>x y (.tail _ m)) (h.dK b.o) (room hz b.len) λus j f d t=>q (i::us) j f (b.trans d) ⟨(zO.mpr r).mono d.pre,t⟩;rw[←gZ W] at s;exact s
theorem tG{k as x}(ex:lh W x=some (k,as))(u:k<4)(A:∀a∈as,eY B W N c a.kind)(z:as.length<=2)(D:∀τ us i,τ[i]?=some (.ref (k+1) us)->aG (dD τ) as us->IsT W τ x i):df B W (N+2) (c*as.length+1) x:=by
 intro n σ τ H h hz Q q;obtain⟨m,rfl⟩:=jM (k:=2) (aaS (abH ()) H);have t:∀{j},4<=j->¬(k:Int)=_:=λl e=>aby u (abC e▸l);rw[nL ex];refine fn tA Y Y (dg (t ()) (dg (t ()) (dg (t ()) (ae h.tab.tab (SM h (ae h.d_ (a5 (a:=iv (k+1)) ((dh (abB u ())).trans ?_) ⟨lm (sz (aaS z ())),L8 (by lia) Y Y as A h (kh hz) λus y w d p=>ae az ⟨lm (p.length▸sz (aaS z ())),?_⟩⟩)))))))
 .match k,u with|0,_=>rfl|1,_=>rfl|2,_=>rfl|3,_=>rfl
 .exact h9 m (d.tab.keep ai.app) Y (nK (room hz d.len)) λi f r b s=>q i r f (d.trans ⟨b.tab,ai.app.chg.trans b.chg,b.pre,b.len⟩) (D f us i s (p.imp λJ J=>dD.mono b.pre))
theorem Uj{i}(a:i<5):df B W 1 0 (.lf (.par i)):=by
 intro n σ τ f h hz Q q;obtain⟨m,rfl⟩:=jM f;obtain⟨l,d,b⟩:=h.params;exact fn tA Y Y (HE h (ae d (a5 ((dh (abB a ())).trans (abm.trans (aaU _ (b i a)))) (q _ σ τ (bg.refl h.tab) (h.par i a)))))
theorem Bd(M:W.r0.length<=100)(L:W.r1.length<=100){k as x}(ex:lh W x=some (k,as))(H:k=4\/k=6)(lk:iZ W x)(y:∀m∈bW W x,eY B W N c m.2)(asc:bA ((bW W x).map λm=>m.1.nm))(D:∀m∈bW W x,m.1.nm<128)(u:(bW W x).length<=3)(z:∀τ ps i,τ[i]?=some (.obj ps)->aG (dC W τ) (bW W x) ps->IsT W τ x i):df B W (N+5) (c*3+1) x:=by
 intro n σ τ A h hz Q q;obtain⟨m,rfl⟩:=jM (k:=5) (aaS (abH ()) A);have w:=abI (abz c u);have fin:C (m+4) 1202 [.loc B.A.w,tE W x] (λv=>C (m+4) 1253 [.loc B.T.tab,.loc B.A.w,v] Q) σ:=
  qH (m+1) h.w lk M L λt l b ge j=>y9 y asc D (aaS u ()) (by lia) (h.keep b) j (λs=>(aa5.mp s).elim (λe=>aby (aD h.tab.rows) (e▸ge)) λs=>aby (aD h.tab.index) (aaT.mp s▸ge)) (aaS (aa3 w _) hz) λi ps d a f p r=>q i d a (((sD (c:=0) h.tab b).trans f).le ((ab5 _).symm▸w)) (z a ps i p r)
 rw[nL ex] at fin⊢;rcases H with rfl|rfl<;>exact fn tA Y Y fin
end
section
variable{σ:Sg}{Q:PX}
theorem VM{a l:Nat}(c:l<65)(d:0<l):¬((l:Int)=0\/Builtin.divisionGoesByPylong (a) (l)=true):=λh=>h.elim (λe=>Nat.ne_of_gt d (abC e)) λe=>Bool.noConfusion ((aaU (λb=>b&&decide _) ((by decide+kernel:∀l:Nat,l<65->decide ((if((l:Int)==0)=true then 0 else((l:Int)).natAbs.log2/30+1)>300)=false) l c)).symm.trans e)
theorem eE(n){d m k nums}(h:bL σ d m nums)(z:0<k)(q:∀j b,j<k->bL b d m nums->ag [d] σ b->Q (iv j) b):C (n+1) 1168 [.loc d,iv k] Q σ:=by
 obtain⟨p,⟨a,t⟩,D,A,r⟩:=h;have s:=List.length_pos_iff.mpr A;refine fn EJ Y Y (ae t (ae t ⟨dt Y,eB (show AO.list _=.list [iv (a+1),.loc m] from Y) ?_⟩));have l:(σ.set d _)[d]?=some (.list [iv (a+1),.loc m]):=ba t;have i:(σ.set d (.list [iv (a+1),.loc m]))[m]?=some _:=a4 D p;have c:ag [d] σ (σ.set d (.list [iv (a+1),.loc m])):=ag.set (.head _);revert l i c;generalize σ.set d _=f;intro l i c;have y:=Nat.mod_lt a s;obtain⟨x,B⟩:=gT y;have u:(nums.map iv).length<2^62:=aaZ (lm r) ();have el:(((nums.map iv).length))=(nums.length):=by rw[aa1]
 have w:∀{k:Nat},0<k->¬(k:Int)=0:=λh e=>Nat.ne_of_gt h (abC e);refine ae l (ae l (ae i ⟨u,a5 (aa_ (el▸w s)) (ae i (a5 (a:=iv x) ?_ (ae l (ae i ⟨u,a5 (aa_ (el▸VM (Nat.lt_succ_of_le r) s)) (a5 (aa_ (w z)) ?_)⟩))))⟩))
 .rw[el,GV];exact(dh (abB (abb y r) ())).trans (abm.trans (aaU _ B))
 .rw[el,(Int.ofNat_fdiv a nums.length).symm,show((x)+31*(_:Int)).fmod (k)=_ from GV];exact q _ f (Nat.mod_lt _ z) ⟨p,⟨a+1,l⟩,i,A,r⟩ c
theorem xi(c:j<16)(q:∀a,a∈iI->Q (aE a) σ):getM o3 (iv j) Q σ:=by
 rw[Sx];obtain⟨x,b⟩:=gT (l:=iI) c;exact a5 ((dh (abB c ())).trans (abm.trans (aaU _ b))) (q x (abk b))
theorem tK(n)(e1:L.lookup 105=some (iv (iW b)))(e2:L.lookup 261=some (.loc t))(g:σ[t]?=some (.list r))(z:r.length<=1)(q:Q (.tup [iv (iW b),.tup r]) σ):bH (aH n) (sY.body.drop 3) L (cL Q) σ:=
 aa e1 (aa e2 (ae g ⟨sz (aaS z ()),q⟩))
theorem vc(n)(a:b<256)(q:∀L,L.lookup 105=some (iv (iW b))->L.lookup 261=some (.loc σ.length)->bU (aH n) (.many [153,96]) II (.seq l) l L (kS (bH (aH n) (sY.body.drop 3)) (cL Q)) (σ++[.list []])):C (n+1) 1178 [.tup [iv b,.tup l]] Q σ:=by
 have x:=J7 a;unfold iW at q;refine fn sY Y Y (cd (λz=>q _ ?_ rfl) λz=>q _ ?_ rfl)
 .rw[aa_ λh=>h (bz.mp z)];exact aaU (λz=>some _) x.2
 .rw[abn λh=>z (bz.mpr h)];exact aaU (λz=>some (AV.int z)) x.1
theorem AL(n)(c:b<256)(q:∀a,ai σ a->Q (aE (iW b,none)) a):C (n+1) 1178 [aE (b,none)] Q σ:=
 vc n (l:=[]) c λL e1 e2=>tK n e1 e2 az (aa9 _) (q _ .app)
theorem D5(n)(i:b<256)(h:∀{σ}{Q:PX},(∀a,ai σ a->Q (aE r) a)->C n 1178 [aE c] Q σ)(q:∀a,ai σ a->Q (.tup [iv (iW b),.tup [.tup [iv 2,.tup [aE r]]]]) a):C (n+1) 1178 [.tup [iv b,.tup [.tup [iv 2,.tup [aE c]]]]] Q σ:=
 vc n i λL e1 e2=>aa (sl Y (sl Y e2)) (ae az (aa (sl Y se) (aa (sl Y se) (aa se ⟨dt Y,aa se (h λf d=>ae az ⟨dt Y,ae (ay (ai.get d az)) ⟨aa9 _,tK n (sl Y (sl Y e1)) (sl Y (sl Y e2)) (ba (ay (ai.get d az))) (dt Y) (q _ (ai.set ((ai.app.trans d).trans .app) (aaX _)))⟩⟩)⟩))))
theorem PI(n x):sW x->∀{b},b<256->∀{σ Q},(∀d,ai σ d->Q (aE (t5 (b,some x))) d)->C (n+rT x+1) 1178 [aE (b,some x)] Q σ:=by
 induction x with
 |par=>exactλh=>h.elim
 |i3=>exactλJ b a σ Q q=>vc n a λL e1 e2=>aa (sl Y (sl Y e2)) (ae az (aa (sl Y se) (aa (sl Y se) (ae az ⟨aa9 _,tK n (sl Y (sl Y e1)) (sl Y (sl Y e2)) (ba az) (dt Y) (q _ (ai.set .app (aaX _)))⟩))))
 |i4=>exactλJ b a σ Q q=>vc n a λL e1 e2=>aa (sl Y (sl Y e2)) (ae az (aa (sl Y se) (aa (sl Y se) (ae az ⟨aa9 _,tK n (sl Y (sl Y e1)) (sl Y (sl Y e2)) (ba az) (dt Y) (q _ (ai.set .app (aaX _)))⟩))))
 |a9 c=>exactλh b a σ Q=>D5 (n+1) a (AL n h)
 |aY c y f=>exactλh b a σ Q=>D5 _ a (f h.2 h.1)
theorem J1(f:a.1<256)(h:∀x,a.2=some x->sW x/\rT x<=5)(n)(d:6<=n)(q:∀c,ai σ c->Q (aE (t5 a)) c):C n 1178 [aE a] Q σ:=by
 obtain⟨b,_|x⟩:=a
 .obtain⟨m,rfl⟩:=jM (k:=1) (aaS () d);exact AL m f q
 .obtain⟨j,i⟩:=h x Y;obtain⟨m,rfl⟩:=jM (aaS (abI i) d);exact PI m x j f q
theorem Yg(n)(N:8<=n)(h:bL σ d m nums)(D:a∈iI)(q:∀b r,b∈a7->bL r d m nums->ag [d] σ r->Q (aE b) r):C n 1185 [.loc d,aE a] Q σ:=by
 obtain⟨k,rfl⟩:=jM N;obtain⟨L,f2,f3,z,U,T⟩:=wi a D;have H:=TO a D;refine fn C8 Y Y (eE (k+6) h () λj A hj s u=>eE (k+6) s () λj2 f w l t=>xi w λo M=>?_);have p:=u.trans t;refine cd (λJ=>?_) λJ=>cd (λJ=>q a f f2 l p) λJ=>cd (λJ=>q o f (wi o M).2.1 l p) λJ=>J1 L (λx e=>(H x e).1) (k+7) (abH ()) λc i=>q _ c f3 (l.keep i) (p.trans i.chg);refine ue (k+6) (W:=w0) (b:=(16,[])) (gZ w0 a▸az) (jh ⟨L,λy e=>(H y e).2⟩) ⟨dt Y,nofun⟩ (aaS (gU _) ()) (dt Y) λc i=>?_;have B:ai f c:=ai.app.trans i;rw[T,←gZ];exact(q z c U (l.keep B) (p.trans B.chg))
end
end W
theorem ag.new(c:ag F b σ)(h:b.length<=a):ag F b (σ.set a o):=⟨aaS c.1 (aa7 List.length_set.symm),λn d o' e=>a4 (c.get e d) λw=>aby (abg.mp e).1 (w▸h)⟩
theorem ag.add(c:ag F a σ):ag F a (σ++x):=c.trans ag.app
namespace W
section
variable{σ bc:Sg}{Q:PX}{d m:Nat}{nums:List Nat}
theorem lO{l:List Nat}{a}(e:a=l.map iv){j}(c:j<l.length)(hz:decide (l.length<1000)=true)(q:∀x∈l,Q (iv x) σ):getM (.tup a) (iv j) Q σ:=by
 subst e;obtain⟨x,b⟩:=gT c;exact a5 ((dh (abB (abB c (dt hz)) ())).trans (abm.trans (aaU _ b))) (q x (abk b))
theorem xD{j:Nat}(l:j<3)(q:∀f,bA f->(∀c∈f,c=110\/c=118\/c=119)->0<f.length->f.length<=3->(∀{i},i (.seq (f.map λc=>.str (cj c))) σ->srcOf (.str ⟨(f).toArray⟩) i σ)->Q (.str ⟨f.toArray⟩) σ):pr (Mine.Internal.d7 (.str (Str.ofString "nvw")) .none (.int (1+(j))) .none) Q σ:=
 bR (Mine.Internal.xD l λf a b c d e=>q f a b c d λh=>bR (e h))
theorem bL.chg(h:bL σ d m nums)(c:ag F σ b)(i:d∉F)(f:m∉F):bL b d m nums:=
 ⟨h.1,h.2.1.elim λa e=>⟨a,c.get e i⟩,c.get h.2.2.1 f,h.2.2.2⟩
theorem bL.set(h:bL σ d m nums)(c:a≠d)(b:a≠m):bL (σ.set a o) d m nums:=W.bL.chg h (ag.set (.head _)) (ne1 c.symm) (ne1 b.symm)
theorem P2(n){items}{t w}(hd:t≠d)(T:t≠m){K}(s):∀{σ:Sg}{L}{ms:List Mem},L.lookup 119=some (.loc d)->L.lookup 130=some (.loc t)->L.lookup 277=some (.loc w)->bL σ d m nums->σ[t]?=some (.list (ms.map mE))->ms.length+s.length<=3->
  (∀u b f,f.map Mem.nm=s->(∀r∈f,r.ms<64)->u.lookup 119=some (.loc d)->u.lookup 130=some (.loc t)->u.lookup 277=some (.loc w)->bL b d m nums->ag [d,t] σ b->b[t]?=some (.list ((ms++f).map mE))->K .next u b)->
  bU (aH (n+1)) (.one 177) zQ (.seq items) (s.map λc=>.str (cj c)) L K σ:=by
 induction s with
 |nil=>exactλe1 e2 N h M hz q=>q _ _ [] Y nofun e1 e2 N h .refl ((abO _).symm▸M)
 |cons c s ih=>
  intro σ L ms e1 e2 N h M hz q;have zl:ms.length<=3:=aaS (aaW ..) hz;refine aa (sl Y e1) (eE n h (k:=10) () λj ek hj B H=>lO (l:=[0,4,1,2,3,5,6,7,8,9]) Y hj Y λhow J=>aa (sl Y (sl Y e1)) (eE n B (k:=8) () λj2 i kJ A D=>lO (l:=[0,0,1,2,4,32,8,0]) Y kJ Y λmk U=>?_));have z:=H.trans D;have a:=z.get M (ne1 hd);have fin:∀y,v8 (.loc t) (.tup [.str (cj c),iv how,iv mk,iv y]) (λJ=>bU (aH (n+1)) (.one 177) zQ (.seq items) (s.map λc=>.str (cj c)) (aT (aT (aT L 177 (.str (cj c))) 141 (iv how)) 169 (iv mk)) K) i:=λy=>by
   refine ae a ⟨lm (sz (aaS zl ())),ih (ms:=ms++[(⟨c,how,mk,y⟩:Mem)]) (sl Y (sl Y (sl Y e1))) (sl Y (sl Y (sl Y e2))) (sl Y (sl Y (sl Y N))) (W.bL.set A hd T) ?_ ?_ λu b f g1 g2 g3 g4 g5 g6 g7 g8=>?_⟩
   .rw[abA];exact ba a
   .rw[aa4,abu,abE [_].length];exact hz
   .exact q u b (⟨c,how,mk,y⟩::f) (aaU _ g1) (aa'.mpr ⟨(():∀x∈[0,0,1,2,4,32,8,0],x<64) mk U,g2⟩) g3 g4 g5 g6 ((z.mono λJ m=>aaT.mp m▸.head _).trans ((ag.set (.tail _ (.head _))).trans g7)) ((List.append_cons ms ⟨c,how,mk,y⟩ f).symm▸g8)
  exact aa (sl Y (sl Y (sl Y e2))) (ae a (aa (sl Y (sl Y se)) (aa (sl Y se) (aa se (aa se (cd (p:=(mk:Int)=(8:Nat)) (λJ=>fin 1) λJ=>fin 0))))))
theorem Xj(n)(e1:L.lookup 119=some (.loc d))(l):∀{σ},bL σ d m nums->∀{Q},(∀(vs:List Nat)b,vs.length=l.length->bL b d m nums->ag [d] σ b->Q (vs.map iv) b)->bK (aH (n+1)) (X.call 67 1168 [(X.v 119),(X.int 5)]) (.one 142) none (.seq items) L l Q σ:=by
 induction l with
 |nil=>exactλh J q=>q [] _ Y h .refl
 |cons a l t=>exactλh Q q=>aa (sl Y e1) (eE n h () λj s u i r=>t i λvs c e f p=>q (j::vs) c (aaU _ e) f (r.trans p))
theorem Xm(n)(h:bL σ d m nums)(c:ag [d] bc σ){w t u rw s}{l l':List Mem}{L:Loc}(hm:m<bc.length)(hd:d<bc.length)
  (hw:σ[w]?=some (.dict .str [(.str "n",iv s),(.str "rows",.loc rw)]))(FZ:σ[rw]?=some (.list [.loc t,.loc u]))(ht:σ[t]?=some (.list (l.map mE)))(hu:σ[u]?=some (.list (l'.map mE)))(f:bc.length<=w)(kr:bc.length<=t)(oA:bc.length<=u)(vf:bc.length<=rw)(hn:s=1\/s=2)(asc:bA (l.map Mem.nm))(hl:0<l.length/\l.length<=3)(nm:∀m∈l,m.nm=110\/m.nm=118\/m.nm=119)(Xy:bA (l'.map Mem.nm))(v_:0<l'.length/\l'.length<=3)(DX:∀m∈l',m.nm=110\/m.nm=118\/m.nm=119)
  (M:L.lookup 119=some (.loc d))(H:L.lookup 277=some (.loc w))(q:∀A sg W aj,nU bc A sg W aj->bL aj d m nums->ag [d] bc aj->Q (.loc A.w) aj):
  bH (aH (n+1)) (lP.body.drop 11) L (cL Q) σ:=by
 have nd:∀{a:Nat},bc.length<=a->a∉[d]:=λh=>ne1 λe=>aby hd (e▸h)
 have wd:w≠d:=λe=>aby hd (e▸f)
 have wm:w≠m:=λe=>aby hm (e▸f)
 have nl:∀{σ:Sg}{a:Nat}{l}{es},σ[a]?=some (.list l)->σ[w]?=some (.dict .str es)->w≠a:=λe e' q=>by rw[q,e] at e';cases e'
 have vx:∀{σ:Sg}{a:Nat}{l}{es}{o:AO},σ[a]?=some (.list l)->σ[w]?=some (.dict .str es)->(σ.set w o)[a]?=some (.list l):=λe e'=>a4 e (nl e e')
 refine aa M (eE n h (k:=4) () λj ek hj f7 c₁=>lO (l:=[0,2,1,0]) Y hj Y λhow OE=>aa M (eE n f7 (k:=4) () λj2 b kJ j0 c₂=>lO (l:=[0,1,2,0]) Y kJ Y λmk J=>?_))
 have Bw:=c₁.trans c₂
 have cc:=c.trans Bw
 have g2:∀{a:Nat}{o:AO},bc.length<=a->σ[a]?=some o->b[a]?=some o:=λh e=>Bw.get e (nd h)
 have DW:=g2 f hw
 have Jr:(b++[AO.list [.tup [.str (Str.ofString "z"),iv how,iv mk,.int 0]]])[b.length]?=some (.list ([(⟨122,how,mk,0⟩:Mem)].map mE)):=az
 have B:=ay (x:=[AO.list [.tup [.str (Str.ofString "z"),iv how,iv mk,.int 0]]]) DW
 refine aa H (ae B ⟨⟨Y,dt Y⟩,eB (show AO.dict .str (aM [(.str "n",iv s),(.str "rows",.loc rw)] (.str (Str.ofString "box")) (.loc b.length))=.dict .str [(.str "n",iv s),(.str "rows",.loc rw),(.str "box",.loc b.length)] from Y) ?_⟩)
 have z:=ba (o':=.dict .str [(.str "n",iv s),(.str "rows",.loc rw),(.str "box",.loc b.length)]) B
 have jK:=W.bL.set (o:=.dict .str [(.str "n",iv s),(.str "rows",.loc rw),(.str "box",.loc b.length)]) (j0.keep (ai.app (x:=[AO.list [.tup [.str (Str.ofString "z"),iv how,iv mk,.int 0]]]))) wd wm
 refine aa M (eE n jK (k:=2) () λi U J2 nR r=>aa H (ae (r.get z (nd f)) ⟨⟨Y,dt Y⟩,eB (show AO.dict .str (aM [(.str "n",iv s),(.str "rows",.loc rw),(.str "box",.loc b.length)] (.str (Str.ofString "self")) (iv i))=.dict .str [(.str "n",iv s),(.str "rows",.loc rw),(.str "box",.loc b.length),(.str "self",iv i)] from Y) ?_⟩))
 have y:=ba (o':=.dict .str [(.str "n",iv s),(.str "rows",.loc rw),(.str "box",.loc b.length),(.str "self",iv i)]) (r.get z (nd f))
 have T:=W.bL.set (o:=.dict .str [(.str "n",iv s),(.str "rows",.loc rw),(.str "box",.loc b.length),(.str "self",iv i)]) nR wd wm
 have z7:=((cc.add (x:=[AO.list [.tup [.str (Str.ofString "z"),iv how,iv mk,.int 0]]])).new (o:=.dict .str [(.str "n",iv s),(.str "rows",.loc rw),(.str "box",.loc b.length)]) f).trans r|>.new (o:=.dict .str [(.str "n",iv s),(.str "rows",.loc rw),(.str "box",.loc b.length),(.str "self",iv i)]) f
 have nb:bc.length<=b.length:=cc.1
 have k6:∀{a:Nat}{l},bc.length<=a->(b++[AO.list [.tup [.str (Str.ofString "z"),iv how,iv mk,.int 0]]])[a]?=some (.list l)->(U.set w (.dict .str [(.str "n",iv s),(.str "rows",.loc rw),(.str "box",.loc b.length),(.str "self",iv i)]))[a]?=some (.list l):=λha e=>vx (r.get (vx e B) (nd ha)) (r.get z (nd f))
 have b6:=k6 nb Jr
 have r6:=k6 vf (ay (g2 vf FZ))
 have t6:=k6 kr (ay (g2 kr ht))
 have u6:=k6 oA (ay (g2 oA hu))
 clear DW Jr B z jK nR f7 j0 r k6 g2 FZ ht hu hw h c
 revert y T z7 b6 r6 t6 u6
 generalize U.set w _=pO
 intro y T z7 b6 r6 t6 u6
 refine⟨dt Y,dt Y,Xj n (er Y M) _ T λvs p ev vz N=>aa H (ae (ay (N.get y (nd f))) ⟨⟨Y,dt Y⟩,eB (show AO.dict .str (aM [(.str "n",iv s),(.str "rows",.loc rw),(.str "box",.loc b.length),(.str "self",iv i)] (.str (Str.ofString "signs")) (.loc p.length))=.dict .str [(.str "n",iv s),(.str "rows",.loc rw),(.str "box",.loc b.length),(.str "self",iv i),(.str "signs",.loc p.length)] from Y) (aa H ?_)⟩)⟩
 have D:=ay (x:=[AO.list (vs.map iv)]) (N.get y (nd f))
 have Bl:=ba (o':=.dict .str [(.str "n",iv s),(.str "rows",.loc rw),(.str "box",.loc b.length),(.str "self",iv i),(.str "signs",.loc p.length)]) D
 have k9:=λ{a:Nat}{l}(ha)(e:pO[a]?=some (.list l))=>vx (o:=.dict .str [(.str "n",iv s),(.str "rows",.loc rw),(.str "box",.loc b.length),(.str "self",iv i),(.str "signs",.loc p.length)]) (ay (x:=[AO.list (vs.map iv)]) (N.get e (nd ha))) D
 have c7:=z7.trans N
 refine q ⟨w,rw,t,u,b.length⟩ p.length ⟨s,l,l',⟨122,how,mk,0⟩,i,[]⟩ _ ⟨⟨⟨_,Bl,Y,Y,Y,Y⟩,k9 vf r6,k9 kr t6,k9 oA u6,k9 nb b6⟩,hn,J2,hl,v_,nm,DX,asc,Xy,Y,(():∀x∈[0,2,1,0],x<=2) how OE,⟨_,Bl,Y,dt Y⟩,⟨vs,vx az D,ev⟩,λa m=>?_⟩ (W.bL.set (vz.keep ai.app) wd wm) (c7.add.new f)
 simp only[aa5,abo,or_false] at m
 rcases m with rfl|rfl|rfl|rfl|rfl|rfl
 .exact f
 .exact vf
 .exact kr
 .exact oA
 .exact nb
 .exact c7.1
end
section
variable{σ bc:Sg}{Q:PX}{d m:Nat}{nums:List Nat}
theorem nx{k K L v}(h:k L K σ):kEx L (kS k K) v σ:=h
theorem Zm(n:Nat)(h:bL σ d m nums)(c:ag [d] bc σ){w t r p:Nat}{l l':List Mem}{L:Loc}(y:m<bc.length)(z:d<bc.length)
  (D:σ[w]?=some (.dict .str [(.str "n",iv p)]))(H:σ[t]?=some (.list (l.map mE)))(gr:σ[r]?=some (.list (l'.map mE)))(i:bc.length<=w)(u:bc.length<=t)(M:bc.length<=r)(N:p=1\/p=2)(asc:bA (l.map Mem.nm))(T:0<l.length/\l.length<=3)(nm:∀m∈l,m.nm=110\/m.nm=118\/m.nm=119)(a1:bA (l'.map Mem.nm))(a2:0<l'.length/\l'.length<=3)(U:∀m∈l',m.nm=110\/m.nm=118\/m.nm=119)
  (s:L.lookup 119=some (.loc d))(j:L.lookup 277=some (.loc w))(q:∀A B W f,nU bc A B W f->bL f d m nums->ag [d] bc f->Q (.loc A.w) f):
  w9 (wg (X.v 277) (X.str "rows") (aH (n+1)) L (kS (bH (aH (n+1)) (lP.body.drop 11)) (cL Q))) [.loc t,.loc r] σ:=by
 have nd:∀{a:Nat},bc.length<=a->a≠d/\a≠m:=λh=>⟨λe=>aby z (e▸h),λe=>aby y (e▸h)⟩
 have b:=ay (x:=[AO.list [AV.loc t,AV.loc r]]) D
 have nl:∀{a:Nat}{l:List AV}{o:AO},(σ++[AO.list [AV.loc t,AV.loc r]])[a]?=some (.list l)->((σ++[AO.list [AV.loc t,AV.loc r]]).set w o)[a]?=some (.list l):=λe=>a4 e λq=>by rw[←q,b] at e;cases e
 refine aa j (ae b ⟨⟨Y,dt Y⟩,eB (show AO.dict .str (aM [(.str "n",iv p)] (.str (Str.ofString "rows")) (.loc σ.length))=.dict .str [(.str "n",iv p),(.str "rows",.loc σ.length)] from Y) ?_⟩)
 exact nx (Xm n (W.bL.set (h.keep .app) (nd i).1 (nd i).2) (c.add.new i) y z (ba b) (nl az) (nl (ay H)) (nl (ay gr)) i u M c.1 N asc T nm a1 a2 U s j q)
theorem RW{i:Nat}(h:i<=3):(i:Int)<2^62:=by lia
theorem Q8(n)(h:bL σ d m nums)(c:ag [d] bc σ){w t u nn i}{l:List Mem}{m' mi:Mem}{v112 L}(hm:m<bc.length)(hd:d<bc.length)
  (hw:σ[w]?=some (.dict .str [(.str "n",iv nn)]))(ht:σ[t]?=some (.list (l.map mE)))(hu:σ[u]?=some (.list (l.map mE)))(zR:bc.length<=w)(kr:bc.length<=t)(H:bc.length<=u)(tu:t≠u)(hn:nn=1\/nn=2)(vm:l[i]?=some mi)(asc:bA (l.map Mem.nm))(hl:0<l.length/\l.length<=3)(nm:∀m∈l,m.nm=110\/m.nm=118\/m.nm=119)
  (q:∀A sg W D,nU bc A sg W D->bL D d m nums->ag [d] bc D->Q (.loc A.w) D)(q9:m'.nm=mi.nm)
  (N8:L.lookup 119=some (.loc d))(iz:L.lookup 277=some (.loc w))(Wl:L.lookup 130=some (.loc t))(j:L.lookup 236=some (.loc u))(O5:L.lookup 112=some (iv v112))(BE:L.lookup 101=some (iv i))(T:L.lookup 177=some (.str (cj mi.nm)))(Jl:L.lookup 141=some (iv m'.how))(U:L.lookup 169=some (iv m'.ms))(N:L.lookup 196=some (iv m'.ow)):
  bH (aH (n+1)) (lP.body.drop 9) L (cL Q) σ:=by
 have ES:=aD vm
 have nd:∀{a},bc.length<=a->a≠d/\a≠m:=λh=>⟨λe=>aby hd (e▸h),λe=>aby hm (e▸h)⟩
 have wu:u≠w:=λe=>by rw[←e,hu] at hw;cases hw
 have es:(l.map mE).set ((i:Nat):Int).toNat (.tup [.str (cj mi.nm),iv m'.how,iv m'.ms,iv m'.ow])=(l.set i m').map mE:=by
  rw[List.map_set,←q9];rfl
 have i3:i<3:=abb ES hl.2
 refine aa T (aa Jl (aa U (aa N (aa j (aa BE (ae hu ⟨⟨Int.natCast_nonneg i,Int.ofNat_lt.mpr ((aa1 (as:=l) mE).symm▸ES),RW (abG i3)⟩,eB (aaU AO.list es) ?_⟩))))))
 have b:=ba (o':=.list ((l.set i m').map mE)) hu
 have s:=a4 (o':=.list ((l.set i m').map mE)) hw wu
 have x:=a4 (o':=.list ((l.set i m').map mE)) ht tu.symm
 have B:=W.bL.set (o:=.list ((l.set i m').map mE)) h (nd H).1 (nd H).2
 have z:=c.new (o:=.list ((l.set i m').map mE)) H
 have en:=TQ asc vm q9
 have Bg:bA ((l.set i m').map Mem.nm):=en▸asc
 have ll:(l.set i m').length=l.length:=List.length_set
 have M:0<(l.set i m').length/\(l.set i m').length<=3:=ll.symm▸hl
 have E0:∀m∈l.set i m',m.nm=110\/m.nm=118\/m.nm=119:=λm mm=>by
  obtain⟨r,mr,e⟩:=aa6.mp (en▸aa6.mpr ⟨m,mm,Y⟩);exact e▸nm r mr
 clear h c hw ht hu es T Jl U N BE
 revert b s x B z
 generalize σ.set u _=f
 intro b s x B z
 have fin:=λ(r:Nat)(l':List Mem)(fi:Sg)(y:ai f fi)(hr:bc.length<=r)(gr)(a1:bA (l'.map Mem.nm))(a2 a3)=>Zm n (B.keep y) (z.trans y.chg) hm hd (ai.get y s) (ai.get y x) gr zR kr hr hn asc hl nm a1 a2 a3 N8 iz q
 have f0:=fin u _ f .refl H b Bg M E0
 refine aa Wl (aa O5 (cd (p:=(v112:Int)=(6:Nat)) (λJ=>aa j (ae b ⟨aaZ (lm M.2) (),cd (p:=((((l.set i m').map mE).length:Nat):Int)>(1:Nat)) (λq1=>aa j (bR (U2 b (Int.ofNat_lt.mp q1) (lm M.2) ?_))) λJ=>aa j f0⟩)) λJ=>aa j f0))
 rw[aa1] at q1
 have g:=az (σ:=f) (o:=.list ((l.set i m').map mE).tail)
 rw[←List.map_tail] at g⊢
 exact fin f.length (l.set i m').tail _ .app z.1 g (List.map_tail▸List.Pairwise.tail Bg) ⟨List.length_tail▸Nat.sub_pos_of_lt (Int.ofNat_lt.mp q1),List.length_tail▸aaS (Nat.sub_le ..) M.2⟩ (λm mm=>E0 m (List.mem_of_mem_tail mm))
theorem Ky(n)(h:bL σ d m nums)(c:ag [d] bc σ){w t u nn i}{l:List Mem}{r v112 U L}(hm:m<bc.length)(hd:d<bc.length)
  (hw:σ[w]?=some (.dict .str [(.str "n",iv nn)]))(ht:σ[t]?=some (.list (l.map mE)))(hu:σ[u]?=some (.list (l.map mE)))(zR:bc.length<=w)(kr:bc.length<=t)(oA:bc.length<=u)(tu:t≠u)(hn:nn=1\/nn=2)(vm:l[i]?=some r)(asc:bA (l.map Mem.nm))(hl:0<l.length/\l.length<=3)(nm:∀m∈l,m.nm=110\/m.nm=118\/m.nm=119)(T:r.ms<64)
  (q:∀A sg W N,nU bc A sg W N->bL N d m nums->ag [d] bc N->Q (.loc A.w) N)
  (D:L.lookup 119=some (.loc d))(p:L.lookup 277=some (.loc w))(B:L.lookup 130=some (.loc t))(s:L.lookup 236=some (.loc u))(a:L.lookup 112=some (iv v112))(H:L.lookup 101=some (iv i))(OV:L.lookup 284=some (iv U))(y:L.lookup 177=some (.str (cj r.nm)))(M:L.lookup 141=some (iv r.how))(f:L.lookup 169=some (iv r.ms))(x:L.lookup 196=some (iv r.ow)):
  bH (aH (n+1)) (lP.body.drop 8) L (cL Q) σ:=by
 have fin:=λ{L'}(m')=>Q8 n (m':=m') (L:=L') (v112:=v112) h c hm hd hw ht hu zR kr oA tu hn vm asc hl nm q
 have j:∀{b:Int}(v),b=(v:Nat)->bH (aH (n+1)) (lP.body.drop 9) (aT L 169 (.int b)) (cL Q) σ:=λv e=>e▸fin {r with ms:=v} rfl (sl Y D) (sl Y p) (sl Y B) (sl Y s) (sl Y a) (sl Y H) (sl Y y) (sl Y M) se (sl Y x)
 refine aa a (cd (λq1=>aa f (aa a (j _ ((aaU (Builtin.bitXor r.ms) q1).trans (tm T ()))))) λJ=>aa a (cd (λq1=>aa f (aa a (j _ ((aaU (Builtin.bitXor r.ms) q1).trans (tm T ()))))) λJ=>aa a (cd (λJ=>aa f (aa f (cd (λJ=>j _ (tm T (b:=4) ())) λJ=>j _ (tm T (b:=34) ())))) λJ=>aa a (cd (λJ=>aa OV ?_) λJ=>aa a (cd (λJ=>aa f (aa x ?_)) λJ=>?_)))))
 .exact fin {r with how:=U} rfl (sl Y D) (sl Y p) (sl Y B) (sl Y s) (sl Y a) (sl Y H) (sl Y y) se (sl Y f) (sl Y x)
 .exact fin {r with ms:=r.ms|||8,ow:=1+r.ow} rfl (sl Y (sl Y D)) (sl Y (sl Y p)) (sl Y (sl Y B)) (sl Y (sl Y s)) (sl Y (sl Y a)) (sl Y (sl Y H)) (sl Y (sl Y y)) (sl Y (sl Y M)) (se.trans (aaU (λz=>some (AV.int z)) (n' (b:=8)))) (sl Y (se.trans (aaU (λz=>some (AV.int z)) (Int.natCast_add 1 r.ow).symm)))
 .exact fin r Y D p B s a H y M f x
theorem SV(n)(h:bL σ d m nums)(q:∀A sg W D,nU σ A sg W D->bL D d m nums->ag [d] σ D->Q (.loc A.w) D):C (n+2) 1190 [.loc d] Q σ:=by
 have hd:=h.2.1.elim λa=>aD;have hm:=aD h.2.2.1;have nd:∀{a},σ.length<=a->a∉[d]:=λh=>ne1 λe=>aby hd (e▸h);have s:∀{a},σ.length<=a->a≠d/\a≠m:=λh=>⟨λe=>aby hd (e▸h),λe=>aby hm (e▸h)⟩;refine fn lP Y Y (eE n (h.keep (ai.app)) (k:=3) () λj fi hj j0 y=>lO (l:=[2,2,1]) Y hj Y λnn QC=>⟨y.get az (nd (aaX _)),by decide+kernel,?_⟩)
 have g3:=ba (o':=.dict .str [(.str "n",iv nn)]) (y.get (az) (nd (aaX _)));have u:=W.bL.set (o:=.dict .str [(.str "n",iv nn)]) j0 (s (aaX _)).1 (s (aaX _)).2;have b:=(ag.app.trans y).new (o:=.dict .str [(.str "n",iv nn)]) (aaX _);revert g3 u b;refineλg3 u b=>eE n (u.keep (ai.app)) (k:=3) () λj2 md kJ nR p=>xD kJ λcs asc L2 l0 l3 VN=>VN ?_;have H:=b.1;refine P2 n (s H).1 (s H).2 cs (ms:=[]) Y Y Y nR (p.get (az) (nd H)) (aaS (aa7 (ab5 _)) l3) λiM T ms em tI f c Kk Ag w g6=>?_;have N:=(aa1 _).symm.trans (aaU List.length em);have ml:=N▸l3;have c6:ag [d] σ T:=⟨aaS (b.add.trans p).1 w.1,λa ha o e=>w.get ((b.add.trans p).get e ha) λM=>(aa5.mp M).elim (λe=>ha (e▸.head _)) λM=>abN H (aaT.mp M▸aD e)⟩;refine aa c (ae g6 ⟨lm (sz (aaS ml ())),JM g6 (ms.map mE) ?_⟩);have r7:=ay (x:=[AO.list (ms.map mE)]) g6;refine aa (sl Y f) (eE n (Ag.keep (ai.app)) (k:=10) () λv112 uL J qc L=>aa (sl Y (sl Y f)) (aa (sl Y (sl Y c)) (ae (L.get r7 (nd H)) ⟨aaZ (lm ml) (),?_⟩)));rw[aa1];refine eE n qc (N▸l0) λi ux hi n_ lF=>aa (sl Y (sl Y (sl Y f))) (eE n n_ (k:=10) () λaak U J z B=>?_);have t:=(L.trans lF).trans B;obtain⟨r,hr⟩:=gT hi;refine aa (sl Y (sl Y (sl Y (sl Y c)))) (aa (sl Y se) (ae (t.get r7 (nd H)) (a5 ((dh (abB (abb hi ml) ())).trans (abm.trans (aaU _ hr))) ?_)));exact Ky n z (c6.add.trans t) hm hd (t.get (ay (w.get (p.get (ay g3) (nd (aaX _))) (λM=>(aa5.mp M).elim (s (aaX _)).1 λM=>abx (aD g3) (aaT.mp M)))) (nd (aaX _))) (t.get r7 (nd H)) (t.get (az) (nd c6.1)) (aaX _) H c6.1 (abx (aD g6)) ((():∀x∈[2,2,1],x=1\/x=2) nn QC) hr (em▸asc) ⟨N▸l0,ml⟩ (λx mx=>L2 x.nm (em▸aa6.mpr ⟨x,mx,Y⟩)) (tI r (abk hr)) q
  (sl Y (sl Y (sl Y (sl Y (sl Y (sl Y (sl Y (sl Y f)))))))) (sl Y (sl Y (sl Y (sl Y (sl Y (sl Y (sl Y (sl Y Kk)))))))) (sl Y (sl Y (sl Y (sl Y (sl Y (sl Y (sl Y (sl Y c)))))))) (sl Y (sl Y (sl Y (sl Y (sl Y (sl Y (sl Y se))))))) (sl Y (sl Y (sl Y (sl Y (sl Y (sl Y se)))))) (sl Y (sl Y (sl Y (sl Y (sl Y se))))) (sl Y (sl Y (sl Y (sl Y se)))) (sl Y (sl Y (sl Y se))) (sl Y (sl Y se)) (sl Y se) se
end
section
variable{σ:Sg}{Q:PX}{T:TH}{τ:List Row}
theorem Qj(n)(e1:L.lookup 257=some (.loc T.tab))(ne:T.tab≠T.decls/\T.rows≠T.decls/\T.index≠T.decls)(l):∀{σ ds},Tab σ T τ->σ[T.decls]?=some (.list ds)->ds.length+l.length<=100->∀{Q},
  (∀(as:List Nat)b,as.length=l.length->ag [T.decls] σ b->b[T.decls]?=some (.list (ds++as.map .loc))->(∀i a,as[i]?=some a->σ.length<=a/\fJ b a (ds.length+i))->as.Nodup->Q (as.map .loc) b)->
  bK (aH (n+3)) (X.call 179 244 [(X.v 257),(X.int 2),(X.str "D")]) (.one 153) none (.seq items) L l Q σ:=by
 induction l with
 |nil=>exactλt u hz Q q=>q [] _ Y .refl ((abO _).symm▸u) nofun ab6
 |cons x l B=>
  intro σ ds t u hz Q q;refine aa (sl Y e1) (RJ n t u (aaS (aaW ..) hz) λw h d s p=>?_);refine B (t.chg h (ne1 ne.1) (ne1 ne.2.1) (ne1 ne.2.2)) s (aa4 (as:=ds)▸(aaS (aa7 (Nat.succ_add_eq_add_succ ..)) hz)) λas j A f r c nd=>q _ j (aaU _ A) (h.trans f) (r.trans (aaU (λz=>some _) (List.append_assoc ..))) (λi a e=>?_) (abv.mpr ⟨λm=>?_,nd⟩)
  .cases i with
   |zero=>
    cases e
    exact⟨aaX _,p.chg f (ne1 (Nat.ne_of_gt (aD u)))⟩
   |succ i=>
    obtain⟨D,y⟩:=c i a e;rw[aa4,abu,abE [_].length] at y;exact⟨abG (abb d D),y⟩
  .obtain⟨i,e⟩:=List.mem_iff_getElem?.mp m;exact aby d (c i _ e).1
theorem V_(hs:σ[src]?=some (.list all))(as:List Nat):∀{k},(∀i a,as[i]?=some a->fJ σ a (k+i))->∀{Q},Q ((List.range' k as.length).map iv) σ->
  bK d (X.attr (X.v 120) 125) (.one 120) none (.loc src all) L (as.map .loc) Q σ:=by
 induction as with
 |nil=>exactλJ J q=>⟨hs,q⟩
 |cons a as c=>
  intro k h Q q;obtain⟨fs,e,_,e2,_⟩:=h 0 a Y;exact⟨hs,aa se (ae e (a5 (ve Y e2 Y) (c (λi b e=>(abT k i 1▸h (i+1) b e)) q)))⟩
theorem Uv(n)(e1:L.lookup 257=some (.loc T.tab))(ne:[T.tab,T.rows,T.index,T.bounds,T.defaults,T.names].Nodup)(l):∀{σ τ bs fs ns},Tab σ T τ->σ[T.bounds]?=some (.list bs)->σ[T.defaults]?=some (.list fs)->σ[T.names]?=some (.list ns)->bs.length+l.length<=100->fs.length+l.length<=100->ns.length+l.length<=100->τ.length+l.length<=1000->∀{Q},
  (∀(is:List Nat)f c,is.length=l.length->Tab f T c->τ<+:c->c.length<=τ.length+l.length->(∀i a,is[i]?=some a->c[a]?=some (Row.par (bs.length+i)))->ag [T.rows,T.index,T.bounds,T.defaults,T.names] σ f->Q (is.map iv) f)->
  bK (aH (n+2)) (X.call 180 237 [(X.v 257),(X.str "T")]) (.one 142) none (.seq items) L l Q σ:=by
 induction l with
 |nil=>exactλt hb hf hn z1 z2 z3 z4 Q q=>q [] _ _ Y t (abp _) (aaX _) nofun .refl
 |cons x l ih=>
  intro σ τ bs fs ns t hb hf hn z1 z2 z3 z4 Q q;have sn:∀{xs}{y:AV},xs.length+(x::l).length<=100->(xs++[y]).length+l.length<=100:=λh=>by rw[aa4];exact aaS (aa7 (Nat.succ_add_eq_add_succ ..)) h
  have m:∀{a},a+(x::l).length<=100->a<=100:=aaS (aaW ..);refine aa (sl Y e1) (WB n t hb hf hn ⟨m z1,m z2,m z3⟩ ne (aaS (aaW ..) z4) λi ek r w B H A U QI M D=>?_);have l4:∀{b},b<=r.length+l.length->b<=τ.length+(x::l).length:=λh=>aaS h (aaS (aa2 H _) (aa7 (Nat.succ_add_eq_add_succ ..)));refine ih w QI M D (sn z1) (sn z2) (sn z3) (aaS (l4 (aaX _)) z4) λis s p li u d l₂ z N=>q (i::is) s p (aaU _ li) u (B.trans d) (l4 l₂) (λj a e=>?_) (U.trans N);cases j with
  |zero=>
   cases e
   exact cU d A
  |succ j=>
   have:=z j a e
   rw[aa4,abu,abE [_].length] at this
   exact this
theorem Vj(e1:L.lookup 153=some (iv k))(l:List Nat):∀{Q},Q ((l.map λj=>2*k+j).map iv) σ->
  bK b (X.add (X.mul (X.int 2) (X.v 153)) (X.v 142)) (.one 142) none (.seq items) L (l.map λ(j:Nat)=>.int (j)) Q σ:=by
 induction l with
 |nil=>exactλq=>q
 |cons j l a=>exact@λQ q=>aa (sl Y e1) (aa se (a q))
theorem RN(h:cq B W σ τ)(hz:τ.length<=10000000)(hs:σ[src]?=some (.list all))(e1:L.lookup 257=some (.loc B.T.tab))(e2:L.lookup 277=some (.loc B.A.w))(l:List Nat):(∀i∈l,i<5)->∀{Q},Q (l.map iv) σ->
  bK d (X.ix (X.ix (X.attr (X.v 257) 226) (X.ix (X.ix (X.v 277) (X.str "params")) (X.v 142))) (X.int 1)) (.one 142) none (.loc src all) L (l.map iv) Q σ:=by
 induction l with
 |nil=>exactλJ J q=>⟨hs,q⟩
 |cons i l c=>
  intro b Q q;have a:=b i (.head _);exact⟨hs,aa (sl Y e1) (ae h.tab.tab (aa (sl Y e2) (HE h (aa se (h.params.elim λps p=>ae p.1 (a5 ((dh (abB a ())).trans (abm.trans (aaU _ (p.2 i a)))) (bD h.tab (h.par i a) (aaS hz ()) (c (λj m=>b j (.tail _ m)) q))))))))⟩
theorem V8(hs:σ[src]?=some (.list all))(l):∀{Q},Q ((gj l).map aE) σ->
  bK b (X.tup [(X.int 0),(X.tup [(X.tup [(X.int 9),(X.v 142)])])]) (.one 142) none (.loc src all) L (l.map iv) Q σ:=by
 induction l with
 |nil=>exactλq=>⟨hs,q⟩
 |cons i l a=>exact@λQ q=>⟨hs,aa se (a q)⟩
theorem Ki{f src all L w b}(hs:σ[src]?=some (.list all))(s:∃es,σ[w]?=some (.dict .str es)/\aO es (.str "signs")=some (.loc b)){a:List Nat}(u:σ[b]?=some (.list (a.map iv)))(e2:L.lookup 277=some (.loc w))(l:List Nat):(∀i∈l,i<a.length/\i<100)->∀{Q},(∀vs,vs.length=l.length->Q vs σ)->
  bK f (X.ix (X.ix (X.v 277) (X.str "signs")) (X.v 142)) (.one 142) none (.loc src all) L (l.map iv) Q σ:=by
 induction l with
 |nil=>exactλJ J q=>⟨hs,q [] Y⟩
 |cons i l p=>
  intro c Q q;have d:=c i (.head _);obtain⟨x,r⟩:=gT d.1;exact⟨hs,aa (sl Y e2) (s.elim λes h=>ae h.1 ⟨Y,a5 h.2 (aa se (ae u (a5 ((dh (abB d.2 ())).trans (abm.trans (aaU _ r))) (p (λj m=>c j (.tail _ m)) λvs t=>q (_) (aaU _ t)))))⟩)⟩
end
section
variable{B:BH}{W:World}{σ:Sg}{τ:List Row}{Q:PX}
section
variable(h0:W.r0.length<=100)(h1:W.r1.length<=100)
include h0 h1
theorem IL(x):nY x->df B W (10*bE x+10) (100*bE x) (.lf x):=by
 induction x with
 |par i=>exactλh=>(Uj h).mono (abH ()) (aa9 _)
 |i3=>exactλJ=>(tG (N:=0) (c:=0) Y () nofun () λτ us i e a=>by
   cases us with
   |nil=>exact e
   |cons=>exact a.elim).mono () ()
 |i4=>
  refineλJ=>(Bd (x:=.lf .i4) h0 h1 (N:=7) (c:=4) Y (.inl Y) ⟨⟨4,[],Y,nofun,λJ=>absurd Y⟩,nofun⟩ (λm d=>aaT.mp d▸((qz (N:=0) (c:=0) CC () nofun).mono () ())) (List.pairwise_singleton ..) (λm d=>aaT.mp d▸()) (():1<=3) λτ ps i e a=>?_).mono () ();cases ps with
  |nil=>exact a.elim
  |cons p ps=>
   cases ps with
   |cons=>exact a.2.elim
   |nil=>
    obtain⟨nm,t,ms,s⟩:=p;obtain⟨⟨r,q,l,j⟩,_⟩:=a;cases r
    cases q
    cases l
    exact⟨t,e,Tj j⟩
 |a9 b=>
  exactλh=>(tG (x:=.lf (.a9 b)) Y () (λa m=>aaT.mp m▸((qz (N:=0) (c:=0) h (aa9 _) nofun).mono () ())) (():1<=2) λτ us i e a=>(x5 (a:=(b,none))).mpr (by
   cases us with
   |nil=>exact a.elim
   |cons u us=>cases us with
    |nil=>exact⟨u,e,a.1⟩
    |cons=>exact a.2.elim)).mono (():7+2<=10*1+10) (():4*1+1<=100*1)
 |aY b x f=>
  exactλh=>(tG (x:=.lf (.aY b x)) Y () (λa m=>aaT.mp m▸((GO h.1 λy m=>aaT.mp m▸f h.2).mono (aaX _) (by rw[List.length_singleton,Nat.mul_one];exact aaX _))) (():1<=2) λτ us i e a=>(x5 (a:=(b,some x))).mpr (by
   cases us with
   |nil=>exact a.elim
   |cons u us=>cases us with
    |nil=>exact⟨u,e,a.1⟩
    |cons=>exact a.2.elim)).mono (show 10*bE x+17+2<=10*(bE x+1)+10 by lia) (show(100*bE x+4)*1+1<=100*(bE x+1) by lia)
theorem uy(h:d9 a):eY B W 57 804 a.kind:=by
 refine qz (c:=400) h.1.1 (aaS (gU a) ()) λx b=>?_;obtain⟨y,e,rfl⟩:=fq b;have l:=h.2 y e;exact(IL h0 h1 y (h.1.2 y e)).mono (aaS (aa2 (abz 10 l) 10) ()) (aaS (abz 100 l) ())
theorem wh(c:k<2)(b:as.length<=2)(h:∀a∈as,d9 a):df B W 60 1609 (.own k as):=
 (tG (x:=.own k as) Y (abB c ()) (λa m=>uy h0 h1 (h a m)) b λτ us i e a=>⟨c,us,e,a⟩).mono () (abI (abz 804 b))
theorem C1(hs:W.dz<2)(f:as.length<=2)(h:∀a∈as,d9 a):eY B W 67 3222 (cell W k how as):=by
 refine qz (c:=1609) (N1 h) (tW ..) λx i=>?_;rcases Cx h x i with⟨y,rfl,b,d⟩|rfl|rfl
 .exact(IL h0 h1 y b).mono (aaS (aa2 (abz 10 d) 10) ()) (aaS (abz 100 d) ())
 .exact wh h0 h1 (t7 hs) f h
 .exact wh h0 h1 (t7 hs) (by rw[List.length_reverse];exact f) λa m=>h a (List.mem_reverse.mp m)
end
theorem Uy(n m)(M:70<=m)(j:W.Ok)(T:bA (W.r0.map Mem.nm))(N:bA (W.r1.map Mem.nm))(h:cq B W σ τ)(hz:τ.length+20000<=10000000)(s:k<3)
  (q:∀b u t,bg σ B.T τ 9667 u t->iD W t k b->Q (iv b) u):C (n+3) 1202 [.loc B.A.w,.tup [iv k,.tup ((gj (aX W k)).map aE)]] (λl=>C m 1253 [.loc B.T.tab,.loc B.A.w,l] Q) σ:=by
 have lk:((cP W k).map λm=>(m,cell W k m.how (gj (aX W k)))).length<=3:=lm (j.len k)
 have l0:=aaS j.len0.2 (():3<=100)
 have l1:=aaS j.fO.2 (():3<=100)
 have lp:(gj (aX W k)).length<=2:=by rcases DZ (W:=W) s with e|e<;>rw[e]<;>decide
 have L:=abI (abz 3222 lk)
 rw[←nL (E4 s)]
 refine qH n h.w (Sl s) l0 l1 λA l d D H=>?_
 rw[Mc s] at H
 refine y9 (λm a=>?_) ?_ (λm a=>?_) (aaS lk ()) M (h.keep d) H (λa=>(aa5.mp a).elim (λe=>aby (aD h.tab.rows) (e▸D)) λa=>aby (aD h.tab.index) (aaT.mp a▸D)) (aaS (aa3 (aaS L ()) _) hz) λb ps i f w x y=>?_
 .obtain⟨r,z,rfl⟩:=aa6.mp a;exact C1 l0 l1 j.dz lp (xM s)
 .exact List.map_map▸Qo j T N
 .obtain⟨r,z,rfl⟩:=aa6.mp a;exact O4 j r z
 .refine q b i f (((sD (c:=0) h.tab d).trans w).le ((ab5 _).symm▸L)) ⟨ps,x,y.imp_mem λm a p=>IA (by
   obtain⟨r,z,rfl⟩:=aa6.mp a;exact FV (xM s))⟩
structure f9(B W)(dl:Nat)(gR:List Nat)(sg:Nat)(ss:List Nat)(σ τ):Prop where
 b:cq B W σ τ
 lS:σ[dl]?=some (.list (gR.map .loc))
 gX:σ[sg]?=some (.list (ss.map iv))
 jQ:∃es,σ[B.A.w]?=some (.dict .str es)/\aO es (.str "signs")=some (.loc sg)
variable{dl sg:Nat}{gR ss:List Nat}
theorem f9.keep(h:f9 B W dl gR sg ss σ τ)(k:ai σ a):f9 B W dl gR sg ss a τ:=⟨h.b.keep k,k.get h.lS,k.get h.gX,h.jQ.elim λes e=>⟨es,k.get e.1,e.2⟩⟩
theorem f9.dK(h:f9 B W dl gR sg ss σ τ)(o:bg σ B.T τ c aj cm)(n1:dl∉[B.T.rows,B.T.index])(n2:sg∉[B.T.rows,B.T.index]):f9 B W dl gR sg ss aj cm:=⟨h.b.dK o.o,o.chg.get h.lS n1,o.chg.get h.gX n2,h.jQ.elim λes e=>⟨es,o.chg.get e.1 (h.b.ne _ (.head _)),e.2⟩⟩
theorem qD{x a:Nat}{fs o o'}(d:σ[a]?=some (.inst 201 fs))(b:σ[x]?=some o')(c:o'≠.inst 201 fs):(σ.set a o)[x]?=some o':=a4 b λq=>c (aa0 (((q)▸b).symm.trans d))
theorem f9.set{a fs o}(h:f9 B W dl gR sg ss σ τ)(b:σ[a]?=some (.inst 201 fs)):f9 B W dl gR sg ss (σ.set a o) τ:=
 ⟨h.b.set b,qD b h.lS nofun,qD b h.gX nofun,h.jQ.elim λes e=>⟨es,qD b e.1 nofun,e.2⟩⟩
theorem oj(h:fs.length<=n):(aT fs x v).length<=n+1:=aaS Uz (abI h)
theorem yl(n)(hw:W.Ok)(a0:bA (W.r0.map Mem.nm))(a1:bA (W.r1.map Mem.nm))(h:f9 B W dl gR sg ss σ τ)(hz:τ.length+20000<=10000000)(Vr:dl∉[B.T.rows,B.T.index])(vn:sg∉[B.T.rows,B.T.index])(jt:ss.length=5)
  {k a d}(U:k<3)(ea:gR[k]?=some a)(hd:fJ σ a d)(Mw:a∉[B.T.rows,B.T.index]){L}(y:L.lookup 257=some (.loc B.T.tab))(j:L.lookup 277=some (.loc B.A.w))(t:L.lookup 121=some (.loc dl))(p:L.lookup 153=some (iv k)){K}
  (q:∀b D A L',f9 B W dl gR sg ss D A->τ<+:A->A.length<=τ.length+9667->ag [a,B.T.rows,B.T.index] σ D->eQ D a (aX W k) b->iD W A k b->L'.lookup 257=some (.loc B.T.tab)->L'.lookup 277=some (.loc B.A.w)->L'.lookup 121=some (.loc dl)->K .next L' D):
  bH (aH (n+80)) wH L K σ:=by
 have pn:(aX W k).length<=2:=oV
 have zp:=lm (f:=iv) (sz (aaS pn ()))
 have gk:iK _ (k)=some (.loc a):=(dh (abB U ())).trans (abm.trans (aaU _ ea))
 have Dv:pD W k<=2:=by unfold pD;split<;>rcases hw.n with e|e<;>lia
 have ep:=List.range_eq_range'▸LL hw.n U
 have M:=(h.keep (ai.app (x:=[AO.list ((aX W k).map iv)]))).keep (ai.app (x:=[AO.list ((aX W k).map iv)]))
 obtain⟨fs,d1,d2,d3,d4,d5⟩:=hd
 have dA:=ay (x:=[AO.list ((aX W k).map iv)]) (ay (x:=[AO.list ((aX W k).map iv)]) d1)
 have go:∀m,m=pD W k->wD (iv m) (vQ _ (.one 142) none (aH (n+80)) L (Js 206 L (kS (bH (aH (n+80)) (wH.drop 1)) K))) σ:=λm e=>by
  subst e;refine⟨aaZ Dv (),xX (aaS Dv ()) λJ=>Vj (er Y p) _ ?_⟩;rw[ep];refine aa se (ae az ⟨zp,RN (h.b.keep .app) (aaS (aaW τ.length 20000) hz) az (er Y (sl Y y)) (er Y (sl Y j)) (aX W k) (ts U) (ae az ⟨zp,aa (sl Y t) (aa (sl Y p) (ae M.lS (a5 gk (ae dA ⟨⟨Y,aaZ d2 ()⟩,?_⟩))))⟩)⟩);have s:=M.set (o:=.inst 201 (aT fs 200 (.tup ((aX W k).map iv)))) dA;have dB:=ba (o':=.inst 201 (aT fs 200 (.tup ((aX W k).map iv)))) dA;have gB:=qD (o:=.inst 201 (aT fs 200 (.tup ((aX W k).map iv)))) dA (ay (az)) nofun;have c3:ag [a,B.T.rows,B.T.index] σ ((σ++[AO.list ((aX W k).map iv)]++[AO.list ((aX W k).map iv)]).set a (.inst 201 (aT fs 200 (.tup ((aX W k).map iv))))):=(ag.app.trans ag.app).trans (ag.set (.head _));revert s dB gB c3;refineλs dB gB c3=>aa (sl Y y) (aa (sl Y j) (aa (sl Y j) (aa (sl Y p) (aa se (ae gB ⟨zp,V8 gB (aX W k) (ae az ⟨lm (sz (aaS (lm pn) ())),?_⟩)⟩)))));refine Uy (n+77) (n+80) (abH ()) hw a0 a1 (s.b.keep ai.app) hz U λb md T c bd=>?_;have H:=(s.keep ai.app).dK c Vr vn;have u:=c.chg.get (ay dB) Mw;refine aa (sl Y t) (aa (sl Y p) (ae H.lS (a5 gk (ae u ⟨⟨Y,aaZ (oj d2) ()⟩,?_⟩))));have r:=H.set (o:=.inst 201 (aT (aT fs 200 (.tup ((aX W k).map iv))) 106 (iv b))) u;have z:=ba (o':=.inst 201 (aT (aT fs 200 (.tup ((aX W k).map iv))) 106 (iv b))) u;have N:=qD (o:=.inst 201 (aT (aT fs 200 (.tup ((aX W k).map iv))) 106 (iv b))) u (c.chg.get (ay gB) λmm=>(aa5.mp mm).elim (λe=>Nat.lt_irrefl _ (e▸aD h.b.tab.rows)) λmm=>Nat.lt_irrefl _ (aaT.mp mm▸aD h.b.tab.index)) nofun;exact aa se (ae N ⟨zp,Ki N r.jQ r.gX (er Y (sl Y j)) (aX W k) (λi m=>⟨jt▸ts U i m,abB (ts U i m) ()⟩) λvs J=>aa (sl Y t) (aa (sl Y p) (ae (ay r.lS) (a5 gk (ae (ay z) ⟨⟨Y,aaZ (oj (oj d2)) ()⟩,(q b _ T _ ((r.keep ai.app).set (ay z)) c.pre c.len ((((c3.add).trans (c.chg.mono λJ=>.tail _)).trans (ag.set (.head _))).add.trans (ag.set (.head _))) ⟨_,ba (ay z),sl Y (sl Y se),sl Y se,sl Y (sl Y (sl Y d4))⟩ bd (sl Y y) (sl Y j) (sl Y t))⟩))))⟩)
 refine aa p (cd (λl=>aa j (BW h.b.w (go W.n (abn (Int.ofNat_lt.mp l)).symm))) λl=>go 1 (aa_ λw=>l (Int.ofNat_lt.mpr w)).symm)
end
section
variable{B:BH}{W:World}{σ:Sg}{τ:List Row}{Q:PX}{dl sg:Nat}{ss:List Nat}
theorem y7{b a}{T:TH}{x y o}(c:ag [x,T.rows,T.index] b a)(e:b[y]?=some o)(f:y≠x)(d:y∉[T.rows,T.index]):a[y]?=some o:=c.get e λm=>(aa5.mp m).elim f d
theorem oS(h:eQ σ y ps b)(c:ag F σ a)(d:y∉F):eQ a y ps b:=h.elim λfs e=>⟨fs,c.get e.1 d,e.2⟩
theorem SX(n)(hw:W.Ok)(a0:bA (W.r0.map Mem.nm))(a1:bA (W.r1.map Mem.nm))(h:f9 B W dl [z,w,u,t] sg ss σ τ)(hz:τ.length<=21)(D:dl∉[B.T.rows,B.T.index])(A:sg∉[B.T.rows,B.T.index])(jt:ss.length=5)
  (n0:fJ σ z 1)(n1:fJ σ w 2)(n2:fJ σ u 3)(n3:fJ σ t 4)(d0:z∉[B.T.rows,B.T.index])(d1:w∉[B.T.rows,B.T.index])(d2:u∉[B.T.rows,B.T.index])(d3:t∉[B.T.rows,B.T.index])(nd:[z,w,u,t].Nodup)
  (Pb:L.lookup 257=some (.loc B.T.tab))(iz:L.lookup 277=some (.loc B.A.w))(WZ:L.lookup 121=some (.loc dl))
  (q:∀f d b0 b1 b2 b3,f9 B W dl [z,w,u,t] sg ss f d->d.length<=40000->ag [z,w,u,t,B.T.rows,B.T.index] σ f->eQ f z (aX W 0) b0->eQ f w (aX W 1) b1->eQ f u (aX W 2) b2->eQ f t [] b3->iD W d 0 b0->iD W d 1 b1->iD W d 2 b2->(∃ps,d[b3]?=some (.obj ps)/\aG (dC W d) [(mP,(1,[]))] ps)->Q .none f):
  bH (aH (n+80)) (yZ.body.drop 3) L (cL Q) σ:=by
 have s:∀(i j){a b},[z,w,u,t][i]?=some a->[z,w,u,t][j]?=some b->decide _=true->a≠b:=λi j a b h1 h2 h3=>bV nd i j h1 h2 (dt h3)
 have nc:∀{x y},y≠x->y∉[B.T.rows,B.T.index]->y∉[x,B.T.rows,B.T.index]:=λh1 h2 m=>(aa5.mp m).elim h1 h2
 refine yl n hw a0 a1 h (aaS (aa2 hz _) ()) D A jt () Y n0 d0 (sl Y Pb) (sl Y iz) (sl Y WZ) se λb0 uL aaI aaf qc aaD Hj r Rw UU q1 q2 q3=>?_
 have T:=aaS Hj (aa2 hz _)
 refine yl n hw a0 a1 qc (aaS (aa2 T _) ()) D A jt () Y (n1.chg r (nc (s 1 0 Y Y Y) d1)) d1 (sl Y q1) (sl Y q2) (sl Y q3) se λb1 ux aat aaM n_ Sr Hc p Xh VB q1 q2 q3=>?_
 have M:=aaS Hc (aa2 T _)
 refine yl n hw a0 a1 n_ (aaS (aa2 M _) ()) D A jt () Y ((n2.chg r (nc (s 2 0 Y Y Y) d2)).chg p (nc (s 2 1 Y Y Y) d2)) d2 (sl Y q1) (sl Y q2) (sl Y q3) se λb2 vF τa La ha pa la ca KW Yn q1 q2 q3=>?_
 have za:=aaS la (aa2 M _)
 have l0:=aaS hw.len0.2 (():3<=100)
 have l1:=aaS hw.fO.2 (():3<=100)
 refine aa q1 (aa q2 (aa q2 (qH _ ha.b.w (x:=.lf .i3) ⟨⟨3,[],Y,nofun,absurd Y⟩,nofun⟩ l0 l1 λIW l kb Hr Sw=>?_)))
 refine y9 (N:=57) (c:=804) (ms:=[_]) (λm U=>aaT.mp U▸uy (a:=(1,none)) l0 l1 ⟨qv j5,nofun⟩) (List.pairwise_singleton ..) (λm U=>aaT.mp U▸()) () (abH ()) (ha.b.keep kb) Sw (λU=>(aa5.mp U).elim (λe=>aby (aD ha.b.tab.rows) (e▸Hr)) λU=>aby (aD ha.b.tab.index) (aaT.mp U▸Hr)) (aaS (aa2 za _) ()) λb3 ps oZ O9 H ec ac=>?_
 have hc:=(ha.keep kb).dK H D A
 have cX:∀{y o},y≠z->y≠w->y≠u->y∉[B.T.rows,B.T.index]->σ[y]?=some o->oZ[y]?=some o:=λh0 h1 h2 hr e=>H.chg.get (ai.get kb (y7 ca (y7 p (y7 r e h0 hr) h1 hr) h2 hr)) hr
 obtain⟨fs,f1,f2,f3,f4,f5⟩:=n3
 have f1:=cX (s 3 0 Y Y Y) (s 3 1 Y Y Y) (s 3 2 Y Y Y) d3 f1
 refine aa q3 (ae hc.lS (ae f1 ⟨⟨Y,aaZ f2 ()⟩,?_⟩))
 have cs:ag [t] oZ (oZ.set t (.inst 201 (aT fs 106 (iv b3)))):=ag.set (.head _)
 have kc:∀{y b ps},eQ vF y ps b->y≠t->y∉[B.T.rows,B.T.index]->eQ _ y ps b:=λh h1 h2=>oS (oS (oS h kb nofun) H.chg h2) cs (ne1 h1)
 refine q _ O9 b0 b1 b2 b3 (hc.set f1) (aaS H.len (aaS (aa2 za _) ())) ⟨aaS (aaS (aaS (aaS (aaS r.1 p.1) ca.1) kb.1) H.chg.1) cs.1,λy hy o e=>?_⟩ (kc (oS (oS Rw p (nc (s 0 1 Y Y Y) d0)) ca (nc (s 0 2 Y Y Y) d0)) (s 0 3 Y Y Y) d0) (kc (oS Xh ca (nc (s 1 2 Y Y Y) d1)) (s 1 3 Y Y Y) d1) (kc KW (s 2 3 Y Y Y) d2) ⟨_,ba f1,sl Y f5,se,sl Y f4⟩ (UU.mono (Sr.trans (pa.trans H.pre))) (VB.mono (pa.trans H.pre)) (Yn.mono H.pre) ⟨ps,ec,ac⟩
 simp at hy
 exact cs.get (cX hy.1 hy.2.1 hy.2.2.1 (λm=>(aa5.mp m).elim hy.2.2.2.2.1 λm=>hy.2.2.2.2.2 (aaT.mp m)) e) (ne1 hy.2.2.2.1)
theorem aaC{f:Type}{l:List f}(h:l.length=4):∃a b c d,l=[a,b,c,d]:=vv h
theorem n7{P:Nat->Prop}(a:P 0)(b:P 1)(c:P 2)(k)(h:k<3):P k:=by
 rcases k with _|_|_|k
 .exact a
 .exact b
 .exact c
 .exact absurd h (ab0.mpr (abj ..))
theorem cK{a b:Nat}{l}(h:a≠b)(k:a∉l):a∉b::l:=λm=>(aa5.mp m).elim h k
theorem Tf(n){A T}(hw:W.Ok)(a0:bA (W.r0.map Mem.nm))(a1:bA (W.r1.map Mem.nm))(t:A5 σ T)(lY:[T.tab,T.rows,T.index,T.decls,T.bounds,T.defaults,T.names].Nodup)(h:cS σ A W)(nA:∀a∈[A.w,A.rows,A.r0,A.r1,A.box,sg],a∉[T.tab,T.rows,T.index,T.decls,T.bounds,T.defaults,T.names])(jQ:∃es,σ[A.w]?=some (.dict .str es)/\aO es (.str "signs")=some (.loc sg)/\es.length<=10)(gX:σ[sg]?=some (.list (ss.map iv)))(jt:ss.length=5)
  (q:∀B D aj τ,TK σ A T W B D aj τ->Q .none aj):C (n+81) 1268 [.loc T.tab,.loc A.w] Q σ:=by
 have nn:∀(i j){a b},[T.tab,T.rows,T.index,T.decls,T.bounds,T.defaults,T.names][i]?=some a->[T.tab,T.rows,T.index,T.decls,T.bounds,T.defaults,T.names][j]?=some b->decide (i≠j)=true->a≠b:=λi j a b h1 h2 h3=>bV lY i j h1 h2 (dt h3)
 obtain⟨es,e1,e2,e3⟩:=jQ
 have nw:=nA _ (.head _)
 have nS:∀{i a},[T.tab,T.rows,T.index,T.decls,T.bounds,T.defaults,T.names][i]?=some a->a≠A.w:=λe w=>nw (w▸abk e)
 refine fn yZ Y Y ⟨dt Y,dt Y,Qj (n+77) Y ⟨nn 0 3 Y Y Y,nn 1 3 Y Y Y,nn 2 3 Y Y Y⟩ _ t.tab t.decls (dt Y) λas f la c₁ J8 w6 nd=>?_⟩
 obtain⟨u,s,r,p,rfl⟩:=vv la
 have k3:=(ai.app (σ:=f) (x:=[AO.list ([u,s,r,p].map .loc)])).trans (ai.app (x:=[AO.list ((List.range' 1 4).map iv)]))
 have jr:=c₁.trans (ai.chg k3)
 have t3:∀{a},a∈[A.w,A.rows,A.r0,A.r1,A.box,sg]->a∉[T.decls]:=λm=>ne1 λe=>nA _ m (e▸abk (i:=3) Y)
 have H:=jr.get e1 (t3 (.head _))
 refine ae az ⟨dt Y,V_ az [u,s,r,p] (λi a e=>(w6 i a e).2.chg ai.app nofun) (ae H ⟨⟨Y,aaS e3 ()⟩,?_⟩)⟩
 have U:=(h.chg jr λa m=>t3 (abe [sg] m)).GJ H (key:=.str (Str.ofString "dids")) (v:=.loc (f++[AO.list ([u,s,r,p].map .loc)]).length) (by decide+kernel) (by decide+kernel) (by decide+kernel) (by decide+kernel)
 have l:=ba (o':=.dict .str (aM es (.str (Str.ofString "dids")) (.loc (f++[AO.list ([u,s,r,p].map .loc)]).length))) H
 have ne4:∀{y}{o o':AO},(f++[AO.list ([u,s,r,p].map .loc)]++[AO.list ((List.range' 1 4).map iv)])[y]?=some o->o≠.dict .str es->((f++[AO.list ([u,s,r,p].map .loc)]++[AO.list ((List.range' 1 4).map iv)]).set A.w o')[y]?=some o:=λe hn=>a4 e λq=>hn (aa0 (((q)▸e).symm.trans H))
 have g4:=ne4 (o':=.dict .str (aM es (.str (Str.ofString "dids")) (.loc (f++[AO.list ([u,s,r,p].map .loc)]).length))) (az) nofun
 have xo:=ne4 (o':=.dict .str (aM es (.str (Str.ofString "dids")) (.loc (f++[AO.list ([u,s,r,p].map .loc)]).length))) (ay (az)) nofun
 have w4:∀i a,[u,s,r,p][i]?=some a->σ.length<=a/\fJ ((f++[AO.list ([u,s,r,p].map .loc)]++[AO.list ((List.range' 1 4).map iv)]).set A.w (.dict .str (aM es (.str (Str.ofString "dids")) (.loc (f++[AO.list ([u,s,r,p].map .loc)]).length)))) a (1+i):=λi a e=>⟨(w6 i a e).1,((w6 i a e).2.chg k3 nofun).elim λfs h=>⟨fs,ne4 h.1 nofun,h.2⟩⟩
 have c4:ag [A.w,T.decls] σ ((f++[AO.list ([u,s,r,p].map .loc)]++[AO.list ((List.range' 1 4).map iv)]).set A.w (.dict .str (aM es (.str (Str.ofString "dids")) (.loc (f++[AO.list ([u,s,r,p].map .loc)]).length)))):=(jr.mono λJ=>.tail _).trans (ag.set (.head _))
 have d4:=ne4 (o':=.dict .str (aM es (.str (Str.ofString "dids")) (.loc (f++[AO.list ([u,s,r,p].map .loc)]).length))) (ai.get k3 J8) nofun
 have uu:σ.length<=(f++[AO.list ([u,s,r,p].map .loc)]).length:=aaS c₁.1 (aa4▸aaW ..)
 revert U l g4 xo w4 c4 d4 uu
 generalize(f++[AO.list ([u,s,r,p].map .loc)]++[AO.list ((List.range' 1 4).map iv)]).set A.w _=s7
 generalize(f++[AO.list ([u,s,r,p].map .loc)]).length=N
 intro U l g4 xo w4 c4 d4 uu
 have n4:∀{i a},[T.tab,T.rows,T.index,T.decls,T.bounds,T.defaults,T.names][i]?=some a->decide (i≠3)=true->a∉[A.w,T.decls]:=λ{i a}e d m=>(aa5.mp m).elim (nS e) λm=>nn i 3 e Y d (aaT.mp m)
 have ld:=Ef (es:=es) (k:=.str (Str.ofString "dids")) (v:=.loc N)
 refine⟨dt Y,dt Y,Uv (n+78) Y (lY.sublist (.cons₂ _ (.cons₂ _ (.cons₂ _ (.cons _ (.refl _)))))) _ (t.tab.chg c4 (n4 (i:=0) Y Y) (n4 (i:=1) Y Y) (n4 (i:=2) Y Y)) (c4.get t.bounds (n4 (i:=4) Y Y)) (c4.get t.defaults (n4 (i:=5) Y Y)) (c4.get t.names (n4 (i:=6) Y Y)) (dt Y) (dt Y) (dt Y) (dt Y) λis c U' li QR QY Zj VC L=>?_⟩
 have F5:∀{y},y∉[T.tab,T.rows,T.index,T.decls,T.bounds,T.defaults,T.names]->y∉[T.rows,T.index,T.bounds,T.defaults,T.names]:=λh m=>h (.tail _ ((List.Sublist.cons₂ T.rows (.cons₂ T.index (.cons T.decls (.refl _)))).subset m))
 have old:=λ{y}h m=>by
  have k:∀x∈[T.tab,T.rows,T.index,T.decls,T.bounds,T.defaults,T.names],x<σ.length:=aa'.mpr ⟨aD t.tab.tab,aa'.mpr ⟨aD t.tab.rows,aa'.mpr ⟨aD t.tab.index,aa'.mpr ⟨aD t.decls,aa'.mpr ⟨aD t.bounds,aa'.mpr ⟨aD t.defaults,aa'.mpr ⟨aD t.names,nofun⟩⟩⟩⟩⟩⟩⟩;exact aby (k y m) h
 have RI:∀{y},y∉[T.tab,T.rows,T.index,T.decls,T.bounds,T.defaults,T.names]->y∉[T.rows,T.index]:=λh m=>h (.tail _ ((aa5.mp m).elim (λe=>e▸.head _) λm=>aaT.mp m▸.tail _ (.head _)))
 have M:=ay (x:=[AO.list (is.map iv)]) (L.get l (F5 nw))
 refine ae M ⟨⟨Y,aaS ld (aaS (abI e3) ())⟩,nx ?_⟩
 have pQ:∀{y o o'},s7[y]?=some o->o≠.dict .str (aM es (.str (Str.ofString "dids")) (.loc N))->y∉[T.rows,T.index,T.bounds,T.defaults,T.names]->((c++[AO.list (is.map iv)]).set A.w o')[y]?=some o:=λe hn hy=>a4 (ay (L.get e hy)) λq=>hn (aa0 (((q)▸e).symm.trans l))
 have Bf:=ba (o':=.dict .str (aM (aM es (.str (Str.ofString "dids")) (.loc N)) (.str (Str.ofString "params")) (.loc c.length))) M
 have nd':=λi j{a b}(h1:[u,s,r,p][i]?=some a)(h2:[u,s,r,p][j]?=some b)(h3)=>bV nd i j h1 h2 (dt h3)
 have w7:∀i a,[u,s,r,p][i]?=some a->fJ ((c++[AO.list (is.map iv)]).set A.w (.dict .str (aM (aM es (.str (Str.ofString "dids")) (.loc N)) (.str (Str.ofString "params")) (.loc c.length)))) a (1+i):=λi a e=>(w4 i a e).2.elim λfs h=>⟨fs,pQ h.1 nofun (F5 (old (w4 i a e).1)),h.2⟩
 have vn:=nA sg (.tail _ (.tail _ (.tail _ (.tail _ (.tail _ (.head _))))))
 have pid:∀i,i<5->is[i]?=some ((is[i]?).getD 0):=λi hi=>by rw[ab4 (li.symm▸hi)];rfl
 have RC:aO (aM (aM es (.str (Str.ofString "dids")) (.loc N)) (.str (Str.ofString "params")) (.loc c.length)) (.str "signs")=some (.loc sg):=by rw[gY,aa_ (by decide+kernel),gY,aa_ (by decide+kernel)];exact e2
 have ox:∀{i a},[u,s,r,p][i]?=some a->σ.length<=a:=λe=>(w4 _ _ e).1
 have c7:ag [A.w,T.rows,T.index,T.decls,T.bounds,T.defaults,T.names] σ ((c++[AO.list (is.map iv)]).set A.w (.dict .str (aM (aM es (.str (Str.ofString "dids")) (.loc N)) (.str (Str.ofString "params")) (.loc c.length)))):=(((c4.mono λJ m=>(aa5.mp m).elim (λe=>e▸.head _) λm=>aaT.mp m▸.tail _ (.tail _ (.tail _ (.head _)))).trans (L.mono λJ m=>.tail _ ((List.Sublist.cons₂ T.rows (.cons₂ T.index (.cons T.decls (.refl _)))).subset m))).add).trans (ag.set (.head _))
 have dx:∀{i a},[u,s,r,p][i]?=some a->T.decls≠a:=λe w=>old (ox e) (w▸abk (i:=3) Y)
 refine SX n hw a0 a1 ⟨(⟨((QR.keep (ai.app (x:=[AO.list (is.map iv)]))).chg (ag.set (o:=.dict .str (aM (aM es (.str (Str.ofString "dids")) (.loc N)) (.str (Str.ofString "params")) (.loc c.length))) (.head _)) (ne1 (nS (i:=0) Y)) (ne1 (nS (i:=1) Y)) (ne1 (nS (i:=2) Y))),QY,(((U.chg L λa m=>F5 (nA a (abe [sg] m))).keep (ai.app)).GJ M (key:=.str (Str.ofString "params")) (v:=.loc c.length) (by decide+kernel) (by decide+kernel) (by decide+kernel) (by decide+kernel)),⟨_,Bf,(by rw[gY,aa_ (by decide+kernel),gY,abn Y]:aO (aM (aM es (.str (Str.ofString "dids")) (.loc N)) (.str (Str.ofString "params")) (.loc c.length)) (.str "dids")=some (.loc N)),by rw[gY,abn Y]⟩,(pQ (o':=.dict .str (aM (aM es (.str (Str.ofString "dids")) (.loc N)) (.str (Str.ofString "params")) (.loc c.length))) g4 nofun (F5 (old uu))),⟨is,(a4 (o':=.dict .str (aM (aM es (.str (Str.ofString "dids")) (.loc N)) (.str (Str.ofString "params")) (.loc c.length))) (az (o:=AO.list (is.map iv))) λq=>Nat.lt_irrefl _ (q▸aD (L.get l (F5 nw)))),pid⟩,λi hi=>(VC i _ (pid i hi)).trans (aaU (λz=>some (Row.par z)) (ab5 i)),λa m=>(xN [A.w,A.rows,A.r0,A.r1,A.box] [N,c.length] m).elim (λm=>RI (nA _ (abe [sg] m))) λm=>RI (old ((aa5.mp m).elim (λe=>e▸uu) λm=>aaT.mp m▸(aaS c4.1 L.1)))⟩:cq ⟨A,T,N,c.length,λi=>(is[i]?).getD 0⟩ W _ U'),(pQ (o':=.dict .str (aM (aM es (.str (Str.ofString "dids")) (.loc N)) (.str (Str.ofString "params")) (.loc c.length))) xo nofun (F5 (old c₁.1))),(pQ (o':=.dict .str (aM (aM es (.str (Str.ofString "dids")) (.loc N)) (.str (Str.ofString "params")) (.loc c.length))) (c4.get gX λm=>(aa5.mp m).elim (λe=>by rw[e,e1] at gX;cases gX) λm=>nA sg (.tail _ (.tail _ (.tail _ (.tail _ (.tail _ (.head _)))))) (aaT.mp m▸abk (i:=3) Y)) nofun (F5 vn)),⟨_,Bf,RC⟩⟩ Zj (RI (old c₁.1)) (RI vn) jt (w7 0 u Y) (w7 1 s Y) (w7 2 r Y) (w7 3 p Y) (RI (old (ox (i:=0) Y))) (RI (old (ox (i:=1) Y))) (RI (old (ox (i:=2) Y))) (RI (old (ox (i:=3) Y))) nd Y Y Y λaj cm b0 b1 b2 b3 st len ch D0 D1 D2 D3 B0 B1 B2 B3=>?_
 refine q _ ⟨λk=>if k=0 then u else if k=1 then s else if k=2 then r else p,λk=>if k=0 then b0 else if k=1 then b1 else if k=2 then b2 else b3⟩ aj cm ⟨st.b,Y,Y,⟨ch.get (pQ (o':=.dict .str (aM (aM es (.str (Str.ofString "dids")) (.loc N)) (.str (Str.ofString "params")) (.loc c.length))) d4 nofun λm=>cK (nn 3 1 Y Y Y) (cK (nn 3 2 Y Y Y) (cK (nn 3 4 Y Y Y) (cK (nn 3 5 Y Y Y) (ne1 (nn 3 6 Y Y Y))))) m) λm=>?_,x7 D0 D1 D2 D3⟩,⟨n7 B0 B1 B2,B3⟩,len,⟨aaS c7.1 ch.1,λy hy o e=>ch.get (c7.get e hy) λm=>?_⟩,x7 (ox (i:=0) Y) (ox (i:=1) Y) (ox (i:=2) Y) (ox (i:=3) Y)⟩
 .exact cK (dx (i:=0) Y) (cK (dx (i:=1) Y) (cK (dx (i:=2) Y) (cK (dx (i:=3) Y) (cK (nn 3 1 Y Y Y) (ne1 (nn 3 2 Y Y Y)))))) m
 .have ly:=aD e;have nx {x} (h:σ.length<=x):y≠x:=λe=>aby ly (e▸h);exact cK (nx (ox (i:=0) Y)) (cK (nx (ox (i:=1) Y)) (cK (nx (ox (i:=2) Y)) (cK (nx (ox (i:=3) Y)) (cK (λe=>hy (e▸.tail _ (.head _))) (ne1 λe=>hy (e▸.tail _ (.tail _ (.head _)))))))) m
end
section
variable{E:EN}{σ:Sg}{s:RS}{Q:PX}
theorem tJ(n)(h:aF E σ s)(f:s.tr=[])(i:s.rd=[])(j:s.deep=0)(q:∀b,ai σ b->Q (.bool true) b):C (n+1) 1282 [.loc E.R.rel] Q σ:=by
 have c:=h.aw;have rd:=h.rd;have d:=h.aV;rw[f] at c d;rw[i] at rd;have a:=λ{σ x}=>ai.app (σ:=σ) (x:=[x]);exact fn DQ Y Y (ae h.rel (ae h.cV (bR (z9 (ay h.bZ) az (ae (ay h.rel) (bR (z9 (ay (ay c)) az (ae (ay (ay h.rel)) (bR (Q9 (ay (ay (ay d))) az (ae (ay (ay (ay h.rel))) (bR (z9 (ay (ay (ay (ay rd)))) az (ae (ay (ay (ay (ay h.rel)))) (j▸q _ (((a.trans a).trans a).trans a))))))))))))))))
theorem Mv(n)(h:aF E σ s)(hz:s.τ.length<=16000000)(a:s.τ[j]?=some r)(q:Q (.bool false) σ):C (n+1) 1023 [.loc E.R.rel,.int 5,iv j] Q σ:=
 fn pC Y Y (ae h.rel (ae h.host.host (ae h.tab.tab (bD (i:=5) h.tab (cU h.inv.base Y) hz (ae h.rel (ae h.host.host (ae h.tab.tab (bD h.tab a hz q))))))))
theorem Oe(n)(h:aF E σ s)(hz:s.τ.length<=16000000)(a:s.τ[j]?=some r)(q:Q (.bool false) σ):C (n+1) 1023 [.loc E.R.rel,iv j,.int 5] Q σ:=by
 refine fn pC Y Y (ae h.rel (ae h.host.host (ae h.tab.tab (bD h.tab a hz (ae h.rel (ae h.host.host (ae h.tab.tab (bD h.tab (cU h.inv.base Y) hz ?_))))))));clear a h;cases r<;>exact q
end
section
variable{σ:Sg}{Q:PX}
theorem Oc(n)(H:σ[t]?=some (.inst 541 []))(q:∀a,a[t]?=some (.inst 541 (G0 ⟨t,σ.length⟩ T))->a[σ.length]?=some (.dict .tup [])->ag [t] σ a->Q .none a):C (n+1) 517 [.loc t,.loc T.tab] Q σ:=fn Fy Y Y (cC H λB x h p=>(cC p λA w l₂ m=>(cC m λz u f l=>(cC l λy s d j=>(eH (k:=0) (d.trans (f.trans (l₂.trans h))) j λb r D c i=>(q b i c (x.trans (w.trans (u.trans (s.trans r))))))))))
theorem Yw(n)(q:∀a,ai σ a->a.length=σ.length+2->a[σ.length]?=some (.inst 120 [(226,.loc (σ.length+1))])->a[σ.length+1]?=some (.list [])->Q (.loc σ.length) a):vL (aH (n+2)) 120 96 Q [] σ:=fn JI Y Y (eH aa4 (az) λb h d c f=>⟨Y,q b (ai.ext ai.app (aaX _) h) d f c⟩)
theorem UN(n)(tl:σ.length=t+1)(ht:σ[t]?=some (.inst 692 []))(q:∀a,i5 a H (hF t) (t+4)->a[t+1]?=some (.dict .int [])->ag [t] σ a->a.length=t+8->Q .none a):C (n+3) 647 [.loc t,.loc H.host,.int 3] Q σ:=by
 refine fn AH Y Y ?_;refine cC ht λek c₁ D f7=>?_;refine cC f7 λfi c₂ l₂ j0=>?_;refine eH (l₂.trans (D.trans tl)) j0 λlA jr B s yn=>?_;refine eH B yn λs7 lD A r jK=>?_;refine eH A jK λmd zh z p U=>?_;refine eH z U λpO ip y l T=>?_;refine eH y T λD8 oN x j N=>?_;refine cC N λuL qP w M=>?_;refine cC M λux lF u L=>?_;have l9:=u.trans (w.trans x);refine Yw n λvF ka la oa ob=>?_;rw[l9] at la oa ob⊢;refine cC (ka.get L) λIW cb lb hb=>?_;refine cC hb λoZ cc lc hc=>?_;refine cC hc λXd cd ld hd=>?_;refine cC hd λLm ce le he=>?_;refine cC he λTa cf lf hf=>?_;have nt:∀{k},t+(k+1)∉[t]:=λ{k}m=>Nat.ne_of_gt (abW (Nat.succ_pos k)) (aaT.mp m);have b:=cb.trans (cc.trans (cd.trans (ce.trans cf)));have c:=qP.trans (lF.trans ((ai.chg ka).trans b));have d:=oN.trans c;have f:=ip.trans d;have h:=zh.trans f;have i:=lD.trans h;exact q Ta ⟨hf,h.get r (nt),f.get p (nt),d.get l (nt),c.get j (nt),b.get oa (nt),b.get ob (nt)⟩ (i.get s (nt)) (c₁.trans (c₂.trans (jr.trans i))) (lf.trans (le.trans (ld.trans (lc.trans (lb.trans la)))))
theorem i5.st(r:i5 σ H (hF s) (s+4)):i5 ((σ++[o]).set (s+1) o') H (hF s) (s+4):=by
 have lt:∀{k},decide (1<k)=true->s+1≠s+k:=λh=>abx (Nat.add_lt_add_left (dt h) s);exact⟨a4 (ay r.rel) (Nat.succ_ne_self s),a4 (ay r.aV) (lt Y),a4 (ay r.kn) (lt Y),a4 (ay r.aw) (lt Y),a4 (ay r.rd) (lt Y),a4 (ay r.cV) (lt Y),a4 (ay r.bZ) (lt Y)⟩
theorem K3(n)(q:∀d,i5 d H (hF σ.length) (σ.length+4)->d[σ.length+1]?=some (.dict .int [(.int 5,.loc (σ.length+8)),(.int 11,.loc (σ.length+9))])->d[σ.length+8]?=some (.inst 1061 [])->d.length=σ.length+10->ai σ d->Q (.loc σ.length) d):C (n+5) 1275 [.loc H.host] Q σ:=by
 refine fn FP Y Y ?_;refine UN n aa4 az λa l j p f=>⟨Y,?_⟩;refine fn DP Y Y (ae (ay l.rel) (ae (ay j) ⟨⟨Y,aa9 _⟩,?_⟩));have i:=a4 (o':=.dict .int (aM [] (.int 5) (.loc a.length))) (az (o:=.inst 1061 [])) (m:=(hF σ.length).rules) (abx (f▸Nat.add_lt_add_left () _));have b:=ba (n:=(hF σ.length).rules) (o':=.dict .int (aM [] (.int 5) (.loc a.length))) (ay (x:=[AO.inst 1061 []]) j);have c:i5 ((a++[AO.inst 1061 []]).set (hF σ.length).rules (.dict .int (aM [] (.int 5) (.loc a.length)))) H _ _:=W.i5.st l;have l₂:((a++[AO.inst 1061 []]).set (hF σ.length).rules (.dict .int (aM [] (.int 5) (.loc a.length)))).length=σ.length+9:=by rw[List.length_set,aa4,f];rfl
 have h:ai σ ((a++[AO.inst 1061 []]).set (hF σ.length).rules (.dict .int (aM [] (.int 5) (.loc a.length)))):=ai.set ((ai.ext ai.app (aaX _) p).trans .app) (ab7 _);revert i b c l₂ h;rw[f];refineλi b c l₂ h=>fn Dy Y Y (ae (ay c.rel) (ae (ay b) ⟨⟨Y,dt Y⟩,?_⟩));rw[l₂];exact q _ (W.i5.st c) (ba (ay b)) (a4 (ay i) (abx (Nat.add_lt_add_left () _))) (by rw[List.length_set,aa4,l₂];rfl) (ai.set (ag.trans h .app) (ab7 _))
end
section
variable{E:EN}{σ:Sg}
theorem wI(n)(h:e9 E.W E.T E.H E.D σ τ es)(hz:τ.length+es.length<=M)
  (q:∀R c b,ai σ b->Rest ⟨E.W,E.T,E.H,E.D,R⟩ M b ⟨τ,es,c,[],[],[],0,0⟩->(∀a∈[R.rel,R.aV,R.kn,R.rd,c,R.bZ,R.rules,R.r5,R.cV],σ.length<=a)->Q (.loc R.rel) b):C (n+5) 1275 [.loc E.H.host] Q σ:=by
 refine K3 n λb r u g l k=>q _ _ b k ⟨O3 h k r u g,Y,Y,Y,hz⟩ ?_
 have p:∀k,σ.length<=σ.length+k:=λk=>aaW ..
 exact aa'.mpr ⟨p 0,aa'.mpr ⟨p 2,aa'.mpr ⟨p 3,aa'.mpr ⟨p 5,aa'.mpr ⟨p 4,aa'.mpr ⟨p 7,aa'.mpr ⟨p 1,aa'.mpr ⟨p 8,aa'.mpr ⟨p 6,nofun⟩⟩⟩⟩⟩⟩⟩⟩⟩
theorem y8(f:E.W.Ok)(p:jF E.W a)(l:jF E.W b)(z:kt E.W (a,b)<=c)(n)(U:NT 13+13<=n)(h:aF E σ s)(T:s.tr=[])(w:s.rd=[])(hd:s.deep=0)(hz:b9 0 s)(hl:s.au+c<=20000)(N:aB E.W s.τ a i)(M:aB E.W s.τ b j)
  (q:∀v d s',tR E c a b v σ s d s'->Q (.bool v) d):C n 654 [.loc E.R.rel,iv i,iv j] Q σ:=by
 have flat:∀x∈a.2,∀y∈b.2,aI x=false->aI y=false->x≠y->dJ E .none _ 1240 13 26 _ _ _/\dJ E .none _ 1240 13 26 _ _ _:=λx D y B L H J=>by
  have t:=p.own x D L;have r:=l.own y B H;have u:=Ay f t r;have A:∀s,s.rd=[]->fh E.W (eP E.W x y) s:=λs e k m=>absurd (e▸m) abo;exact⟨(uG f t.iS r.iS u (.head _)).mono (aaX _) (aaX _) (aaX _) (aaX _) A,(uG f t.iS r.iS u (.tail _ (.head _))).mono (aaX _) (aaX _) (aaX _) (aaX _) A⟩
 refine Ds f p.wf l.wf (x9 f (λs e=>?_) (λs s' e e' J=>e'.trans e) p.wf l.wf p.ok l.ok flat) (Bc) n U h T N M ⟨hz,w.symm▸(),hd.symm▸(),Rg.nO▸aaS (aa3 z _) hl,w⟩ λv d s' o=>q v d s' ⟨o.g,o.tr,aaS o.l (aa3 z _),o.v⟩
 unfold RL
 exact e▸⟨aaX _,aaX _⟩
theorem ne_bool(q:Q (.bool !(decide (a=a))) σ):fv (.bool a) (.bool a) Q σ:=bR (Hn q)
theorem vT{s b:RS}{k a}(o:b.aw=s.aw\/k<=b.aw)(f:a<k)(d:a∉E.mut s.aw):a∉E.mut b.aw:=λm=>by
 rcases ZG m with m|e
 .exact d m
 .rcases o with c|c
  .exact d (e.trans c▸abk (i:=7) Y)
  .exact abN c (e▸f)
theorem N7(n)(hw:E.W.Ok){src all K}(l):∀{σ s L M},Rest E M σ s->(∀t∈l,iR E.W s.τ t.2.1 t.1 t.2.2)->s.au+dQ l<=20000->M+140*dQ l<=10000000->σ[src]?=some (.list all)->src∉E.mut s.aw->L.lookup 219=some (.loc E.R.rel)->
  (∀A p,ag (E.mut s.aw) σ p->K .next A p)->bU (aH (n+600)) (.many [230,256,278]) EK (.loc src all) (l.map λt=>jC t.2.2) L K σ:=by
 induction l with
 |nil=>exactλh y u z hs r e1 q=>⟨hs,q _ _ .refl⟩
 |cons t l U=>
  intro σ s L M h y u z hs r e1 q;obtain⟨⟨a,b⟩,c,⟨i,j,w⟩⟩:=t;rw[LU] at u z;have r0:iR E.W s.τ c (a,b) (i,j,w):=y _ (.head _);refine⟨hs,aa (sl Y (sl Y (sl Y e1))) (ae h.st.rel (aa (sl Y se) (aa (sl Y (sl Y se)) (y8 hw r0.b r0.a r0.c2 (n+600) (abH ()) h.st h.tr h.rd h.deep (h.zA (aaS (aaW ..) z) (aaS (aaW ..) u)) (kh u) r0.ib r0.ia λv D Q o=>?_))))⟩;have T:=abP.mpr (o.v.trans ((⟨aQ.symm,aQ.symm⟩:aQ E.W b a↔aQ E.W a b).trans r0.v.symm));subst T;have d:=h.out o;exact aa se (ne_bool (cN (absurd Y) λJ=>aa (sl Y (sl Y (sl Y e1))) (tJ _ d.st d.tr d.rd d.deep λB f=>(U (d.kp f) (λt m=>(y t (.tail _ m)).mono o.g.pre) (aaS (aa2 o.l _) (aaS (aa7 (abu ..)) u)) (by lia:M+140*c+140*dQ l<=10000000) (f.get (o.g.chg.get hs r)) (vT o.g.aw (aD hs) r) (sl Y (sl Y (sl Y e1))) λA p H=>q A p ⟨aaS o.g.chg.1 (aaS f.1 H.1),λa N x e=>H.get (f.get (o.g.chg.get e N)) (vT o.g.aw (aD e) N)⟩))))
theorem SW(n)(hw:E.W.Ok){src all K}(l):∀{σ s L M},Rest E M σ s->(∀t∈l,iR E.W s.τ t.2.1 t.1 t.2.2)->s.au+dQ l<=20000->M+280*dQ l<=10000000->σ[src]?=some (.list all)->src∉E.mut s.aw->L.lookup 219=some (.loc E.R.rel)->L.lookup 140=some (.loc E.H.host)->
  (∀L' B s',Rest E (M+280*dQ l) B s'->s.τ<+:s'.τ->s'.au<=s.au+dQ l->B[src]?=some (.list all)->(∀a,a<σ.length->a∉E.mut s.aw->a∉E.mut s'.aw)->L'.lookup 219=some (.loc E.R.rel)->L'.lookup 225=L.lookup 225->ag (E.mut s.aw) σ B->K .next L' B)->
  bU (aH (n+600)) (.many [230,256,278]) Gn (.loc src all) (l.map λt=>jC t.2.2) L K σ:=by
 induction l with
 |nil=>exactλh hr hl hM hs vB e1 e2 q=>⟨hs,q _ _ _ (h.le (aaW ..)) (abp _) (aaW ..) hs (λa J h=>h) e1 Y .refl⟩
 |cons t l ih=>
  intro σ s L M h hr hl hM hs vB e1 e2 q;obtain⟨⟨a,b⟩,c,⟨i,j,w⟩⟩:=t;have hl:s.au+(c+dQ l)<=20000:=hl;have hM:M+280*(c+dQ l)<=10000000:=hM;have r0:iR E.W s.τ c (a,b) (i,j,w):=hr _ (.head _);have M1:M+140*c+140*c+280*dQ l=M+280*(c+dQ l):=by lia
  have wN:=xE h.st;refine⟨hs,aa (sl Y (sl Y (sl Y e2))) (wI (n+595) (tC h.st) h.sz λR aw ek A T pn=>?_)⟩;have d:=h.kp A;have u:=pn;refine aa (sl Y (sl Y (sl Y (sl Y e1)))) (ae d.st.rel (aa (sl Y (sl Y (sl Y se))) (aa (sl Y (sl Y se)) (y8 hw r0.a r0.b r0.c1 (n+600) (abH ()) d.st d.tr d.rd d.deep (d.zA (aaS (aaW ..) hM) (aaS (aaW ..) hl)) (kh hl) r0.ia r0.ib λv fi H o=>?_))));have vw:=abP.mpr (o.v.trans r0.v.symm);subst vw;have Q:=d.out o;have f:=T.sM o.g.chg (λa m m'=>(oH m').elim id λm'=>absurd (wN a m') (abN (u a m))) Q o.g.pre;refine aa (sl Y se) (ne_bool (cN (absurd Y) λJ=>aa se (ae f.st.rel (aa (sl Y (sl Y se)) (aa (sl Y (sl Y (sl Y se))) (y8 (E:=⟨E.W,E.T,E.H,E.D,R⟩) hw r0.b r0.a r0.c2 (n+600) (abH ()) f.st f.tr f.rd f.deep (f.zA (by lia) (aa9 _)) (by lia:0+c<=20000) (r0.ib.mono o.g.pre) (r0.ia.mono o.g.pre) λv' lA X8 o'=>?_))))))
  have K1:=abP.mpr (o'.v.trans ((⟨aQ.symm,aQ.symm⟩:aQ E.W b a↔aQ E.W a b).trans r0.v.symm));subst K1;have r:=f.out o';have p:=Q.sM o'.g.chg (λa m m'=>(oH m').elim id λm'=>by
   rcases YA m with m|e
   .exact absurd (wN a m) (abN (u a m'))
   .rcases o.g.aw with e'|e'
    .exact absurd (wN s.aw (abk (i:=4) Y)) (abN (e'▸e▸u a m'))
    .exact absurd ((xE T.st) a m') (abN (e▸e'))) r o'.g.pre
  refine aa (sl Y se) (ne_bool (cN (λne=>absurd Y ne) λJ=>aa (sl Y (sl Y (sl Y (sl Y e1)))) (tJ (n+599) p.st p.tr p.rd p.deep λs7 z=>aa se (tJ (n+599) (r.kp z).st r.tr r.rd r.deep λmd D=>?_))));have fr:∀{y x},σ[y]?=some x->y∉E.mut s.aw->md[y]?=some x:=λ{y x}e U=>D.get (z.get (o'.g.chg.get (o.g.chg.get (A.get e) U) λm=>(oH m).elim (λm=>U (abe [E.R.rel,E.R.aV,E.R.kn,E.R.rd,s.aw,E.R.bZ] m)) λm=>abN (u y m) (aD e)));have nm:∀{y},y<σ.length->y∉E.mut s.aw->y∉E.mut H.aw:=λal=>vT o.g.aw (abb al A.1);have oj:=aaS A.1 (aaS o.g.chg.1 (aaS o'.g.chg.1 (aaS z.1 D.1)));have N:=o.g.pre.trans o'.g.pre;have l2:H.au+dQ l<=s.au+(c+dQ l):=aaS (aa2 o.l _) (aa7 (abu ..));exact ih ((p.kp z).kp D) (λt m=>(hr t (.tail _ m)).mono N) (aaS l2 hl) (M1▸hM) (fr hs vB) (nm (aD hs) vB) (sl Y (sl Y (sl Y (sl Y e1)))) (sl Y (sl Y (sl Y (sl Y e2)))) λL' B s' r1 r2 r3 r4 r5 r6 r7 r8=>(q L' B s' (r1.le (aa7 M1)) (N.trans r2) (aaS r3 l2) r4 (λa al U=>r5 a (abb al oj) (nm al U)) r6 (r7.trans ((sn ()).trans ((sn ()).trans ((sn ()).trans (sn ()))))) ⟨aaS oj r8.1,λa U x e=>r8.get (fr e U) (nm (aD e) U)⟩)
end
section
variable{W:World}{H:HH}{D:DH}{B:BH}{la:Nat}{al:List (Th×Th)}
theorem TB(n)(hw:W.Ok)(fG:∀q∈al,aL W q.1/\aL W q.2){x y}(px:bu W x)(py:bu W y)(tx:df B W 72 9667 x)(ty:df B W 72 9667 y)(pz:aL W x)(zF:aL W y)(qu:(decide (x=y)||decide ((x,y)∈al))=true↔(x=y\/br W x y))
  {σ τ es}(h:jd W H D B la al σ τ es){M}(hz:τ.length+es.length<=M)(hM:M+2000000<=10000000){L}(YG:L.lookup 140=some (.loc H.host))(w:L.lookup 257=some (.loc B.T.tab))(u:L.lookup 277=some (.loc B.A.w))(t:L.lookup 283=some (tE W x))(s:L.lookup 284=some (tE W y))(UQ:L.lookup 90=some (.loc la)){K}
  (q:∀L' N A es',jd W H D B la al N A es'->τ<+:A->A.length+es'.length<=M+1150000->ag [B.T.rows,B.T.index,H.ins] σ N->(∀v,v≠219->v≠230->L'.lookup v=L.lookup v)->K .next L' N):
  bH (aH (n+600)) xb L K σ:=by
 have IE:72<=n+600:=abH ()
 refine aa YG (wI _ (E:=⟨W,B.T,H,D,⟨0,0,0,0,0,0,0,0,0⟩⟩) h.A' hz λR aw ek f xd pn=>?_)
 have z:=h.st.keep f
 refine aa (sl Y w) (aa (sl Y u) (aa (sl Y t) (tx _ ek τ IE z (by lia) λi fi Q c ix=>?_)))
 have l2:=c.len
 refine aa (sl Y se) (aa se (aa (sl Y (sl Y w)) (aa (sl Y (sl Y u)) (aa (sl Y (sl Y s)) (ty _ fi Q IE (z.dK c.o) (by lia) λj lA l b iy=>?_)))))
 have l3:=b.len
 have XK:aF ⟨W,B.T,H,D,R⟩ lA ⟨l,es,aw,[],[],[],0,0⟩:=(xd.st.dK c.o).dK b.o
 refine S1 hw px.iS py.iS (Ay hw px py) (Qa hw px py) _ (abH ()) XK Y Y Y ⟨show l.length+es.length+130<=10000000+140*0 by lia,aa9 _⟩ (aa9 _) (ix.mono b.pre) iy λv U d g t4 l4 hv=>?_
 have big:ag [B.T.rows,B.T.index,H.ins] σ U:=by
  refine⟨aaS f.1 (aaS c.chg.1 (aaS b.chg.1 g.chg.1)),λa ha o e=>?_⟩;have n2:a∉[B.T.rows,B.T.index]:=λm=>ha (abe [H.ins] m);exact g.chg.get (b.chg.get (c.chg.get (f.get e) n2) n2) λm=>(oH m).elim ha λm=>abN (pn a m) (aD e)
 have p:=c.pre.trans (b.pre.trans g.pre)
 have Nk:d.τ.length+d.es.length<=M+1150000:=by
  have:=g.sz
  lia
 have row:d.τ.length<=16000000:=by lia
 obtain⟨ri,lj,_⟩:=yf (ix.mono (b.pre.trans g.pre)) px.ok.1
 refine aa (sl Y (sl Y t)) (aa (sl Y (sl Y s)) (aa (sl Y (sl Y UQ)) (yG (n+599) (big.get h.al h.nl) fG pz zF ?_)))
 rw[←(abP.mpr (hv.trans qu.symm))]
 refine ne_bool (cN (absurd Y) λJ=>aa (sl Y se) (aa se (Mv (n+599) g.st row lj (aa (sl Y se) (aa se (Oe (n+599) g.st row lj (aa (sl Y se) (tJ (n+599) g.st t4 g.rd g.deep λT r=>?_))))))))
 have EW:=big.trans r.chg
 exact q _ T d.τ d.es (h.move EW ((tC g.st).keep r) p) p Nk EW λv h1 h2=>(sn h2).trans (sn h1)
theorem R2(n)(hw:W.Ok)(fG:∀q∈al,aL W q.1/\aL W q.2){x}(px:bu W x)(tx:df B W 72 9667 x)(pz:aL W x){items K}(b:List Th):(∀y∈b,bu W y/\df B W 72 9667 y/\aL W y/\((decide (x=y)||decide ((x,y)∈al))=true↔(x=y\/br W x y)))->
  ∀{σ τ es M L},jd W H D B la al σ τ es->τ.length+es.length<=M->M+1150000*b.length+2000000<=10000000->L.lookup 140=some (.loc H.host)->L.lookup 257=some (.loc B.T.tab)->L.lookup 277=some (.loc B.A.w)->L.lookup 283=some (tE W x)->L.lookup 90=some (.loc la)->
  (∀L' d c es',jd W H D B la al d c es'->τ<+:c->c.length+es'.length<=M+1150000*b.length->ag [B.T.rows,B.T.index,H.ins] σ d->(∀v,v≠219->v≠230->v≠284->L'.lookup v=L.lookup v)->K .next L' d)->
  bU (aH (n+600)) (.one 284) xb (.seq items) (b.map (tE W)) L K σ:=by
 induction b with
 |nil=>exactλJ σ τ es M L h hz T e1 e2 e3 e4 U q=>q L σ τ es h (abp _) hz .refl λv J J J=>Y
 |cons y b ih=>
  intro hy σ τ es M L h hz T e1 e2 e3 e4 U q;obtain⟨py,ty,zF,qu⟩:=hy y (.head _);rw[abt,Nat.mul_succ,abE (1150000*b.length),←abu] at T q;exact TB n hw fG px py tx ty pz zF qu h hz (by lia) (sl Y e1) (sl Y e2) (sl Y e3) (sl Y e4) se (sl Y U) λiM ek t_ S2 u s p N a=>
   ih (λz m=>hy z (.tail _ m)) u p T ((a _ () ()).trans (sl Y e1)) ((a _ () ()).trans (sl Y e2)) ((a _ () ()).trans (sl Y e3)) ((a _ () ()).trans (sl Y e4)) ((a _ () ()).trans (sl Y U)) λQ i f j t r l A w=>
    q Q i f j t (s.trans r) l (N.trans A) λv h1 h2 h3=>(w v h1 h2 h3).trans ((a v h1 h2).trans (sn h3))
theorem NS(n)(hw:W.Ok)(fG:∀q∈al,aL W q.1/\aL W q.2){j:List Th}(ly:j.length<=2)(U:∀y∈j,bu W y/\df B W 72 9667 y/\aL W y){items K}(xs:List Th):(∀x∈xs,(bu W x/\df B W 72 9667 x/\aL W x)/\∀y∈j,((decide (x=y)||decide ((x,y)∈al))=true↔(x=y\/br W x y)))->
  ∀{σ τ es M L},jd W H D B la al σ τ es->τ.length+es.length<=M->M+2300000*xs.length+2000000<=10000000->L.lookup 140=some (.loc H.host)->L.lookup 257=some (.loc B.T.tab)->L.lookup 277=some (.loc B.A.w)->L.lookup 262=some (.tup (j.map (tE W)))->L.lookup 90=some (.loc la)->
  (∀L' c b es',jd W H D B la al c b es'->τ<+:b->b.length+es'.length<=M+2300000*xs.length->ag [B.T.rows,B.T.index,H.ins] σ c->(∀v,v≠219->v≠230->v≠284->v≠283->L'.lookup v=L.lookup v)->K .next L' c)->
  bU (aH (n+600)) (.one 283) Gh (.seq items) (xs.map (tE W)) L K σ:=by
 induction xs with
 |nil=>exactλJ σ τ es M L h hz T e1 e2 e3 e4 e5 q=>q L σ τ es h (abp _) hz .refl λv J J J J=>Y
 |cons x xs ih=>
  intro hx σ τ es M L h hz T e1 e2 e3 e4 e5 q;obtain⟨⟨px,tx,pz⟩,qu⟩:=hx x (.head _);rw[abt,Nat.mul_succ,abE (2300000*xs.length),←abu] at T q;have l1:=aa3 (abz 1150000 ly) M;exact aa (sl Y e4) (R2 n hw fG px tx pz j (λy m=>⟨(U y m).1,(U y m).2.1,(U y m).2.2,qu y m⟩) h hz (aaS (aa2 l1 _) (aaS (aa2 (aaW ..) _) T)) (sl Y e1) (sl Y e2) (sl Y e3) se (sl Y e5) λiM ek t_ S2 u s p N a=>
   ih (λz m=>hx z (.tail _ m)) u (aaS p l1) T ((a _ () () ()).trans (sl Y e1)) ((a _ () () ()).trans (sl Y e2)) ((a _ () () ()).trans (sl Y e3)) ((a _ () () ()).trans (sl Y e4)) ((a _ () () ()).trans (sl Y e5)) λQ f d i t r l A w=>
    q Q f d i t (s.trans r) l (N.trans A) λv h1 h2 h3 h4=>(w v h1 h2 h3 h4).trans ((a v h1 h2 h3).trans (sn h4)))
end
structure Pm(B W ps)(t:(Kind×Kind)×Nat):Prop where
 ta:eY B W 80 20000 t.1.1
 tb:eY B W 80 20000 t.1.2
 sa:eS W t.1.1
 sb:eS W t.1.2
 ka:jF W t.1.1
 kb:jF W t.1.2
 c:ze W t
 la:t.1.1.2.length<=100
 lb:t.1.2.2.length<=100
 dq:sT ps t.1
theorem OW(n){B W la}{al ps:List (Th×Th)}(fG:∀q∈al,aL W q.1/\aL W q.2)(zZ:∀p,p∈al↔p∈ps/\br W p.1 p.2){aq r all}(si:la∉[r,B.T.rows,B.T.index])(zV:aq∉[r,B.T.rows,B.T.index])(nr:r∉[B.A.w,B.A.rows,B.A.r0,B.A.r1,B.A.box,B.d_,B.params,B.T.tab,B.T.rows,B.T.index]){K}(Q):(∀t∈Q,Pm B W ps t)->
  ∀{σ τ L done},cq B W σ τ->τ.length+40000*Q.length<=10000000->σ[la]?=some (.list (al.map (cO W)))->σ[aq]?=some (.list all)->σ[r]?=some (.list (done.map λt=>jC t.2.2))->done.length+Q.length<=100->(∀t∈done,iR W τ t.2.1 t.1 t.2.2)->L.lookup 225=some (.loc r)->L.lookup 257=some (.loc B.T.tab)->L.lookup 277=some (.loc B.A.w)->L.lookup 90=some (.loc la)->
  (∀L' A z(l:List Item),cq B W A z->τ<+:z->z.length<=τ.length+40000*Q.length->l.map (λt=>(t.1,t.2.1))=Q->(∀t∈done++l,iR W z t.2.1 t.1 t.2.2)->A[r]?=some (.list ((done++l).map λt=>jC t.2.2))->ag [r,B.T.rows,B.T.index] σ A->(∀v,v≠87->v≠102->L'.lookup v=L.lookup v)->K .next L' A)->
  bU (aH (n+600)) (.many [87,102]) JC (.loc aq all) (Q.map λt=>pE W t.1) L K σ:=by
 induction Q with
 |nil=>exactλJ σ τ L done h hz wF N hr hd y6 e1 e2 e3 e4 q=>⟨N,q L σ τ [] h (abp _) (aaW ..) Y ((abO done).symm▸y6) ((abO done).symm▸hr) .refl λv J J=>Y⟩
 |cons t Q ih=>
  intro hq σ τ L done h hz wF N hr hd y6 e1 e2 e3 e4 q;have D:=hq t (.head _);obtain⟨⟨a,b⟩,c⟩:=t;have B8:80<=n+600:=abH ();refine⟨N,aa (sl Y (sl Y e1)) (ae hr (aa (sl Y (sl Y e2)) (aa (sl Y (sl Y e3)) (aa (sl Y se) (D.ta (n+600) σ τ B8 h (bl1 hz) λi ek t_ f ix=>?_)))))⟩;have U:=h.dK f.o;refine aa (sl Y (sl Y e2)) (aa (sl Y (sl Y e3)) (aa se (D.tb (n+600) ek t_ B8 U (U5 hz f.len) λj fi Ek d iy=>?_)));have o:=f.trans d;refine aa (sl Y se) (aa se (aa (sl Y (sl Y e4)) (Gr (n+597) (o.chg.get wF ((λh m=>h (.tail _ m)) si)) fG D.sa D.sb D.la D.lb λu H=>?_)));have T:=(U.dK d.o).keep H;have M:=H.get (o.chg.get hr (λm=>nr (abi [B.A.w,B.A.rows,B.A.r0,B.A.r1,B.A.box,B.d_,B.params,B.T.tab] m)));refine ae M ⟨lm (sz (aaS (aaS (aaW ..) hd) ())),eB (aaU AO.list (abA (l₂:=[((a,b),c,(i,j,dH (dF al) a b))])).symm) ?_⟩;have s:ag [r] u (u.set r (.list ((done++[((a,b),c,(i,j,dH (dF al) a b))]).map λt=>jC t.2.2))):=ag.set (.head _);have w:(u.set r (.list ((done++[((a,b),c,(i,j,dH (dF al) a b))]).map λt=>jC t.2.2)))[r]?=_:=ba M;revert s w;intro s w;have nt:=λx m=>ne1 λe=>nr (abi [B.A.w,B.A.rows,B.A.r0,B.A.r1,B.A.box,B.d_,B.params] (e▸m));have cc:=((o.chg.mono λJ=>.tail _).trans H.chg).trans (s.mono λJ m=>aaT.mp m▸.head _);refine ih (λt m=>hq t (.tail _ m)) (T.move s (λx m=>ne1 λe=>nr (e▸abe [B.T.tab,B.T.rows,B.T.index] m)) (T.tab.chg s (nt _ (.head _)) (nt _ (.tail _ (.head _))) (nt _ (.tail _ (.tail _ (.head _))))) (abp _)) (OD hz f.len d.len) (cc.get wF si) (cc.get N zV) w (by rw[aa4,abu,abE [_].length];exact hd) (sH (λt m=>(y6 t m).mono o.pre) ⟨D.ka,D.kb,D.c.1,D.c.2,ix.mono d.pre,iy,Nx zZ λx mx y my=>(D.dq x mx y my).resolve_left⟩) (sl Y (sl Y e1)) (sl Y (sl Y e2)) (sl Y (sl Y e3)) (sl Y (sl Y e4)) λL' A z l q1 q2 q3 q4 q5 q6 q7 q8=>?_
  rw[←List.append_cons] at q5 q6;exact q L' A z (((a,b),c,(i,j,dH (dF al) a b))::l) q1 (o.pre.trans q2) (WU f.len d.len q3) (aaU _ q4) q5 q6 (cc.trans q7) λv h1 h2=>(q8 v h1 h2).trans ((sn h2).trans (sn h1))
theorem fm{b:Type}{p:b->Prop}{a l}(h:p a)(t:∀x∈l,p x):∀x∈a::l,p x:=aa'.mpr ⟨h,t⟩
theorem Zz(n){W}(hw:W.Ok){T H}{D σ τ es}(h:e9 W T H D σ τ es)(hz:τ.length+es.length<=5000000){a b c d}(hr:∀t∈[a,b,c,d],iR W τ t.2.1 t.1 t.2.2)(B:dQ [a,b,c,d]=9928)(w:dQ [d,c,b,a]=9928){r}(hs:σ[r]?=some (.list ([a,b,c,d].map λt=>jC t.2.2)))(nr:r∉[T.rows,T.index,H.ins]){z o}(gz:σ[z]?=some o)(nz:z∉[T.rows,T.index,H.ins]){L}(p:L.lookup 140=some (.loc H.host))(l:L.lookup 225=some (.loc r)){Q}
  (q:∀u,u[z]?=some o->Q (.bool true) u):bH (aH (n+600)) (lE.body.drop 20) L (cL Q) σ:=by
 refine aa p (wI _ (E:=⟨W,T,H,D,⟨0,0,0,0,0,0,0,0,0⟩⟩) h hz λR M U i A pn=>?_)
 have out:∀{a},a<σ.length->a∉[T.rows,T.index,H.ins]->a∉(⟨W,T,H,D,R⟩:EN).mut M:=λal hn m=>(oH m).elim hn λm=>abN (pn _ m) al
 refine aa (sl Y l) (ae (i.get hs) (SW n (E:=⟨W,T,H,D,R⟩) hw [a,b,c,d] A hr (B.symm▸(():0+9928<=20000)) (B.symm▸()) (i.get hs) (out (aD hs) nr) se (sl Y p) λaaO f y r1 r2 r3 r4 r5 r6 r7 r8=>?_))
 rw[B] at r1 r3
 have N:y.au<=0+9928:=r3
 refine aa (r7.trans (sl Y l)) (bR (Zl r4 Y (ae az ?_)))
 have j:ai f (f++[.list ([a,b,c,d].map λt=>jC t.2.2).reverse]):=.app
 exact N7 n hw [d,c,b,a] (r1.kp j) (λt m=>(hr t ((List.reverse_perm [a,b,c,d]).mem_iff.mp m)).mono r2) (w.symm▸aaS (aa2 N 9928) ()) (w.symm▸()) az (λm=>Nat.lt_irrefl _ ((oH m).elim ((fm (aD r1.st.tab.rows) (fm (aD r1.st.tab.index) (fm (aD r1.st.host.ins) nofun)):∀x∈[T.rows,T.index,H.ins],x<f.length) _) (xE r1.st _))) r6 λaao s r9=>q s (r9.get (j.get (r8.get (i.get gz) (out (aD gz) nz))) (r5 z (aD (i.get gz)) (out (aD gz) nz)))
theorem Nm(b:W.Ok)(asc:bA (W.r0.map Mem.nm))(h:∀a∈W.six,d9 a):df B W 72 9667 .six:=by
 have l:=aaS b.len0.2 (():3<=100);have j:=aaS b.fO.2 (():3<=100);have d:=b.six.1.symm▸b.n;have l2:W.six.length<=2:=by rcases d with e|e<;>rw[e]<;>decide
 have f:=lH b .six;have q:∀{p:Mem×Kind->Prop},(∀r,p _)->∀m∈bW W .six,p m:=λh m c=>by
  obtain⟨r,s,rfl⟩:=aa6.mp (c);exact h r
 refine(Bd l j Y (.inr Y) ⟨⟨6,W.six,Y,λa m=>(h a m).ok,λJ J=>d⟩,nofun⟩ (q λr=>C1 l j b.dz l2 h) ?_ (λm c=>(f.2 m c).1) f.1 λτ ps i e a=>⟨ps,e,a.imp_mem λm c p=>IA (q (p:=λm=>xJ m.2) (λr=>FV h) m c)⟩).mono () ();show bA _;exact List.map_map▸asc
theorem oG(a:b=0\/b=8)(c:l.length<=2)(h:∀y∈l,df B W 72 9667 y):eY B W 80 20000 (b,l):=by
 have bits:=CW a;refine(qz (k:=(b,l)) ⟨?_,λe=>absurd (bits.1.symm.trans e) aaY,λe=>absurd (bits.2.1.symm.trans e) aaY,?_,aaS c ()⟩ c h).mono () ()
 .rcases a with rfl|rfl<;>exact dt Y
 .rcases a with rfl|rfl
  .exact show dr 0=0 by decide
  .exact show dr 8=8 by decide
theorem yg{B W}(c:W.Ok)(d:bA (W.r0.map Mem.nm)){one two}(p:Pair W one two){x}(b:bu W x):df B W 72 9667 x:=by
 cases x with
 |lf x=>cases(b.own)
 |own k as=>exact(wh (aaS c.len0.2 (():3<=100)) (aaS c.fO.2 (():3<=100)) (b.ok.2 k as Y) (b.ok.1.1▸oV) λa m=>gu (b.args a m)).mono () ()
 |six=>exact Nm c d λa m=>gu ((y_ p).args a m)
theorem kx(q:Q (.tup (k.2.map (tE W))) σ):getM (kE W k) (.int 1) Q σ:=q
theorem Dm(e:l.map (λt=>(t.1,t.2.1))=a):dQ l=(a.map Prod.snd).sum:=by
 rw[←e,List.map_map];rfl
theorem Vu(n){W}(H:W.Ok)(a0:bA (W.r0.map Mem.nm))(a1:bA (W.r1.map Mem.nm)){one two}(p:Pair W one two){third}(h3:∀y∈third,bu W y/\y∈bl one two)(uN:third.Nodup)(l3:third.length<=2)(J3:T3 two third){fb rb}(U:fb=0\/fb=8)(r:rb=0\/rb=8){x0 y0}(oF:x0∈a7)(om:y0∈a7)
  {σ A sg}(h:cS σ A W)(jQ:∃es,σ[A.w]?=some (.dict .str es)/\aO es (.str "signs")=some (.loc sg)/\es.length<=10){ss:List Nat}(gX:σ[sg]?=some (.list (ss.map iv)))(jt:ss.length=5){aq}(nM:σ[aq]?=some (.list ([(x0.kind,y0.kind),((fb,[Th.own 0 one]),(rb,[Th.own 0 two])),((fb,[Th.own 0 one]),(rb,third)),((rb,[Th.own 0 two]),(rb,third))].map (pE W)))){z o}(gz:σ[z]?=some o)(nz:z≠A.w){L}(iz:L.lookup 277=some (.loc A.w))(vH:L.lookup 99=some (.loc aq))(YM:L.lookup 262=some (.tup (third.map (tE W)))){Q}
  (q:∀aj,aj[z]?=some o->Q (.bool true) aj):bH (aH (n+600)) (lE.body.drop 13) L (cL Q) σ:=by
 have u:=PN H p
 have o1:bu W (.own 0 one):=tO H () (p.both (.inl Y))
 have o2:bu W (.own 0 two):=tO H () (p.both (.inr Y))
 have i1:Th.own 0 one∈bl one two:=k_ () (.inl Y)
 have i2:Th.own 0 two∈bl one two:=k_ () (.inr (.inr (.inl Y)))
 have c:∀{x}{P:Th->Prop},P x->∀y∈[x],P y:=λh=>fm h nofun
 have k1:UK W (bl one two) (fb,[Th.own 0 one]):=Ae U (c i1) (():1<=2)
 have k2:UK W (bl one two) (rb,[Th.own 0 two]):=Ae r (c i2) (():1<=2)
 have k3:UK W (bl one two) (rb,third):=Ae r (λy m=>(h3 y m).2) l3
 refine aa iz (aa vH (Wm (n+595) u H h nM (():4<=10) (fm ⟨t8 oF,t8 om⟩ (fm ⟨k1,k2⟩ (fm ⟨k1,k3⟩ (fm ⟨k2,k3⟩ nofun)))) λf la al ps s M fG ql zZ=>?_))
 have IX:∀t∈al,aL W t.1/\aL W t.2:=λt m=>have t:=zZ t ((fG t).mp m).1;⟨(u.look _ t.1).2.2,(u.look _ t.2).2.2⟩
 refine aae (n+597) az λfi rF c₂ l₂=>⟨Y,?_⟩
 have k₂:=ai.ext ai.app (aaX _) c₂
 rw[show(f++[AO.inst 180 []]).length=f.length+1 from aa4] at rF l₂
 obtain⟨T,eT⟩:∃T,T=tabAt f.length (f.length+1):=⟨_,Y⟩
 have lT:[T.tab,T.rows,T.index,T.decls,T.bounds,T.defaults,T.names]=List.range' f.length 7:=by rw[eT];rfl
 have tT:f.length=T.tab:=by rw[eT];rfl
 rw[←eT] at rF
 have nX:∀{a},a∈[T.tab,T.rows,T.index,T.decls,T.bounds,T.defaults,T.names]->f.length<=a/\a<f.length+7:=λm=>List.mem_range'_1.mp (lT▸m)
 have lY:=lT▸List.nodup_range'
 clear lT eT
 have rt:=s.trans k₂
 obtain⟨es,w1,w2,w3⟩:=jQ
 have zV:aq≠A.w:=λe=>by rw[e,w1] at nM;cases nM
 have si:la≠A.w:=λe=>by rw[e,ai.get s w1] at M;cases M
 rw[tT]
 refine aa se (aa (sl Y (sl Y iz)) (Tf (n+519) H a0 a1 rF lY (h.keep rt) (λa m m'=>abN (aaS s.1 (nX m').1) ((fm (aD w1) (fm (aD h.rows) (fm (aD h.r0) (fm (aD h.r1) (fm (aD h.box) (fm (aD gX) nofun))))):∀a∈[A.w,A.rows,A.r0,A.r1,A.box,sg],a<σ.length) a m)) ⟨es,ai.get rt w1,w2,w3⟩ (ai.get rt gX) jt λB D d τ lo=>?_))
 obtain⟨bs,rfl,rfl,dec,dW,A3,chg,Di⟩:=lo
 have zM:∀{a},a<f.length->a≠B.A.w->a∉[B.A.w,B.T.rows,B.T.index,B.T.decls,B.T.bounds,B.T.defaults,B.T.names]:=λh1 h2 m=>(aa5.mp m).elim h2 λm=>abN (nX (.tail _ m)).1 h1
 have Yy:=chg.get (ai.get rt gz) (zM (abb (aD gz) s.1) nz)
 have w:=chg.get (ai.get rt nM) (zM (abb (aD nM) s.1) zV)
 have Df:=chg.get (k₂.get M) (zM (aD M) si)
 have lq:=abb (aD nM) s.1
 have lz:=abb (aD gz) s.1
 have ll:=aD M
 have yh:=aaS (aaS (aa2 (ab7 _) 8) l₂) chg.1
 refine aa se (Oc (n+598) az λj hh hi lD=>⟨Y,?_⟩)
 have N:=ai.ext ai.app (aaX _) lD
 have l4:d.length+2<=j.length:=by have:=aD hi;rwa[aa4] at this
 rw[aa4] at hh hi
 have JF:=Ms bs
 have Wz:=λk hk=>(dec.decl k hk).elim λfs e=>aD e.1
 have rI:∀{a},a∈[B.T.rows,B.T.index]->a∈[B.T.tab,B.T.rows,B.T.index,B.T.decls,B.T.bounds,B.T.defaults,B.T.names]:=λm=>.tail _ (abe [B.T.decls,B.T.bounds,B.T.defaults,B.T.names] m)
 have n3:∀{a},a∉[B.T.rows,B.T.index]->a≠d.length+1->a∉[B.T.rows,B.T.index,d.length+1]:=λh h' m=>(abq.mp (m)).elim h λm=>h' (aaT.mp m)
 have n7:∀{a},a∈[B.T.tab,B.T.rows,B.T.index,B.T.decls,B.T.bounds,B.T.defaults,B.T.names]->a<d.length:=λm=>abb (Nat.lt_succ_of_lt (nX m).2) yh
 have ne2:∀(i){a},[B.T.tab,B.T.rows,B.T.index,B.T.decls,B.T.bounds,B.T.defaults,B.T.names][i]?=some a->decide (i≠1)=true->decide (i≠2)=true->a∉[B.T.rows,B.T.index]:=λi a e d1 d2 m=>(aa5.mp m).elim (bV lY i 1 e Y (dt d1)) λm=>bV lY i 2 e Y (dt d2) (aaT.mp m)
 have nq:∀{a},a<d.length->a≠d.length+1:=λh=>abx (Nat.lt_succ_of_lt h)
 have dk:∀k<4,D.a k∉[B.T.rows,B.T.index,d.length+1]:=λk hk=>n3 (λm=>abN (aaS (aaS (aa3 (():7<=9) _) l₂) (Di k hk)) (nX (rI m)).2) (nq (Wz k hk))
 have xe:ai j (j++[.list []]):=.app
 have mh:ai d (j++[.list []]):=ag.trans N xe
 have zE:df B W 72 9667 (.own 0 one):=yg H a0 p o1
 have yi:df B W 72 9667 (.own 0 two):=yg H a0 p o2
 have zP:∀y∈third,df B W 72 9667 y:=λy m=>yg H a0 p (h3 y m).1
 have wq:=λy m=>(u.look y (h3 y m).2).2.2
 have s1:=(u.look _ i1).2.2
 have s2:=(u.look _ i2).2.2
 have sw:∀{b l},(b=0\/b=8)->(∀y∈l,aL W y)->eS W (b,l):=λhb hl=>⟨hb.elim (λe=>e▸dt Y) λe=>e▸dt Y,hl⟩
 have p3:=λy m=>(h3 y m).1
 have n5:∀{a},a<f.length->a∉[j.length,B.T.rows,B.T.index]:=λh m=>(aa5.mp m).elim (λe=>abN (aaS (aaW _ 8) (aaS yh (aaS (aaW _ 2) l4))) (e▸h)) λm=>abN (nX (rI m)).1 h
 have Bs:=λm=>abN (aaS (aaW _ 2) l4) (JF _ m)
 have rU:∀x:Th,[x].Nodup:=λx=>abv.mpr ⟨nofun,ab6⟩
 have GZ:third.length<=100:=aaS l3 ()
 have g01:=ql
 have d3:=ql _ (.tail _ (.tail _ (.head _)))
 have d4:=ql _ (.tail _ (.tail _ (.tail _ (.head _))))
 have vZ:=aaS H.len0.2 (():3<=100)
 have JD:=aaS H.fO.2 (():3<=100)
 refine aa (sl Y (sl Y (sl Y (sl Y vH)))) (ae (xe.get (N.get w)) (OW n IX fG (n5 (aD M)) (n5 lq) Bs [((x0.kind,y0.kind),5),(((fb,[Th.own 0 one]),(rb,[Th.own 0 two])),2481),(((fb,[Th.own 0 one]),(rb,third)),4961),(((rb,[Th.own 0 two]),(rb,third)),2481)] (fm ⟨(uy vZ JD (gu oF)).mono () (),(uy vZ JD (gu om)).mono () (),jh (gu oF).ok,jh (gu om).ok,Jz oF,Jz om,⟨Cz H oF om,Cz H om oF⟩,aaS (gU x0) (),aaS (gU y0) (),ql _ (.head _)⟩
  (fm ⟨oG U (():1<=2) (c zE),oG r (():1<=2) (c yi),sw U (c s1),sw r (c s2),oT U (rU _) (c o1),oT r (rU _) (c o2),FH H (c o1) (c o2) (():1+2480*(1*1)<=2481),show 1<=100 by decide,show 1<=100 by decide,ql _ (.tail _ (.head _))⟩
  (fm ⟨oG U (():1<=2) (c zE),oG r l3 zP,sw U (c s1),sw r wq,oT U (rU _) (c o1),oT r uN p3,FH H (c o1) p3 (show 1+2480*(1*third.length)<=4961 by lia),show 1<=100 by decide,GZ,d3⟩
  (fm ⟨oG r (():1<=2) (c yi),oG r l3 zP,sw r (c s2),sw r wq,oT r (rU _) (c o2),oT r uN p3,N0 H o2 J3 p3,show 1<=100 by decide,GZ,d4⟩ nofun)))) (done:=[]) (bs.keep mh) (show τ.length+40000*4<=10000000 from aaS (aa2 A3 _) ()) (mh.get Df) (mh.get w) az (():0+4<=100) nofun se (sl Y (sl Y se)) (sl Y (sl Y (sl Y (sl Y iz)))) (sl Y (sl Y (sl Y se))) λPj pO aau l yY Rc Y' em ZR MW ip Mq=>?_))
 have ll:l.length=4:=by have:=aaU List.length em;rw[aa1] at this;exact this
 have ec:=(Dm em).trans (():List.sum [5,2481,4961,2481]=9928)
 have Qc:=(Dm ((List.map_reverse).trans (aaU List.reverse em))).trans (():List.sum [2481,4961,2481,5]=9928)
 obtain⟨i0,j1,j2,j3,rfl⟩:=vv ll
 have S7:=(⟨bs.base,R0 dW,dW,nofun,bs.tab.keep N,⟨hh,hi⟩,⟨N.get dec.list,λk hk=>(dec.decl k hk).elim λfs e=>⟨fs,N.get e.1,e.2⟩⟩,Es (lY.sublist (.cons _ (.cons_cons _ (.cons_cons _ (List.nil_sublist _))))) λm=>nq (n7 (rI m)) Y,fm (n3 (ne2 0 Y Y Y) (nq (n7 (.head _)))) (fm (n3 (ne2 3 Y Y Y) (nq (n7 (.tail _ (.tail _ (.tail _ (.head _))))))) (fm (dk 0 ()) (fm (dk 1 ()) (fm (dk 2 ()) (fm (dk 3 ()) (fm (n3 (λm=>Nat.lt_irrefl _ (n7 (rI m))) (abx (ab3 _))) nofun))))))⟩:e9 W B.T ⟨d.length,d.length+1⟩ D j τ []).WN ((ai.chg xe).trans ip) (λa m=>(aa5.mp m).elim (λe=>.inr (aa7 e.symm)) .inl) yY.tab Rc
 have ng:∀{a},a<f.length->a∉[B.T.rows,B.T.index,d.length+1]:=λh=>n3 (λm=>abN (nX (rI m)).1 h) (nq (abb h (aaS (aaW _ 8) yh)))
 have e5:∀{v x},decide (v≠87)=true->decide (v≠102)=true->(aT (aT (aT (aT L 90 (.loc la)) 257 (.loc B.T.tab)) 140 (.loc d.length)) 225 (.loc j.length)).lookup v=some x->Pj.lookup v=some x:=λh1 h2=>(Mq _ (dt h1) (dt h2)).trans
 have Ez:=e5 Y Y (sl Y se)
 have G5:=ip.get (mh.get w) (n5 lq)
 have IQ:=e5 Y Y (sl Y (sl Y (sl Y (sl Y vH))))
 refine aa IQ (ae G5 (aa IQ (ae G5 ⟨⟨nofun,nofun,sz (():2<=16000000)⟩,?_⟩)))
 refine NS n H IX l3 (λy m=>⟨p3 y m,zP y m,wq y m⟩) [.own 0 one,.own 0 two] (fm ⟨⟨o1,zE,s1⟩,λy m=>Bh fG (d3 _ (.head _) y m)⟩ (fm ⟨⟨o2,yi,s2⟩,λy m=>Bh fG (d4 _ (.head _) y m)⟩ nofun)) ⟨S7,yY,ip.get (mh.get Df) (n5 (aD M)),ng (aD M),λa m=>n3 (yY.ne a m) (nq (JF a (abe [B.T.tab,B.T.rows,B.T.index] m)))⟩ (aaS Y' (aaS (aa2 A3 (40000*4)) ())) (():200000+2300000*2+2000000<=10000000) Ez (e5 Y Y (sl Y (sl Y se))) (e5 Y Y (sl Y (sl Y (sl Y (sl Y iz))))) (e5 Y Y (sl Y (sl Y (sl Y (sl Y YM))))) (e5 Y Y (sl Y (sl Y (sl Y se)))) λaap D8 aaA aar Wn Td JQ oN Ea=>?_
 have Bo:=n3 (λm=>Bs (abi [B.A.w,B.A.rows,B.A.r0,B.A.r1,B.A.box,B.d_,B.params,B.T.tab] m)) (Nat.ne_of_gt l4)
 have Tr:=ip.get (mh.get Yy) (n5 lz)
 rw[show[Th.own 0 one,Th.own 0 two].length=2 from Y] at JQ
 have z8:=aaS JQ (():200000+2300000*2<=5000000)
 exact Zz n H Wn.A' z8 (λt m=>(ZR t m).mono Td) ec Qc (oN.get MW Bo) Bo (oN.get Tr (ng lz)) (ng lz) ((Ea _ () () () ()).trans Ez) ((Ea _ () () () ()).trans (e5 Y Y se)) q
theorem Rn(n)(e1:L.lookup 119=some (.loc d))(l:List AK):(∀a∈l,a∈iI)->∀{σ},bL σ d m nums->∀{Q},(∀(l':List AK)c,l'.length=l.length->(∀b∈l',b∈a7)->bL c d m nums->ag [d] σ c->Q (l'.map aE) c)->
  bK (aH (n+600)) (X.call 73 1185 [(X.v 119),(X.v 156)]) (.one 156) none (.seq items) L (l.map aE) Q σ:=by
 induction l with
 |nil=>exactλJ σ h Q q=>q [] _ Y nofun h .refl
 |cons a l w=>exactλt σ h Q q=>aa (sl Y e1) (aa se (Yg (n+600) (abH ()) h (t a (.head _)) λb s u j r=>w (λx m=>t x (.tail _ m)) j λl' f e m i p=>q _ f (aaU (·+1) e) (fm u m) i (r.trans p)))
theorem UD{W:World}{one two}{j:Nat}(h:j<6):iK [.tup [.tup [.int 1,.tup (one.map aE)]],.tup [.tup [.int 1,.tup (two.map aE)]],.tup [.tup [.int 6,.tup (one.map aE)]],.tup [.tup [.int 6,.tup (two.map aE)]],.tup [.tup [.int 1,.tup (one.map aE)],.tup [.int 0,.tup (two.map aE)]],.tup [.tup [.int 0,.tup (one.map aE).reverse]]] (j)=some (.tup ((g0 {W with six:=dM one two j} one two j).map (tE {W with six:=dM one two j}))):=by
 rw[←List.map_reverse];match j,h with
 |0,_=>rfl
 |1,_=>rfl
 |2,_=>rfl
 |3,_=>rfl
 |4,_=>rfl
 |5,_=>rfl
theorem R9(n){p u σ A}{sg d W}(j:nU p A sg W u)(c:ag [d] u σ)(hd:d<p.length){one two:List AK}(s:one.length=W.n)(B:two.length=one.length)(y:∀a∈one,a∈a7)(w:∀a∈two,a∈a7){fo wd}(M:fo<6)(rY:wd<4){z o}(gz:σ[z]?=some o)(Ox:z<p.length){L}
  (i:L.lookup 189=some (.tup (one.map aE)))(h:L.lookup 273=some (.tup (two.map aE)))(PO:L.lookup 132=some (iv fo))(D:L.lookup 282=some (iv wd))(iz:L.lookup 277=some (.loc A.w)){Q}(q:∀T,T[z]?=some o->Q (.bool true) T):bH (aH (n+600)) (lE.body.drop 9) L (cL Q) σ:=by
 have Aw:=s.symm▸j.n
 refine aa i (aa h (aa i (aa h (aa i (aa h (aa i (bR (HQ (by rw[aa1];exact Aw) (aa PO (a5 (UD (W:=W) M) ?_))))))))))
 refine aa (sl Y D) (lO (l:=[0,0,8,8]) Y rY Y λH Je=>aa (sl Y i) (aa (sl Y (sl Y D)) (lO (l:=[0,0,8,0]) Y rY Y λt U=>?_)))
 have YZ:=(():∀x∈[0,0,8,8],x=0\/x=8) H Je
 have uE:=(():∀x∈[0,0,8,0],x=0\/x=8) t U
 have nd:∀{a},a∈[A.w,A.rows,A.r0,A.r1,A.box,sg]->a∉[d]:=λm=>ne1 λe=>abN (j.new _ m) (e▸hd)
 obtain⟨es,w1,w2,w3⟩:=j.signs
 obtain⟨sl',s1,s2⟩:=j.PF
 have r:dM one two fo=one\/dM one two fo=two:=by unfold dM;split;exact .inr Y;exact .inl Y
 have pr:Pair {W with six:=dM one two fo} one two:=⟨s,B.trans s,y,w,r⟩
 have s6:=pr.both r
 have hW:World.Ok {W with six:=dM one two fo}:=⟨j.n,j.dz,j.len0,j.fO,j.kY,j.oY,j.bx,j.lW,⟨s6.1,λa m=>nN a (s6.2 a m)⟩⟩
 have N:=j.w.chg c λa m=>nd (abe [sg] m)
 obtain⟨h3,uN,l3⟩:=MO hW pr M
 clear Je U r s Aw
 cases one with
 |nil=>exact absurd (pr.1) (j.n.elim (λe=>e▸()) λe=>e▸())
 |cons f one=>
  cases two with
  |nil=>cases B
  |cons b two=>
   refine aa (sl Y (sl Y (sl Y i))) (aa (sl Y (sl Y (sl Y h))) (aa (sl Y se) (aa se (aa (sl Y (sl Y (sl Y h))) (aa (sl Y se) (aa se (aa (sl Y (sl Y se)) (aa se (aa (sl Y (sl Y (sl Y h))) (aa se (aa (sl Y (sl Y se)) ?_)))))))))));have ga:(σ++[AO.list [AV.tup [aE f,aE b],AV.tup [.tup [iv H,.tup [.tup [.int 0,.tup ((f::one).map aE)]]],.tup [iv t,.tup [.tup [.int 0,.tup ((b::two).map aE)]]]],.tup [.tup [iv H,.tup [.tup [.int 0,.tup ((f::one).map aE)]]],.tup [iv t,.tup ((g0 {W with six:=dM (f::one) (b::two) fo} (f::one) (b::two) fo).map (tE {W with six:=dM (f::one) (b::two) fo}))]],.tup [.tup [iv t,.tup [.tup [.int 0,.tup ((b::two).map aE)]]],.tup [iv t,.tup ((g0 {W with six:=dM (f::one) (b::two) fo} (f::one) (b::two) fo).map (tE {W with six:=dM (f::one) (b::two) fo}))]]]])[σ.length]?=some (.list ([(f.kind,b.kind),((H,[Th.own 0 (f::one)]),(t,[Th.own 0 (b::two)])),((H,[Th.own 0 (f::one)]),(t,g0 {W with six:=dM (f::one) (b::two) fo} (f::one) (b::two) fo)),((t,[Th.own 0 (b::two)]),(t,g0 {W with six:=dM (f::one) (b::two) fo} (f::one) (b::two) fo))].map (pE {W with six:=dM (f::one) (b::two) fo}))):=by
    rw[az,gZ {W with six:=dM (f::one) (b::two) fo} f,gZ {W with six:=dM (f::one) (b::two) fo} b];rfl
   have ca:=c.trans (ai.chg (ai.app (x:=[AO.list [AV.tup [aE f,aE b],AV.tup [.tup [iv H,.tup [.tup [.int 0,.tup ((f::one).map aE)]]],.tup [iv t,.tup [.tup [.int 0,.tup ((b::two).map aE)]]]],.tup [.tup [iv H,.tup [.tup [.int 0,.tup ((f::one).map aE)]]],.tup [iv t,.tup ((g0 {W with six:=dM (f::one) (b::two) fo} (f::one) (b::two) fo).map (tE {W with six:=dM (f::one) (b::two) fo}))]],.tup [.tup [iv t,.tup [.tup [.int 0,.tup ((b::two).map aE)]]],.tup [iv t,.tup ((g0 {W with six:=dM (f::one) (b::two) fo} (f::one) (b::two) fo).map (tE {W with six:=dM (f::one) (b::two) fo}))]]]])));exact Vu n hW j.MI j.Mx pr h3 uN l3 (QE M) YZ uE (y f (.head _)) (w b (.head _)) ⟨(N.keep .app).w,(N.keep .app).rows,(N.keep .app).r0,(N.keep .app).r1,(N.keep .app).box⟩ ⟨es,ca.get w1 (nd (.head _)),w2,w3⟩ (ca.get s1 (nd (abi [A.w,A.rows,A.r0,A.r1,A.box] (.head _)))) s2 ga (ay gz) (λe=>abN (j.new _ (.head _)) (e▸Ox)) (sl Y (sl Y (sl Y (sl Y iz)))) se (sl Y (sl Y (sl Y se))) q
theorem Rp(n){σ}{d m nums}(h:bL σ d m nums){z o}(gz:σ[z]?=some o)(u:z≠d){L}(b:L.lookup 119=some (.loc d)){Q}(q:∀t,t[z]?=some o->Q (.bool true) t):bH (aH (n+600)) (lE.body.drop 3) L (cL Q) σ:=by
 have w:=h.2.1.elim λa=>aD;refine aa b (SV _ h λA sg W r s T c₁=>aa (sl Y b) (eE _ T () λj1 fi MV N c₂=>xi MV λj Y9=>aa (sl Y b) (eE (n+599) N () λj2 p kJ M jr=>xi kJ λi R6=>?_)));have y:ag [d] r (p++[AO.list [aE j,aE i]]):=(c₂.trans jr).trans (ai.chg .app);refine aa se (aa (sl Y se) (BW (s.w.chg y (λa m=>ne1 λe=>abN (s.new _ (abe [sg] m)) (e▸w))) (bR (L3 az s.n (ae az ?_)))));have f:([j,i].take W.n).length=W.n:=by rcases s.n with e|e<;>rw[e]<;>rfl
 have c:∀a∈[j,i].take W.n,a∈iI:=λa m=>fm Y9 (fm R6 (List.forall_mem_nil _)) a (List.mem_of_mem_take m);have U:[aE j,aE i].take W.n=([j,i].take W.n).map aE:=(show([j,i].map aE).take W.n=([j,i].take W.n).map aE from List.map_take.symm);rw[U];revert f c;generalize[j,i].take W.n=one;intro f c;have l2:one.length<=16000000:=aaS (aa7 f) (s.n.elim (λe=>e▸()) λe=>e▸());refine⟨lm (sz l2),aa se ⟨lm (sz l2),Rn n (er Y (sl Y (sl Y (sl Y b)))) one c ((M.keep .app).keep .app) λtwo pO l B H ip=>ae az ⟨lm (sz (l▸l2)),aa (sl Y (sl Y (sl Y (sl Y b)))) (eE _ (H.keep .app) () λfo uL Sj D qP=>aa (sl Y (sl Y (sl Y (sl Y (sl Y b))))) (eE _ D () λwd ux rY n_ lF=>?_))⟩⟩⟩;have x:=(((y.trans (ai.chg .app)).trans ip).trans (ai.chg .app)).trans (qP.trans lF);exact R9 n s x w f l (λa m=>(wi a (c a m)).2.1) B Sj rY (x.get (c₁.get gz (ne1 u)) (ne1 u)) (aD gz) (sl Y (sl Y (sl Y se))) (sl Y (sl Y se)) (sl Y se) se (sl Y (sl Y (sl Y (sl Y (sl Y se))))) q
theorem Vx(hs:σ[src]?=some (.list all))(l:List Int):∀{Q},(∀nums:List Nat,nums.length=l.length->Q (nums.map iv) σ)->
  bK c (X.mod (X.v 283) (X.int 9973)) (.one 283) none (.loc src all) L (l.map .int) Q σ:=by
 induction l with
 |nil=>exactλq=>⟨hs,q [] Y⟩
 |cons x l a=>
  intro Q q;obtain⟨k,b⟩:=Z5 x;exact⟨hs,aa se (a λnums e=>b.symm▸q (k::nums) (aaU _ e))⟩
theorem xV{k K L σ}(h:k L K σ):kS k K .next L σ:=h
theorem F1{σ}{L u nm o}(d:σ[0]?=some o)(c:σ[u]?=some (.list (nm.map iv)))(b:nm≠[])(f:nm.length<=64)(e:L.lookup 186=some (.loc u)){Q}(q:∀a,a[0]?=some o->Q (.bool true) a):bH (aH (89+600)) (lE.body.drop 2) L (cL Q) σ:=
 aa e (Rp 89 ⟨Nat.ne_of_gt (aD c),⟨0,az⟩,ay c,b,f⟩ (ay d) (abx (aD d)) se q)
theorem Pf{o}{ns:List Int}(l:ns.length<=63):C 690 1287 [.loc 0] (λv b=>v=.bool true/\b[0]?=some (.dX o (ns.map .int))) [.dX o (ns.map .int)]:=by
 have f:([AO.dX o (ns.map .int)])[0]?=some _:=Y;revert f;generalize([AO.dX o _])=σ;refineλf=>fn lE Y Y (bR (RF f l λk j=>ae az ⟨lm (sz (aaS j ())),Vx az k λnums a=>?_⟩));refine ae az ⟨(aaZ (lm (a.symm▸j)) ()),?_⟩;have d:=ay (x:=[AO.list (nums.map iv)]) (ay (x:=[AO.list (k.map .int)]) f);have i:=az (σ:=σ++[AO.list (k.map .int)]) (o:=AO.list (nums.map iv));revert d i;generalize _++[AO.list _]=c;generalize(σ++[AO.list _]).length=u;refineλd i=>cd (λJ=>?_) λne=>xV (F1 d i (λe=>ne (e▸Y)) (aaS (a.symm▸j) ()) Y λb h=>⟨Y,h⟩);show kS (bH (aH 689) []) (kS (bH _ _) (cL _)) .next _ (c++[AO.list (List.map iv [0,1,0,0,1,0,0,0,0,0,0,1,2,2,3,1,1,2,0,2,0,1,1,3,0])]);exact xV (xV (F1 (ay d) az () () Y λb h=>⟨Y,h⟩))
end W
end Mine.Internal
end
namespace Mine.Internal
section
set_option maxRecDepth 100000
open Mine.Internal.H (FO HF lf dE qM lr fP)
namespace W
theorem TM{N:Nat}(hN:N<=690)(H:zD N):WalkX qM lr (λ_ _=>True) (λs=>s.heap) (λw=>HF w.params) dE.row.toRowW fP [] (λf vs=>PySem.call f vs):=by
 intro w j s₁ mg mb G c a o pm cd doc dV kV ho hd hcd hD z hg args vals as d h l u t A;have U:=h;wrow_args h l u t A;rename_i ns hs _ _ _ _ Q M x vs as3 hL ra w1 r0 hI vZ xH hc2;have T:=G.T;have c:j.heap=HF w.params:=c;have keeps:∀b o,(HF w.params).get? b=some o->s₁.heap.get? b=some o:=by rw[←c];exact d.keeps
 let g:Gl:=ZN (w:=w) (s₁:=s₁) keeps T.g T.b T.nolimit T.builtins;have hx:x∈Q++M:=by
  cases r0
  exact abe _ abK
 obtain⟨ol,y,L,m,D⟩:=hL;have q:(HF w.params).objs.size<=x:=by rw[←c];exact(d.within.2.2 x hx).1
 have hlen:ns.length<=63:=by omega
 have B:a=1287:=by
  obtain⟨v,e1,e2⟩:=any_some (RD w.params);obtain⟨b,e3,e4⟩:=y2 e2;have i:g.mg fP.name=some (.ref a):=z;rw[zI g.G fP.name,e1,e3] at i;exact(Value.ref.inj (aa0 i)).symm.trans (abc.mp e4)
 subst B;refine wpAny_mono (Wc hN H (g:=g) (P:=w.params) Y Y keeps y L D hI q hlen) (λr s' p=>?_) λ_ _ f=>f.elim;obtain⟨e,old,h',tk',es⟩:=p;subst e;exact⟨.inl ⟨_,_,[],Y,λ_=>Y,.bool true,Lj,unshared_nil⟩,.of_keep old,by rw[es],.of_eq (by rw[es];exact hg)⟩
theorem Wa{N:Nat}(a:N<=690)(ws:dE.row.wellSaid=true)(H:zD N):dE.row.Holds:=Mine.Internal.H.Me ws (TM a H)
theorem Nr(ws:Mine.Internal.H.dE.row.wellSaid=true):Mine.Internal.H.dE.row.Holds:=Wa (N:=690) (by decide) ws λo ns h=>Pf (o:=o) h
end W
end
end Mine.Internal
end
theorem PySem.Challenge.cw_xm0555_01_holds : PySem.Challenge.rw_xm0555_01.Holds :=
 holds_law Mine.Internal.Mt Mine.Internal.W.Nr
